import PyProof.Rows.All
import Wide.All
import OpenK.AllK
import Wide.FinOn
import Lean
import PySem.Challenge.RW_no0258_01
open PySem PySem.W PySem.Spec PySem.Calls PyProof.Rows
set_option Elab.async false
set_option maxRecDepth 100000
set_option genInjectivity false
set_option compiler.extract_closed false
set_option linter.unusedVariables false
set_option linter.unusedSimpArgs false
namespace PySem.W.Fast
theorem tw9537544019596298400:True:=⟨⟩
theorem tw12268644228514654432:True:=⟨⟩
theorem tw14224011070414065920:True:=⟨⟩
theorem tw10015664371746657536:True:=⟨⟩
theorem tw9979284746773624096:True:=⟨⟩
theorem tw2193789692954389824:True:=⟨⟩
theorem tw17069979004554194336:True:=⟨⟩
theorem tw5976474108018559520:True:=⟨⟩
theorem tw15376083050721069600:True:=⟨⟩
theorem tw12825359941727978080:True:=⟨⟩
theorem tw9674257727999782656:True:=⟨⟩
theorem tw16817318245366136608:True:=⟨⟩
theorem tw7483462131439158144:True:=⟨⟩
theorem tw12177639751122801600:True:=⟨⟩
theorem tw3118938333895590913:True:=⟨⟩
theorem tw8459811325457737761:True:=⟨⟩
theorem tw12945968074294007009:True:=⟨⟩
theorem tw5721027456603625697:True:=⟨⟩
theorem tw3764465048917985505:True:=⟨⟩
theorem tw16741492637210864865:True:=⟨⟩
theorem tw14821650378409806113:True:=⟨⟩
theorem tw17537468021006742817:True:=⟨⟩
theorem tw11543547407058413889:True:=⟨⟩
theorem tw16180582048198870337:True:=⟨⟩
theorem tw2315820567201803617:True:=⟨⟩
theorem tw2334299552400917057:True:=⟨⟩
theorem tw8603108125212654177:True:=⟨⟩
theorem tw16916688483869632129:True:=⟨⟩
theorem tw15079194523842364033:True:=⟨⟩
theorem tw15195428891847259777:True:=⟨⟩
theorem tw11317593695737139937:True:=⟨⟩
theorem tw13236226663087606529:True:=⟨⟩
theorem tw6792406925840432001:True:=⟨⟩
theorem tw1414301608579184545:True:=⟨⟩
theorem tw12726346659333912481:True:=⟨⟩
theorem tw7581816359482902497:True:=⟨⟩
theorem tw14752937906017858562:True:=⟨⟩
theorem tw1523951592034530338:True:=⟨⟩
theorem tw12850107946570832962:True:=⟨⟩
theorem tw3856783459128436802:True:=⟨⟩
theorem tw9529234661008812162:True:=⟨⟩
theorem tw9594665118957945026:True:=⟨⟩
theorem tw13559156169165276386:True:=⟨⟩
theorem tw9948023125614773506:True:=⟨⟩
theorem tw14209830616999942402:True:=⟨⟩
theorem tw12835720964997663042:True:=⟨⟩
theorem tw4797165386629745026:True:=⟨⟩
theorem tw3093977132361051618:True:=⟨⟩
theorem tw13640514254501968386:True:=⟨⟩
theorem tw4558998842232669794:True:=⟨⟩
theorem tw14714103240675001986:True:=⟨⟩
theorem tw6679490504615227074:True:=⟨⟩
theorem tw8860024209350480642:True:=⟨⟩
theorem tw1436043675916922690:True:=⟨⟩
theorem tw8595292554425487202:True:=⟨⟩
theorem tw11892598404827812706:True:=⟨⟩
theorem tw15475462885187679331:True:=⟨⟩
theorem tw11788150170368784547:True:=⟨⟩
theorem tw2922074901204462755:True:=⟨⟩
theorem tw11817470609975844035:True:=⟨⟩
theorem tw13789449189825218787:True:=⟨⟩
theorem tw7286323032743288035:True:=⟨⟩
theorem tw12182807814244774211:True:=⟨⟩
theorem tw11310463157757771331:True:=⟨⟩
theorem tw17863021456227041891:True:=⟨⟩
theorem tw136631920214876835:True:=⟨⟩
theorem tw151948405760981731:True:=⟨⟩
theorem tw10887116778572429059:True:=⟨⟩
theorem tw3315324234476444515:True:=⟨⟩
theorem tw2599325451414397859:True:=⟨⟩
theorem tw505943868828395459:True:=⟨⟩
theorem tw7232422423428716515:True:=⟨⟩
theorem tw1638017585896720355:True:=⟨⟩
theorem tw2968979199505139716:True:=⟨⟩
theorem tw7299951869573292228:True:=⟨⟩
theorem tw4039474712603431140:True:=⟨⟩
theorem tw17274371674624000324:True:=⟨⟩
theorem tw4525517667737911620:True:=⟨⟩
theorem tw10007627690174824804:True:=⟨⟩
theorem tw11740888236361828772:True:=⟨⟩
theorem tw12734952128020822468:True:=⟨⟩
theorem tw12392613427281201732:True:=⟨⟩
theorem tw12233582284571471492:True:=⟨⟩
theorem tw17975652961387846372:True:=⟨⟩
theorem tw15168306246750427876:True:=⟨⟩
theorem tw3386650904741475044:True:=⟨⟩
theorem tw7269565832213808900:True:=⟨⟩
theorem tw16752143609539240740:True:=⟨⟩
theorem tw6587116730350146372:True:=⟨⟩
theorem tw1763209079605825380:True:=⟨⟩
theorem tw16350708796919097252:True:=⟨⟩
theorem tw10424941004445345732:True:=⟨⟩
theorem tw1651231452613355621:True:=⟨⟩
theorem tw2210778516479634661:True:=⟨⟩
theorem tw8703263022893421829:True:=⟨⟩
theorem tw17672482021469178181:True:=⟨⟩
theorem tw15278061642289888581:True:=⟨⟩
theorem tw3442601649717412197:True:=⟨⟩
theorem tw1402947280878808549:True:=⟨⟩
theorem tw16655555454665732581:True:=⟨⟩
theorem tw18350330562280901221:True:=⟨⟩
theorem tw15323854079317868165:True:=⟨⟩
theorem tw13141144453892091621:True:=⟨⟩
theorem tw18416463498863911781:True:=⟨⟩
theorem tw13607416678640721797:True:=⟨⟩
theorem tw189603312586018693:True:=⟨⟩
theorem tw11707433790658880453:True:=⟨⟩
theorem tw16049961110935095269:True:=⟨⟩
theorem tw2660918139993853925:True:=⟨⟩
theorem tw1942679103099616262:True:=⟨⟩
theorem tw13857796614227575846:True:=⟨⟩
theorem tw14778209649434054790:True:=⟨⟩
theorem tw2378363196638174374:True:=⟨⟩
theorem tw8253183596043897158:True:=⟨⟩
theorem tw14973007898608030118:True:=⟨⟩
theorem tw17024950926791866790:True:=⟨⟩
theorem tw7581352650102555174:True:=⟨⟩
theorem tw4933834842325187142:True:=⟨⟩
theorem tw16145008321745377990:True:=⟨⟩
theorem tw7505897509792200422:True:=⟨⟩
theorem tw17300597898927385350:True:=⟨⟩
theorem tw5248340912204065574:True:=⟨⟩
theorem tw183835017167291270:True:=⟨⟩
theorem tw13512673800721320934:True:=⟨⟩
theorem tw7250012664060256230:True:=⟨⟩
theorem tw18220123701641295943:True:=⟨⟩
theorem tw16979880578912567463:True:=⟨⟩
theorem tw16643706677886111943:True:=⟨⟩
theorem tw8303831635834835207:True:=⟨⟩
theorem tw11588390666370768167:True:=⟨⟩
theorem tw11682084944484805031:True:=⟨⟩
theorem tw1355338860687761863:True:=⟨⟩
theorem tw4319705520415482375:True:=⟨⟩
theorem tw9862997608875712007:True:=⟨⟩
theorem tw15490439104401381959:True:=⟨⟩
theorem tw1537898542681612871:True:=⟨⟩
theorem tw4090926877573551719:True:=⟨⟩
theorem tw15980859228951719591:True:=⟨⟩
theorem tw15900120412870309639:True:=⟨⟩
theorem tw14326252917377295143:True:=⟨⟩
theorem tw15894407043143930727:True:=⟨⟩
theorem tw11270796479367742343:True:=⟨⟩
theorem tw5770868932273138760:True:=⟨⟩
theorem tw2611137233208623240:True:=⟨⟩
theorem tw10314498396905981064:True:=⟨⟩
theorem tw14073706353221006472:True:=⟨⟩
theorem tw2422670821966735624:True:=⟨⟩
theorem tw15423634916342008072:True:=⟨⟩
theorem tw1370275717833778536:True:=⟨⟩
theorem tw11495947367809530248:True:=⟨⟩
theorem tw13900631225919944168:True:=⟨⟩
theorem tw9285146279643344392:True:=⟨⟩
theorem tw7730924829282135592:True:=⟨⟩
theorem tw16437185098154296904:True:=⟨⟩
theorem tw18350638575300117064:True:=⟨⟩
theorem tw3470799630455053000:True:=⟨⟩
theorem tw4658958612460137192:True:=⟨⟩
theorem tw6434138532213402376:True:=⟨⟩
theorem tw3131671291697673992:True:=⟨⟩
theorem tw5882768191206486792:True:=⟨⟩
theorem tw5200128776193632040:True:=⟨⟩
theorem tw16697116713213952808:True:=⟨⟩
theorem tw3880421473898291048:True:=⟨⟩
theorem tw18101931140130867144:True:=⟨⟩
theorem tw14386061602966655976:True:=⟨⟩
theorem tw14108194823987119177:True:=⟨⟩
theorem tw1333364371103165705:True:=⟨⟩
theorem tw17000155066101142889:True:=⟨⟩
theorem tw8424611434330503625:True:=⟨⟩
theorem tw3039592710220408265:True:=⟨⟩
theorem tw16432479971616331241:True:=⟨⟩
theorem tw2001226814458364393:True:=⟨⟩
theorem tw14834023430324568649:True:=⟨⟩
theorem tw2902314222560053993:True:=⟨⟩
theorem tw43969757491396457:True:=⟨⟩
theorem tw3976722010076183465:True:=⟨⟩
theorem tw8796240567053077481:True:=⟨⟩
theorem tw9626621113073979434:True:=⟨⟩
theorem tw14311459727803291754:True:=⟨⟩
theorem tw1320183511955256522:True:=⟨⟩
theorem tw3094477031063562474:True:=⟨⟩
theorem tw1886563365779066154:True:=⟨⟩
theorem tw13981391230805400906:True:=⟨⟩
theorem tw4921902886906138986:True:=⟨⟩
theorem tw5349121933718820234:True:=⟨⟩
theorem tw17774800907425398282:True:=⟨⟩
theorem tw1377046205977697930:True:=⟨⟩
theorem tw14333388528381170442:True:=⟨⟩
theorem tw9800571698397750058:True:=⟨⟩
theorem tw1204117194425446250:True:=⟨⟩
theorem tw9501820088010722379:True:=⟨⟩
theorem tw18260038339965228139:True:=⟨⟩
theorem tw15263041282635125899:True:=⟨⟩
theorem tw8727135674562949291:True:=⟨⟩
theorem tw6135381517318000843:True:=⟨⟩
theorem tw16966814322356759819:True:=⟨⟩
theorem tw17532440430192770315:True:=⟨⟩
theorem tw383695940523520267:True:=⟨⟩
theorem tw12813236842856870187:True:=⟨⟩
theorem tw8555734327229750603:True:=⟨⟩
theorem tw932993149863042379:True:=⟨⟩
theorem tw11013792430000457035:True:=⟨⟩
theorem tw8032284361305108907:True:=⟨⟩
theorem tw5565278806992967083:True:=⟨⟩
theorem tw4936483359421988267:True:=⟨⟩
theorem tw5902227825499142635:True:=⟨⟩
theorem tw13002492023102617099:True:=⟨⟩
theorem tw12095823642532355627:True:=⟨⟩
theorem tw6148621092414575339:True:=⟨⟩
theorem tw3327986453032591115:True:=⟨⟩
theorem tw3362959441861295915:True:=⟨⟩
theorem tw9396933662098498411:True:=⟨⟩
theorem tw4980102563643897964:True:=⟨⟩
theorem tw4278798014809849964:True:=⟨⟩
theorem tw4071324889030633612:True:=⟨⟩
theorem tw17212508698807437452:True:=⟨⟩
theorem tw9951705424602377420:True:=⟨⟩
theorem tw11161088081135249708:True:=⟨⟩
theorem tw667198328695590252:True:=⟨⟩
theorem tw4636218855388986860:True:=⟨⟩
theorem tw1735497430108182060:True:=⟨⟩
theorem tw14979626087600564940:True:=⟨⟩
theorem tw6434265647005701932:True:=⟨⟩
theorem tw2354101950205528012:True:=⟨⟩
theorem tw10833955939284561965:True:=⟨⟩
theorem tw11306939235166856333:True:=⟨⟩
theorem tw5076957145309523181:True:=⟨⟩
theorem tw1772237422875290029:True:=⟨⟩
theorem tw17101871299007795629:True:=⟨⟩
theorem tw16374537267813192141:True:=⟨⟩
theorem tw12371321757623732685:True:=⟨⟩
theorem tw12821735335276811757:True:=⟨⟩
theorem tw11838138170533393997:True:=⟨⟩
theorem tw17846936440860909165:True:=⟨⟩
theorem tw608726401823008365:True:=⟨⟩
theorem tw3282434896037501709:True:=⟨⟩
theorem tw117213463901210413:True:=⟨⟩
theorem tw15766043655864335149:True:=⟨⟩
theorem tw16439824349840649037:True:=⟨⟩
theorem tw9305782018832362445:True:=⟨⟩
theorem tw17828083071136270317:True:=⟨⟩
theorem tw18340240734955500558:True:=⟨⟩
theorem tw8708707556590381134:True:=⟨⟩
theorem tw724751600484774222:True:=⟨⟩
theorem tw13180171748994924942:True:=⟨⟩
theorem tw11566699232636054958:True:=⟨⟩
theorem tw8579058602437062094:True:=⟨⟩
theorem tw17026713947507217902:True:=⟨⟩
theorem tw15919542637913265678:True:=⟨⟩
theorem tw7650934615059315214:True:=⟨⟩
theorem tw389472881494512206:True:=⟨⟩
theorem tw8693227569615203950:True:=⟨⟩
theorem tw6125931036764729998:True:=⟨⟩
theorem tw900395245841561262:True:=⟨⟩
theorem tw16874561944515371726:True:=⟨⟩
theorem tw2401699919119007470:True:=⟨⟩
theorem tw16644606511662114574:True:=⟨⟩
theorem tw5706481520468235054:True:=⟨⟩
theorem tw17730448691065144110:True:=⟨⟩
theorem tw16018607276475445134:True:=⟨⟩
theorem tw441327347791068078:True:=⟨⟩
theorem tw11985326045990495214:True:=⟨⟩
theorem tw15823609455315575823:True:=⟨⟩
theorem tw2711585505577850959:True:=⟨⟩
theorem tw912392155897948271:True:=⟨⟩
theorem tw2948108419219029167:True:=⟨⟩
theorem tw4434333111790514575:True:=⟨⟩
theorem tw5758256569797452207:True:=⟨⟩
theorem tw11853533878840232495:True:=⟨⟩
theorem tw11957962974430299695:True:=⟨⟩
theorem tw6589095468515690095:True:=⟨⟩
theorem tw6722154040420286063:True:=⟨⟩
theorem tw3209381107111851631:True:=⟨⟩
theorem tw17164873540382356111:True:=⟨⟩
theorem tw15560500314895047343:True:=⟨⟩
theorem tw12488000419048109807:True:=⟨⟩
theorem tw13526986893379352335:True:=⟨⟩
theorem tw11462045893675790159:True:=⟨⟩
theorem tw14214133299417103183:True:=⟨⟩
theorem tw6967401301877209104:True:=⟨⟩
theorem tw9759809726879904816:True:=⟨⟩
theorem tw10010936943081839664:True:=⟨⟩
theorem tw11707371222683016368:True:=⟨⟩
theorem tw15560853006256673968:True:=⟨⟩
theorem tw16417370028952169744:True:=⟨⟩
theorem tw1574873078441994576:True:=⟨⟩
theorem tw3698559305507148144:True:=⟨⟩
theorem tw2478078296215019888:True:=⟨⟩
theorem tw347637069881736656:True:=⟨⟩
theorem tw4575980220486274672:True:=⟨⟩
theorem tw13987355940573415152:True:=⟨⟩
theorem tw2719445374943340272:True:=⟨⟩
theorem tw5135500740108067664:True:=⟨⟩
theorem tw10948738476641704880:True:=⟨⟩
theorem tw17827458813498177553:True:=⟨⟩
theorem tw7009043117176579089:True:=⟨⟩
theorem tw15112985482279097393:True:=⟨⟩
theorem tw10670733350059645105:True:=⟨⟩
theorem tw8075568018651887793:True:=⟨⟩
theorem tw7323676302269181137:True:=⟨⟩
theorem tw7275051467321613617:True:=⟨⟩
theorem tw11790162104776037713:True:=⟨⟩
theorem tw5697894365363955025:True:=⟨⟩
theorem tw17434858337260393937:True:=⟨⟩
theorem tw11625766737575182897:True:=⟨⟩
theorem tw11796506867022685745:True:=⟨⟩
theorem tw9821368406582625841:True:=⟨⟩
theorem tw6380047634161181297:True:=⟨⟩
theorem tw17018628822417861297:True:=⟨⟩
theorem tw8047484207015712433:True:=⟨⟩
theorem tw7496433998918960881:True:=⟨⟩
theorem tw1092655722715705105:True:=⟨⟩
theorem tw11863081143760314161:True:=⟨⟩
theorem tw16176465441171805009:True:=⟨⟩
theorem tw8017206721242287953:True:=⟨⟩
theorem tw17057272898397164401:True:=⟨⟩
theorem tw13377344109577151345:True:=⟨⟩
theorem tw11445135464325071761:True:=⟨⟩
theorem tw10939839348159177617:True:=⟨⟩
theorem tw12898947447245864913:True:=⟨⟩
theorem tw17517737089405305841:True:=⟨⟩
theorem tw12393455550290869266:True:=⟨⟩
theorem tw9151444980202551346:True:=⟨⟩
theorem tw16792545251062261874:True:=⟨⟩
theorem tw7140130562030077042:True:=⟨⟩
theorem tw6929956602132211858:True:=⟨⟩
theorem tw16349216596472256690:True:=⟨⟩
theorem tw16339471991904476338:True:=⟨⟩
theorem tw10029231156530900338:True:=⟨⟩
theorem tw2951486255847992690:True:=⟨⟩
theorem tw16942194440817826258:True:=⟨⟩
theorem tw6714822604882049554:True:=⟨⟩
theorem tw16414604833108395602:True:=⟨⟩
theorem tw951843321253372498:True:=⟨⟩
theorem tw14884601019740666482:True:=⟨⟩
theorem tw16494616584097029746:True:=⟨⟩
theorem tw18126140380344562322:True:=⟨⟩
theorem tw16593013826814733010:True:=⟨⟩
theorem tw9931943479562821362:True:=⟨⟩
theorem tw4552823106982906706:True:=⟨⟩
theorem tw4011157648589011858:True:=⟨⟩
theorem tw4407734736301137906:True:=⟨⟩
theorem tw6662432510661729299:True:=⟨⟩
theorem tw5518745428033880147:True:=⟨⟩
theorem tw1708024556718086227:True:=⟨⟩
theorem tw3152983702415266003:True:=⟨⟩
theorem tw10919533547850550483:True:=⟨⟩
theorem tw5862295025349918931:True:=⟨⟩
theorem tw6090905460779295987:True:=⟨⟩
theorem tw15066959818950650227:True:=⟨⟩
theorem tw16406328271908756883:True:=⟨⟩
theorem tw10942035263794033107:True:=⟨⟩
theorem tw14112274594779413971:True:=⟨⟩
theorem tw10227693086864044499:True:=⟨⟩
theorem tw3766158894648301139:True:=⟨⟩
theorem tw9787396351842916947:True:=⟨⟩
theorem tw5732905514179830355:True:=⟨⟩
theorem tw9376109419431680627:True:=⟨⟩
theorem tw15562837088269578035:True:=⟨⟩
theorem tw1749818173716722547:True:=⟨⟩
theorem tw313226197891681235:True:=⟨⟩
theorem tw15450981722951097364:True:=⟨⟩
theorem tw15806122291839087668:True:=⟨⟩
theorem tw2244074263212557396:True:=⟨⟩
theorem tw17244072584429378644:True:=⟨⟩
theorem tw2862820112641550484:True:=⟨⟩
theorem tw4075660801711882420:True:=⟨⟩
theorem tw18211773271919218964:True:=⟨⟩
theorem tw6909570525239066004:True:=⟨⟩
theorem tw9300948228871686676:True:=⟨⟩
theorem tw15480198773659482676:True:=⟨⟩
theorem tw8537084889766193716:True:=⟨⟩
theorem tw7094674258960923220:True:=⟨⟩
theorem tw1041845030581493396:True:=⟨⟩
theorem tw2283851925072248500:True:=⟨⟩
theorem tw11420187438672877268:True:=⟨⟩
theorem tw9315938663221665524:True:=⟨⟩
theorem tw17730428716208468724:True:=⟨⟩
theorem tw12700139031502230420:True:=⟨⟩
theorem tw15742981410569661332:True:=⟨⟩
theorem tw6363645014702824404:True:=⟨⟩
theorem tw7619357645376055252:True:=⟨⟩
theorem tw13642483538084851733:True:=⟨⟩
theorem tw14530364306720264245:True:=⟨⟩
theorem tw8206430501311747189:True:=⟨⟩
theorem tw282004115355043989:True:=⟨⟩
theorem tw12290603225136948437:True:=⟨⟩
theorem tw4527066259768149269:True:=⟨⟩
theorem tw8753696776887207221:True:=⟨⟩
theorem tw12809422525583811893:True:=⟨⟩
theorem tw10528696920762540405:True:=⟨⟩
theorem tw10470071008263537045:True:=⟨⟩
theorem tw14553827428707814869:True:=⟨⟩
theorem tw12237943961548833269:True:=⟨⟩
theorem tw392140993173905013:True:=⟨⟩
theorem tw11964429278604863157:True:=⟨⟩
theorem tw17537794083376710389:True:=⟨⟩
theorem tw8450942572126056277:True:=⟨⟩
theorem tw1218959903707654005:True:=⟨⟩
theorem tw7299303143086499733:True:=⟨⟩
theorem tw12635297910168745909:True:=⟨⟩
theorem tw14126943448341045398:True:=⟨⟩
theorem tw17954471519018878134:True:=⟨⟩
theorem tw10996506086634736982:True:=⟨⟩
theorem tw2627984346626558326:True:=⟨⟩
theorem tw1401972060568974870:True:=⟨⟩
theorem tw11939915149646268982:True:=⟨⟩
theorem tw12635813782599140982:True:=⟨⟩
theorem tw14420389602138693270:True:=⟨⟩
theorem tw3264259588550801142:True:=⟨⟩
theorem tw2408619945344806742:True:=⟨⟩
theorem tw9467589175468403638:True:=⟨⟩
theorem tw17341736924252097559:True:=⟨⟩
theorem tw2670528217467546775:True:=⟨⟩
theorem tw8989982439271903415:True:=⟨⟩
theorem tw1829445100760108279:True:=⟨⟩
theorem tw15663404670287596823:True:=⟨⟩
theorem tw8902219603052485911:True:=⟨⟩
theorem tw17888162413812561239:True:=⟨⟩
theorem tw9219426015542480343:True:=⟨⟩
theorem tw7585139358526817783:True:=⟨⟩
theorem tw9676229304581654039:True:=⟨⟩
theorem tw15880737140895825463:True:=⟨⟩
theorem tw7802139600951554647:True:=⟨⟩
theorem tw12945451867199242903:True:=⟨⟩
theorem tw1419416864934026935:True:=⟨⟩
theorem tw7098571738820278039:True:=⟨⟩
theorem tw13145125596335152023:True:=⟨⟩
theorem tw878741703135273975:True:=⟨⟩
theorem tw14971970265804392439:True:=⟨⟩
theorem tw3891137856419664920:True:=⟨⟩
theorem tw6004533443673955352:True:=⟨⟩
theorem tw662354867322794072:True:=⟨⟩
theorem tw17352973434858128600:True:=⟨⟩
theorem tw10045867985992453528:True:=⟨⟩
theorem tw6059929106960060952:True:=⟨⟩
theorem tw7198390536060210744:True:=⟨⟩
theorem tw9236875199018929784:True:=⟨⟩
theorem tw13016732220969518872:True:=⟨⟩
theorem tw8400853705098224536:True:=⟨⟩
theorem tw17988542015724977305:True:=⟨⟩
theorem tw13776390136698705113:True:=⟨⟩
theorem tw6683783046931543321:True:=⟨⟩
theorem tw13809362725867891129:True:=⟨⟩
theorem tw17280976486791472633:True:=⟨⟩
theorem tw15542503528162795033:True:=⟨⟩
theorem tw15007238320947547705:True:=⟨⟩
theorem tw8719427161674164953:True:=⟨⟩
theorem tw12022618010286034681:True:=⟨⟩
theorem tw6245536207120538393:True:=⟨⟩
theorem tw16531745337717519161:True:=⟨⟩
theorem tw3424931102881643321:True:=⟨⟩
theorem tw12647630874787467225:True:=⟨⟩
theorem tw721709456127091705:True:=⟨⟩
theorem tw2460228577881660442:True:=⟨⟩
theorem tw6789855027759293466:True:=⟨⟩
theorem tw470574548607681690:True:=⟨⟩
theorem tw682011567655089306:True:=⟨⟩
theorem tw9908251947323293946:True:=⟨⟩
theorem tw5978237884098788730:True:=⟨⟩
theorem tw3820604794100220378:True:=⟨⟩
theorem tw8098380416015320538:True:=⟨⟩
theorem tw10706342367453228570:True:=⟨⟩
theorem tw3355348695024010778:True:=⟨⟩
theorem tw8119918657739134586:True:=⟨⟩
theorem tw3105397867545767578:True:=⟨⟩
theorem tw11519604305632133818:True:=⟨⟩
theorem tw13471461260053382970:True:=⟨⟩
theorem tw14896874001708588922:True:=⟨⟩
theorem tw219737044198020058:True:=⟨⟩
theorem tw7392212959928792091:True:=⟨⟩
theorem tw3577408171920636059:True:=⟨⟩
theorem tw3436264866546951355:True:=⟨⟩
theorem tw4904739604578439355:True:=⟨⟩
theorem tw17497748084772794779:True:=⟨⟩
theorem tw16548257151911338427:True:=⟨⟩
theorem tw2664551874359636763:True:=⟨⟩
theorem tw13215998728584607739:True:=⟨⟩
theorem tw10379131730601215995:True:=⟨⟩
theorem tw5357591511691535388:True:=⟨⟩
theorem tw16846860572762119324:True:=⟨⟩
theorem tw7365555872484859036:True:=⟨⟩
theorem tw6654550962395885724:True:=⟨⟩
theorem tw14323765505736481980:True:=⟨⟩
theorem tw5701610774189311196:True:=⟨⟩
theorem tw5345256250457102556:True:=⟨⟩
theorem tw1706496860858754268:True:=⟨⟩
theorem tw6817277305950994716:True:=⟨⟩
theorem tw3560238982266916124:True:=⟨⟩
theorem tw2447775223705975068:True:=⟨⟩
theorem tw17100903815162463580:True:=⟨⟩
theorem tw12659028871203227004:True:=⟨⟩
theorem tw6426273055680023932:True:=⟨⟩
theorem tw14210447440969649564:True:=⟨⟩
theorem tw10205541121877940668:True:=⟨⟩
theorem tw5396446701170858492:True:=⟨⟩
theorem tw18345786424863182364:True:=⟨⟩
theorem tw6144853644547557980:True:=⟨⟩
theorem tw7745614565497352828:True:=⟨⟩
theorem tw7397068168572129948:True:=⟨⟩
theorem tw13317431791736044220:True:=⟨⟩
theorem tw1291980286583624508:True:=⟨⟩
theorem tw16643379632663270332:True:=⟨⟩
theorem tw16241802466949684156:True:=⟨⟩
theorem tw716658179208862652:True:=⟨⟩
theorem tw2905824091091238844:True:=⟨⟩
theorem tw1258717718454355964:True:=⟨⟩
theorem tw13912434898499826684:True:=⟨⟩
theorem tw17476080006546285661:True:=⟨⟩
theorem tw5032809538720368765:True:=⟨⟩
theorem tw18263319221461684349:True:=⟨⟩
theorem tw4172830789200971933:True:=⟨⟩
theorem tw3778451253796500701:True:=⟨⟩
theorem tw10057510723706494237:True:=⟨⟩
theorem tw5529568453561195837:True:=⟨⟩
theorem tw13915792640404377917:True:=⟨⟩
theorem tw14537914154153760125:True:=⟨⟩
theorem tw12329403913580668285:True:=⟨⟩
theorem tw18056578402003937789:True:=⟨⟩
theorem tw10323183001455561277:True:=⟨⟩
theorem tw11186114360453789277:True:=⟨⟩
theorem tw7504490480230193789:True:=⟨⟩
theorem tw7469732015759309437:True:=⟨⟩
theorem tw1055568401681811165:True:=⟨⟩
theorem tw3972328310683599613:True:=⟨⟩
theorem tw7892128664451923741:True:=⟨⟩
theorem tw13759679279233594173:True:=⟨⟩
theorem tw16296994325663420285:True:=⟨⟩
theorem tw17552769576498331613:True:=⟨⟩
theorem tw6019396324639902685:True:=⟨⟩
theorem tw4748654258956052638:True:=⟨⟩
theorem tw6711915476519705758:True:=⟨⟩
theorem tw11277716924127702174:True:=⟨⟩
theorem tw2736616831223182526:True:=⟨⟩
theorem tw7035115661146626270:True:=⟨⟩
theorem tw973662469405803806:True:=⟨⟩
theorem tw3636048126100218174:True:=⟨⟩
theorem tw325292655437039998:True:=⟨⟩
theorem tw460243522976405022:True:=⟨⟩
theorem tw16869277618539721502:True:=⟨⟩
theorem tw1962928258387122110:True:=⟨⟩
theorem tw9787463984185863102:True:=⟨⟩
theorem tw4292500188555128830:True:=⟨⟩
theorem tw4549333791460862111:True:=⟨⟩
theorem tw12224578244612797663:True:=⟨⟩
theorem tw4405960384096086239:True:=⟨⟩
theorem tw16349804527192203551:True:=⟨⟩
theorem tw5189142188285759775:True:=⟨⟩
theorem tw11729385059970357855:True:=⟨⟩
theorem tw1139862187096482527:True:=⟨⟩
theorem tw8224813933742928703:True:=⟨⟩
theorem tw11994158751524154303:True:=⟨⟩
theorem tw14223099787259518943:True:=⟨⟩
theorem tw2913403969367572877:True:=⟨⟩
theorem tw9022307789155079500:True:=⟨⟩
theorem tw11130826679109208323:True:=⟨⟩
theorem tw7482497366924209797:True:=⟨⟩
theorem tw5556206192530704276:True:=⟨⟩
theorem tw9714774721060221955:True:=⟨⟩
theorem tw4996365947174573946:True:=⟨⟩
theorem tw3916196269025109296:True:=⟨⟩
theorem tw17111948838632640456:True:=⟨⟩
theorem tw8929175847862630378:True:=⟨⟩
theorem tw6543886607769338821:True:=⟨⟩
theorem tw14570392475798078841:True:=⟨⟩
theorem tw16487347958798203451:True:=⟨⟩
theorem tw11992716968089889479:True:=⟨⟩
theorem tw5620657436408473524:True:=⟨⟩
theorem tw5131478536388391638:True:=⟨⟩
end PySem.W.Fast
namespace Mine
set_option maxRecDepth 100000 in
set_option maxHeartbeats 8000000 in
open_top hd for PySem.Challenge.rw_no0258_01
end Mine
namespace Mine
theorem fc{α:Type _}{p:α->Prop}{a:α}{l:List α}(h:p a)(t:∀x∈l,p x):∀x∈a::l,p x:=List.forall_mem_cons.mpr (And.intro h t)
theorem fz{α:Type _}{p:α->Prop}:∀x∈([]:List α),p x:=λ_ h=>nomatch h
end Mine
namespace Mine.Q
section
variable{a b c d e f g h i j l m n o:Bool}{P:Prop}
theorem aa1(k:a=true->b=true->P)(q:(a&&b)=true):P:=by
 rw[Bool.and_eq_true]at q
 exact k q.1 q.2
theorem aa2(k:a=true->b=true->c=true->P)(q:(a&&b&&c)=true):P:=aa1 (λq z=>aa1 (λx0 x1=>k x0 x1 z) q) q
theorem aa3(k:a=true->b=true->c=true->d=true->P)(q:(a&&b&&c&&d)=true):P:=aa1 (λq z=>aa2 (λx0 x1 x2=>k x0 x1 x2 z) q) q
theorem aa4(k:a=true->b=true->c=true->d=true->e=true->P)(q:(a&&b&&c&&d&&e)=true):P:=aa1 (λq z=>aa3 (λx0 x1 x2 x3=>k x0 x1 x2 x3 z) q) q
theorem aa5(k:a=true->b=true->c=true->d=true->e=true->f=true->P)(q:(a&&b&&c&&d&&e&&f)=true):P:=aa1 (λq z=>aa4 (λx0 x1 x2 x3 x4=>k x0 x1 x2 x3 x4 z) q) q
theorem aa6(k:a=true->b=true->c=true->d=true->e=true->f=true->g=true->P)(q:(a&&b&&c&&d&&e&&f&&g)=true):P:=aa1 (λq z=>aa5 (λx0 x1 x2 x3 x4 x5=>k x0 x1 x2 x3 x4 x5 z) q) q
theorem aa7(k:a=true->b=true->c=true->d=true->e=true->f=true->g=true->h=true->P)(q:(a&&b&&c&&d&&e&&f&&g&&h)=true):P:=aa1 (λq z=>aa6 (λx0 x1 x2 x3 x4 x5 x6=>k x0 x1 x2 x3 x4 x5 x6 z) q) q
theorem aa8(k:a=true->b=true->c=true->d=true->e=true->f=true->g=true->h=true->i=true->P)(q:(a&&b&&c&&d&&e&&f&&g&&h&&i)=true):P:=aa1 (λq z=>aa7 (λx0 x1 x2 x3 x4 x5 x6 x7=>k x0 x1 x2 x3 x4 x5 x6 x7 z) q) q
theorem aa9(k:a=true->b=true->c=true->d=true->e=true->f=true->g=true->h=true->i=true->j=true->P)(q:(a&&b&&c&&d&&e&&f&&g&&h&&i&&j)=true):P:=aa1 (λq z=>aa8 (λx0 x1 x2 x3 x4 x5 x6 x7 x8=>k x0 x1 x2 x3 x4 x5 x6 x7 x8 z) q) q
theorem aa10(k:a=true->b=true->c=true->d=true->e=true->f=true->g=true->h=true->i=true->j=true->l=true->P)(q:(a&&b&&c&&d&&e&&f&&g&&h&&i&&j&&l)=true):P:=aa1 (λq z=>aa9 (λx0 x1 x2 x3 x4 x5 x6 x7 x8 x9=>k x0 x1 x2 x3 x4 x5 x6 x7 x8 x9 z) q) q
end
end Mine.Q
namespace Mine
section
variable{a b c d e f g h i j k l m n o:Sort _}{P:Prop}
theorem elA{A B:Prop}(k:A->B->P):(A/\B)->P:=λh=>k h.1 h.2
theorem elE{A:a->Prop}(k:∀x,A x->P):(∃x,A x)->P:=λh=>h.elim k
theorem elAA{A B C:Prop}(k:A->B->C->P):(A/\B/\C)->P:=λh=>elA (k h.1) h.2
theorem elEE{A:a->b->Prop}(k:∀x y,A x y->P):(∃x y,A x y)->P:=λh=>h.elim λx=>elE (k x)
theorem elAAA{A B C D:Prop}(k:A->B->C->D->P):(A/\B/\C/\D)->P:=λh=>elAA (k h.1) h.2
theorem elEEE{A:a->b->c->Prop}(k:∀x y z,A x y z->P):(∃x y z,A x y z)->P:=λh=>h.elim λx=>elEE (k x)
theorem elAAAA{A B C D E:Prop}(k:A->B->C->D->E->P):(A/\B/\C/\D/\E)->P:=λh=>elAAA (k h.1) h.2
theorem elEEEE{A:a->b->c->d->Prop}(k:∀x y z u,A x y z u->P):(∃x y z u,A x y z u)->P:=λh=>h.elim λx=>elEEE (k x)
theorem elAAAAA{A B C D E F:Prop}(k:A->B->C->D->E->F->P):(A/\B/\C/\D/\E/\F)->P:=λh=>elAAAA (k h.1) h.2
theorem elEEEEE{A:a->b->c->d->e->Prop}(k:∀x y z u v,A x y z u v->P):(∃x y z u v,A x y z u v)->P:=λh=>h.elim λx=>elEEEE (k x)
theorem elAAAAAA{A B C D E F G:Prop}(k:A->B->C->D->E->F->G->P):(A/\B/\C/\D/\E/\F/\G)->P:=λh=>elAAAAA (k h.1) h.2
theorem elEEEEEE{A:a->b->c->d->e->f->Prop}(k:∀x y z u v w,A x y z u v w->P):(∃x y z u v w,A x y z u v w)->P:=λh=>h.elim λx=>elEEEEE (k x)
theorem elAAAAAAA{A B C D E F G H:Prop}(k:A->B->C->D->E->F->G->H->P):(A/\B/\C/\D/\E/\F/\G/\H)->P:=λh=>elAAAAAA (k h.1) h.2
theorem elEEEEEEE{A:a->b->c->d->e->f->g->Prop}(k:∀x y z u v w r,A x y z u v w r->P):(∃x y z u v w r,A x y z u v w r)->P:=λh=>h.elim λx=>elEEEEEE (k x)
theorem elAE{A:Prop}{B:a->Prop}(k:A->∀x,B x->P):(A/\∃x,B x)->P:=by rintro⟨a,x,b⟩;exact k a x b
theorem elEA{A B:a->Prop}(k:∀x,A x->B x->P):(∃x,A x/\B x)->P:=λh=>elE (λx=>elA (k x)) h
theorem elAEA{A:Prop}{B C:a->Prop}(k:A->∀x,B x->C x->P):(A/\∃x,B x/\C x)->P:=by rintro⟨a,x,b,c⟩;exact k a x b c
theorem elEAA{A B C:a->Prop}(k:∀x,A x->B x->C x->P):(∃x,A x/\B x/\C x)->P:=λh=>elE (λx=>elAA (k x)) h
theorem elEEA{A B:a->b->Prop}(k:∀x y,A x y->B x y->P):(∃x y,A x y/\B x y)->P:=λh=>elEE (λx y=>elA (k x y)) h
theorem elAAEA{A B:Prop}{C D:a->Prop}(k:A->B->∀x,C x->D x->P):(A/\B/\∃x,C x/\D x)->P:=by rintro⟨a,b,x,c,d⟩;exact k a b x c d
theorem elEAAA{A B C D:a->Prop}(k:∀x,A x->B x->C x->D x->P):(∃x,A x/\B x/\C x/\D x)->P:=λh=>elE (λx=>elAAA (k x)) h
theorem elEAEA{A:a->Prop}{B C:a->b->Prop}(k:∀x,A x->∀y,B x y->C x y->P):(∃x,A x/\∃y,B x y/\C x y)->P:=by rintro⟨x,a,y,b,c⟩;exact k x a y b c
theorem elEEAA{A B C:a->b->Prop}(k:∀x y,A x y->B x y->C x y->P):(∃x y,A x y/\B x y/\C x y)->P:=λh=>elEE (λx y=>elAA (k x y)) h
theorem elEEAE{A:a->b->Prop}{B:a->b->c->Prop}(k:∀x y,A x y->∀z,B x y z->P):(∃x y,A x y/\∃z,B x y z)->P:=by rintro⟨x,y,a,z,b⟩;exact k x y a z b
theorem elEEEA{A B:a->b->c->Prop}(k:∀x y z,A x y z->B x y z->P):(∃x y z,A x y z/\B x y z)->P:=λh=>elEEE (λx y z=>elA (k x y z)) h
theorem elEAAAA{A B C D E:a->Prop}(k:∀x,A x->B x->C x->D x->E x->P):(∃x,A x/\B x/\C x/\D x/\E x)->P:=λh=>elE (λx=>elAAAA (k x)) h
theorem elEEAAA{A B C D:a->b->Prop}(k:∀x y,A x y->B x y->C x y->D x y->P):(∃x y,A x y/\B x y/\C x y/\D x y)->P:=λh=>elEE (λx y=>elAAA (k x y)) h
theorem elEEEAA{A B C:a->b->c->Prop}(k:∀x y z,A x y z->B x y z->C x y z->P):(∃x y z,A x y z/\B x y z/\C x y z)->P:=λh=>elEEE (λx y z=>elAA (k x y z)) h
theorem elEEEEA{A B:a->b->c->d->Prop}(k:∀x y z u,A x y z u->B x y z u->P):(∃x y z u,A x y z u/\B x y z u)->P:=λh=>elEEEE (λx y z u=>elA (k x y z u)) h
theorem elEEAAAA{A B C D E:a->b->Prop}(k:∀x y,A x y->B x y->C x y->D x y->E x y->P):(∃x y,A x y/\B x y/\C x y/\D x y/\E x y)->P:=λh=>elEE (λx y=>elAAAA (k x y)) h
theorem elEEEAAA{A B C D:a->b->c->Prop}(k:∀x y z,A x y z->B x y z->C x y z->D x y z->P):(∃x y z,A x y z/\B x y z/\C x y z/\D x y z)->P:=λh=>elEEE (λx y z=>elAAA (k x y z)) h
theorem elEEEEAA{A B C:a->b->c->d->Prop}(k:∀x y z u,A x y z u->B x y z u->C x y z u->P):(∃x y z u,A x y z u/\B x y z u/\C x y z u)->P:=λh=>elEEEE (λx y z u=>elAA (k x y z u)) h
theorem elEEAAAAA{A B C D E F:a->b->Prop}(k:∀x y,A x y->B x y->C x y->D x y->E x y->F x y->P):(∃x y,A x y/\B x y/\C x y/\D x y/\E x y/\F x y)->P:=λh=>elEE (λx y=>elAAAAA (k x y)) h
theorem elEEEEEAA{A B C:a->b->c->d->e->Prop}(k:∀x y z u v,A x y z u v->B x y z u v->C x y z u v->P):(∃x y z u v,A x y z u v/\B x y z u v/\C x y z u v)->P:=λh=>elEEEEE (λx y z u v=>elAA (k x y z u v)) h
theorem elEEEAAAAA{A B C D E F:a->b->c->Prop}(k:∀x y z,A x y z->B x y z->C x y z->D x y z->E x y z->F x y z->P):(∃x y z,A x y z/\B x y z/\C x y z/\D x y z/\E x y z/\F x y z)->P:=λh=>elEEE (λx y z=>elAAAAA (k x y z)) h
theorem elEEEEAAAA{A B C D E:a->b->c->d->Prop}(k:∀x y z u,A x y z u->B x y z u->C x y z u->D x y z u->E x y z u->P):(∃x y z u,A x y z u/\B x y z u/\C x y z u/\D x y z u/\E x y z u)->P:=λh=>elEEEE (λx y z u=>elAAAA (k x y z u)) h
theorem elEEEEEAAA{A B C D:a->b->c->d->e->Prop}(k:∀x y z u v,A x y z u v->B x y z u v->C x y z u v->D x y z u v->P):(∃x y z u v,A x y z u v/\B x y z u v/\C x y z u v/\D x y z u v)->P:=λh=>elEEEEE (λx y z u v=>elAAA (k x y z u v)) h
theorem elEEEAAAAAA{A B C D E F G:a->b->c->Prop}(k:∀x y z,A x y z->B x y z->C x y z->D x y z->E x y z->F x y z->G x y z->P):(∃x y z,A x y z/\B x y z/\C x y z/\D x y z/\E x y z/\F x y z/\G x y z)->P:=λh=>elEEE (λx y z=>elAAAAAA (k x y z)) h
theorem elEEEEAAAAAA{A B C D E F G:a->b->c->d->Prop}(k:∀x y z u,A x y z u->B x y z u->C x y z u->D x y z u->E x y z u->F x y z u->G x y z u->P):(∃x y z u,A x y z u/\B x y z u/\C x y z u/\D x y z u/\E x y z u/\F x y z u/\G x y z u)->P:=λh=>elEEEE (λx y z u=>elAAAAAA (k x y z u)) h
theorem elEEEEEAAAAA{A B C D E F:a->b->c->d->e->Prop}(k:∀x y z u v,A x y z u v->B x y z u v->C x y z u v->D x y z u v->E x y z u v->F x y z u v->P):(∃x y z u v,A x y z u v/\B x y z u v/\C x y z u v/\D x y z u v/\E x y z u v/\F x y z u v)->P:=λh=>elEEEEE (λx y z u v=>elAAAAA (k x y z u v)) h
theorem elEEEEEEEAAAAAA{A B C D E F G:a->b->c->d->e->f->g->Prop}(k:∀x y z u v w r,A x y z u v w r->B x y z u v w r->C x y z u v w r->D x y z u v w r->E x y z u v w r->F x y z u v w r->G x y z u v w r->P):(∃x y z u v w r,A x y z u v w r/\B x y z u v w r/\C x y z u v w r/\D x y z u v w r/\E x y z u v w r/\F x y z u v w r/\G x y z u v w r)->P:=λh=>elEEEEEEE (λx y z u v w r=>elAAAAAA (k x y z u v w r)) h
end
section
variable{a b c d e f g h i j k l m n o:Sort _}
theorem mkAA{A B C:Prop}(h1:A)(h2:B)(h3:C):A/\B/\C:=⟨h1,h2,h3⟩
theorem mkAAA{A B C D:Prop}(h1:A)(h2:B)(h3:C)(h4:D):A/\B/\C/\D:=⟨h1,h2,h3,h4⟩
theorem mkEAA{A B C:a->Prop}(x)(h1:A x)(h2:B x)(h3:C x):∃x,A x/\B x/\C x:=⟨x,h1,h2,h3⟩
theorem mkEEA{A B:a->b->Prop}(x)(y)(h1:A x y)(h2:B x y):∃x y,A x y/\B x y:=⟨x,y,h1,h2⟩
theorem mkAAAA{A B C D E:Prop}(h1:A)(h2:B)(h3:C)(h4:D)(h5:E):A/\B/\C/\D/\E:=⟨h1,h2,h3,h4,h5⟩
theorem mkEAAA{A B C D:a->Prop}(x)(h1:A x)(h2:B x)(h3:C x)(h4:D x):∃x,A x/\B x/\C x/\D x:=⟨x,h1,h2,h3,h4⟩
theorem mkEEAA{A B C:a->b->Prop}(x)(y)(h1:A x y)(h2:B x y)(h3:C x y):∃x y,A x y/\B x y/\C x y:=⟨x,y,h1,h2,h3⟩
theorem mkEEEA{A B:a->b->c->Prop}(x)(y)(z)(h1:A x y z)(h2:B x y z):∃x y z,A x y z/\B x y z:=⟨x,y,z,h1,h2⟩
theorem mkAAAAA{A B C D E F:Prop}(h1:A)(h2:B)(h3:C)(h4:D)(h5:E)(h6:F):A/\B/\C/\D/\E/\F:=⟨h1,h2,h3,h4,h5,h6⟩
theorem mkEEEAA{A B C:a->b->c->Prop}(x)(y)(z)(h1:A x y z)(h2:B x y z)(h3:C x y z):∃x y z,A x y z/\B x y z/\C x y z:=⟨x,y,z,h1,h2,h3⟩
theorem mkEEAAAA{A B C D E:a->b->Prop}(x)(y)(h1:A x y)(h2:B x y)(h3:C x y)(h4:D x y)(h5:E x y):∃x y,A x y/\B x y/\C x y/\D x y/\E x y:=⟨x,y,h1,h2,h3,h4,h5⟩
theorem mkEEEAAAAA{A B C D E F:a->b->c->Prop}(x)(y)(z)(h1:A x y z)(h2:B x y z)(h3:C x y z)(h4:D x y z)(h5:E x y z)(h6:F x y z):∃x y z,A x y z/\B x y z/\C x y z/\D x y z/\E x y z/\F x y z:=⟨x,y,z,h1,h2,h3,h4,h5,h6⟩
theorem mkEEEEAAAA{A B C D E:a->b->c->d->Prop}(x)(y)(z)(u)(h1:A x y z u)(h2:B x y z u)(h3:C x y z u)(h4:D x y z u)(h5:E x y z u):∃x y z u,A x y z u/\B x y z u/\C x y z u/\D x y z u/\E x y z u:=⟨x,y,z,u,h1,h2,h3,h4,h5⟩
theorem mkEEEAAAAAA{A B C D E F G:a->b->c->Prop}(x)(y)(z)(h1:A x y z)(h2:B x y z)(h3:C x y z)(h4:D x y z)(h5:E x y z)(h6:F x y z)(h7:G x y z):∃x y z,A x y z/\B x y z/\C x y z/\D x y z/\E x y z/\F x y z/\G x y z:=⟨x,y,z,h1,h2,h3,h4,h5,h6,h7⟩
theorem mkEEEEAAAAAA{A B C D E F G:a->b->c->d->Prop}(x)(y)(z)(u)(h1:A x y z u)(h2:B x y z u)(h3:C x y z u)(h4:D x y z u)(h5:E x y z u)(h6:F x y z u)(h7:G x y z u):∃x y z u,A x y z u/\B x y z u/\C x y z u/\D x y z u/\E x y z u/\F x y z u/\G x y z u:=⟨x,y,z,u,h1,h2,h3,h4,h5,h6,h7⟩
theorem mkEEEEEEEAAAAAA{A B C D E F G:a->b->c->d->e->f->g->Prop}(x)(y)(z)(u)(v)(w)(r)(h1:A x y z u v w r)(h2:B x y z u v w r)(h3:C x y z u v w r)(h4:D x y z u v w r)(h5:E x y z u v w r)(h6:F x y z u v w r)(h7:G x y z u v w r):∃x y z u v w r,A x y z u v w r/\B x y z u v w r/\C x y z u v w r/\D x y z u v w r/\E x y z u v w r/\F x y z u v w r/\G x y z u v w r:=⟨x,y,z,u,v,w,r,h1,h2,h3,h4,h5,h6,h7⟩
end
end Mine
local macro_rules | `(tactic| cases $x:ident) => `(tactic| rcases $x:ident with ⟨⟩)
namespace Mine.Q
inductive Bf where
 |len|isStr|isTup|isInt|str|sum|sorted|list
inductive IE where
 |loc (i p:Nat)|gi (i c t p:Nat)|gr (i a p:Nat)|int (i p:Nat)|neg (i p q:Nat)|str (i p:Nat)|non (p:Nat)|boo (b:Bool) (p:Nat)
 |att (e:IE) (i p:Nat)|sub (e ix:IE) (p:Nat)|upt (e k:IE) (p q:Nat)|frm (e k:IE) (p q:Nat)
 |cmp (op:CmpOp) (l r:IE) (p:Nat)|bo (op:BoolOp) (as:IE) (p:Nat)|not_ (a:IE) (p:Nat)|ite (t a b:IE) (p:Nat)|bin (op:Operator) (a b:IE) (p:Nat)
 |lis (as:IE) (p:Nat)|tup (as:IE) (p:Nat)|dic (as:IE) (p:Nat)|emp (b:Bool) (p:Nat)
 |nil|cns (a as:IE)|pl (e:IE)|dcn (j p:Nat) (v r:IE)
 |cal (f a:Nat) (as:IE) (p q:Nat)|new (f C:Nat) (as:IE) (p q:Nat)|met (o:IE) (i:Nat) (as:IE) (p q:Nat)|blt (b:Bf) (as:IE) (p q:Nat)|isi (b:Bf) (a:IE) (p q r:Nat)
 |cel (i p:Nat)|rng (a:IE) (p q:Nat)
 |lc (elt:IE) (is:List (Nat×Nat)) (tp:Nat) (it c:IE) (sn:List (Nat×Nat)) (p:Nat)
inductive IS where
 |done
 |asg (i:Nat) (e:IE) (p q:Nat) (r:IS)
 |ast (e:IE) (i:Nat) (v:IE) (p q:Nat) (r:IS)
 |sst (e k v:IE) (p q:Nat) (r:IS)
 |agn (i:Nat) (op:Operator) (e:IE) (p q:Nat) (r:IS)
 |aga (e:IE) (i:Nat) (op:Operator) (v:IE) (p q:Nat) (r:IS)
 |ags (e k:IE) (op:Operator) (v:IE) (p q:Nat) (r:IS)
 |acl (i:Nat) (e:IE) (p q:Nat) (r:IS)
 |asl (i:Nat) (e:IE) (p q:Nat) (r:IS)
 |exp (e:IE) (p:Nat) (r:IS)
 |ite (t:IE) (a b:IS) (p:Nat) (r:IS)
 |ret (e:IE) (p:Nat)
 |rio (as:IE) (p q s:Nat)|ren (as:IE) (p q s:Nat)
 |brk (p:Nat)
 |ats (is:List (Nat×Nat)) (e:IE) (p q:Nat) (r:IS)
 |fo (i:Nat) (e:IE) (b:IS) (p q:Nat) (r:IS)
 |ft (is:List (Nat×Nat)) (e:IE) (b:IS) (p q:Nat) (r:IS)
 |try(b hb:IS) (p q s:Nat) (r:IS)
structure ClsRow where
 init:Nat
 meths:List (Nat×Nat)
 attrs:List Nat
structure FnRow where
 ps:List Nat
 cs:List Nat
 ir:IS
inductive V where
 |non|boo (b:Bool)|int (as:List Nat) (c:Int) (t:Nat)|str (i t:Nat)|ref (n:Nat)|opq (i:Nat)|sat (i t:Nat)|gr (a:Nat)
inductive Sg where
 |it (v:V)|sg (i:Nat)
inductive O where
 |list (ss:List Sg) (n:Nat)|tup (vs:List V) (n:Nat)|inst (C d:Nat)|attrs (es:List (Nat×Nat×V)) (n:Nat)
 |dS (o:Nat) (kvs:List (Nat×V))|dI (o:Nat) (kvs:List (Nat×V))|dK (o:Nat) (kn:List (Nat×Option V))|dT (o b:Nat) (sd:Bool) (ops:List (Nat×V)) (kn:List (Nat×Option V))|scr (o:Nat)|spt (o b:Nat)|cel (o:Nat) (v:Option V)|flt (o d:Nat)|fld (o:Nat) (c:Int) (t:Nat)
abbrev Hp:=List (Nat×O)
structure S where
 hp:Hp
 vs:List (Nat×V)
 nx:Nat
end Mine.Q
namespace Mine.Q
noncomputable def tupW:List (Nat×List Nat):=[(80,[167,168,169,170]),(81,[163,164]),(82,[165,166]),(83,[171,172])]
noncomputable def txT:List (Nat×List Nat):=[(163,[83,69,81,85,69,78,84,73,65,76]),(164,[68,73,82,69,67,84]),(165,[70,79,82,77,65,84,84,69,68]),(166,[85,78,70,79,82,77,65,84,84,69,68]),(167,[79,76,68]),(168,[78,69,87]),(169,[83,67,82,65,84,67,72]),(170,[85,78,75,78,79,87,78]),(171,[78,85,76,76]),(172,[90,69,82,79]),(173,[42]),(174,[105,110,116,101,114,110,97,108]),(175,[]),(176,[70]),(177,[70,53]),(178,[70,54]),(179,[70,55]),(180,[53]),(181,[54]),(182,[55]),(183,[48]),(184,[49]),(185,[50]),(186,[51]),(187,[105,110,48]),(188,[105,110,49]),(189,[105,110,50]),(190,[32]),(191,[32,32]),(192,[32,32,32]),(193,[97,98]),(194,[99]),(195,[100,101,102,103]),(196,[112,113,114]),(197,[97,98,32]),(198,[99,32,32]),(199,[70,79,82,84,46]),(200,[46,48]),(1,[116,101,120,116]),(72,[105,110])]
noncomputable def clT:List (Nat×ClsRow):=[(100,⟨97,[],[4,5,6,7,8,9]⟩),(121,⟨118,[],[10]⟩),(142,⟨139,[],[11,12,13,14]⟩),(289,⟨279,[(74,286)],[23]⟩),(324,⟨314,[(74,321)],[8,29]⟩),(345,⟨342,[],[31,29,28,21,20,32]⟩),(380,⟨370,[(74,377)],[33]⟩),(408,⟨398,[(74,405)],[23,34]⟩),(478,⟨461,[(76,468),(77,475)],[37]⟩),(513,⟨496,[(75,503),(77,510)],[24,29]⟩)]
noncomputable def ir79:FnRow:=⟨[3],[],(.ite (.cmp .Eq (.loc 3 2820418059) (.gi 87 5 274 2822515224) 2820418072) (.ret (.int 0 2956733456) 2954898448) .done 2819632144
 (.ite (.bo .Or (.cns (.cmp .Eq (.loc 3 3088854539) (.gi 85 2 270 3090951701) 3088854549) (.cns (.cmp .Eq (.loc 3 3093573149) (.gi 86 3 272 3095670312) 3093573160) .nil)) 3088854568) (.ret (.int 2 3225169936) 3223334928) .done 3088068624
 (.ret (.int 1 3358339596) 3356504588)))⟩
noncomputable def ir97:FnRow:=⟨[0,4,5,6,7],[],(.ast (.loc 0 6041917964) 4 (.loc 4 6045063704) 6041917976 6041917969
 (.ast (.loc 0 6176136204) 5 (.loc 5 6179806236) 6176136220 6176136211
 (.ast (.loc 0 6310354444) 6 (.loc 6 6313500184) 6310354456 6310354449
 (.ast (.loc 0 6444572684) 7 (.loc 7 6448242716) 6444572700 6444572691
 (.ast (.loc 0 6578790924) 8 (.lis .nil 6582723097) 6578790937 6578790932
 (.ast (.loc 0 6713009164) 9 (.emp false 6717203482) 6713009178 6713009173
 .done))))))⟩
noncomputable def ir118:FnRow:=⟨[0],[],(.ast (.loc 0 7249882124) 10 (.emp true 7253290007) 7249882135 7249882130
 .done)⟩
noncomputable def ir139:FnRow:=⟨[0,11,12,13],[],(.ast (.loc 0 7786755084) 11 (.loc 11 7790425116) 7786755100 7786755091
 (.ast (.loc 0 7920973324) 12 (.loc 12 7924119064) 7920973336 7920973329
 (.ast (.loc 0 8055191564) 13 (.loc 13 8058599450) 8055191578 8055191570
 (.ast (.loc 0 8189409804) 14 (.int 0 8192817686) 8189409814 8189409810
 .done))))⟩
noncomputable def ir153:FnRow:=⟨[15,16,17,18],[],(.asg 1 (.met (.met (.loc 15 8458632720) 80 (.cns (.loc 16 8461254168) (.cns (.loc 17 8462564897) .nil)) 8458632738 8458632724) 81 (.cns (.str 190 8466759213) .nil) 8458632750 8458632745) 8456797742 8456797704
 (.ite (.cmp .NotIn (.loc 1 8591802379) (.loc 18 8594948122) 8591802394) (.rio (.cns (.gi 91 12 289 8729952798) (.cns (.str 201 8732574254) .nil)) 8726282799 8727855663 8727855637) .done 8591016495
 (.ret (.loc 1 8861287439) 8859452431)))⟩
noncomputable def ir160:FnRow:=⟨[15],[],(.ite (.cmp .NotIn (.str 66 9128675341) (.loc 15 9132345370) 9128675354) (.ret (.non 9264990739) 9263155731) .done 9127889427
 (.asg 4 (.met (.sub (.loc 15 9398160400) (.str 66 9399733271) 9398160408) 81 (.cns (.str 190 9403665443) .nil) 9398160420 9398160415) 9396325412 9396325384
 (.ite (.cmp .Eq (.loc 4 9531330059) (.str 175 9533427217) 9531330065) (.rio (.cns (.gi 99 20 305 9669480478) (.cns (.str 202 9672101938) .nil)) 9665810483 9667383347 9667383317) .done 9530544179
 (.ret (.loc 4 9800815119) 9798980111))))⟩
noncomputable def ir167:FnRow:=⟨[15],[],(.asg 5 (.cal 107 153 (.cns (.loc 15 10072397340) (.cns (.str 67 10074232358) (.cns (.str 163 10076853812) (.cns (.gr 101 81 10080523838) .nil)))) 10069775935 10069775894) 10067416639 10067416586
 (.asg 6 (.cal 107 153 (.cns (.loc 15 10206091290) (.cns (.str 63 10207926306) (.cns (.ite (.cmp .Eq (.loc 5 10213955641) (.str 163 10216577097) 10213955657) (.str 165 10210023471) (.str 166 10221295708) 10210023516) (.cns (.gr 102 82 10225227875) .nil)))) 10203469924 10203469844) 10201634916 10201634824
 (.asg 7 (.met (.loc 15 10338212370) 80 (.cns (.str 64 10340833821) (.cns (.int 0 10342930976) .nil)) 10338212385 10338212374) 10335853089 10335853066
 (.ite (.bo .Or (.cns (.cmp .NotEq (.cmp .Eq (.loc 5 10471119886) (.str 164 10473741338) 10471119898) (.cmp .Gt (.loc 7 10477411366) (.int 0 10479770666) 10477411370) 10470857771) (.cns (.bo .And (.cns (.cmp .In (.str 64 10481605686) (.loc 15 10484227135) 10481605695) (.cns (.cmp .Lt (.loc 7 10486848586) (.int 1 10489207886) 10486848590) .nil)) 10481605710) .nil)) 10470857807) (.rio (.cns (.gi 91 12 289 10609008158) (.cns (.str 203 10611629649) .nil)) 10605338194 10606911058 10606910997) .done 10470071890
 (.ite (.bo .And (.cns (.cmp .In (.str 65 10739294222) (.loc 15 10742177815) 10739294231) (.cns (.cmp .Eq (.loc 6 10744799264) (.str 166 10746896433) 10744799281) .nil)) 10739294257) (.rio (.cns (.gi 91 12 289 10877444638) (.cns (.str 204 10880066113) .nil)) 10873774658 10875347522 10875347477) .done 10738508354
 (.ret (.tup (.cns (.loc 5 11009041426) (.cns (.loc 6 11011138584) (.cns (.loc 7 11012711456) .nil))) 11008779297) 11006944289))))))⟩
noncomputable def ir174:FnRow:=⟨[12,19],[],(.ite (.cmp .NotEq (.tup (.cns (.att (.loc 12 11276429324) 5 11276429331) (.cns (.att (.loc 12 11279837209) 6 11279837214) (.cns (.att (.loc 12 11282720804) 7 11282720811) .nil))) 11276167212) (.loc 19 11286915124) 11276167220) (.rio (.cns (.gi 95 16 297 11414317600) (.cns (.str 205 11417463354) .nil)) 11410647611 11412220475 11412220437) .done 11275381307
 .done)⟩
noncomputable def ir181:FnRow:=⟨[20,4],[],(.fo 11 (.blt .sorted (.cns (.loc 20 11683540510) .nil) 11681705503 11681705496) (.ite (.cmp .Eq (.att (.att (.sub (.loc 20 11814088720) (.loc 11 11815661591) 11814088728) 12 11814088733) 4 11814088738) (.loc 4 11821166634) 11814088746) (.ret (.sub (.loc 20 11950404120) (.loc 11 11951976991) 11950404128) 11948569120) .done 11813302816
 .done) 11678036512 11679084046
 (.ret (.non 12082525199) 12080690191))⟩
noncomputable def ir188:FnRow:=⟨[21,4,22,19],[],(.ite (.cmp .Eq (.loc 22 12349913101) (.str 169 12352534554) 12349913114) (.ret (.new 104 100 (.cns (.str 175 12487539222) (.cns (.sub (.loc 19 12488587804) (.int 0 12489898526) 12488587807) (.cns (.sub (.loc 19 12490947109) (.int 1 12492257831) 12490947112) (.cns (.sub (.loc 19 12493306414) (.int 2 12494617136) 12493306417) .nil)))) 12486228530 12486228499) 12484393522) .done 12349127218
 (.ite (.cmp .In (.loc 4 12618349579) (.att (.loc 21 12620446740) 10 12620446746) 12618349594) (.ite (.cmp .Eq (.loc 22 12753616401) (.str 168 12756237850) 12753616410) (.rio (.cns (.gi 93 14 293 12891766821) (.cns (.str 206 12895174712) .nil)) 12888096825 12889669689 12889669657) .done 12752830521
 (.exp (.cal 110 174 (.cns (.sub (.att (.loc 21 13024150040) 10 13024150046) (.loc 4 13027295779) 13024150052) (.cns (.loc 19 13029130794) .nil)) 13021266475 13021266450) 13021266475
 (.ret (.sub (.att (.loc 21 13157319700) 10 13157319706) (.loc 4 13160465439) 13157319712) 13155484704))) .done 12617565216
 (.ite (.cmp .Eq (.loc 22 13289440781) (.str 167 13292062230) 13289440790) (.rio (.cns (.gi 92 13 291 13427591197) (.cns (.str 207 13429950519) .nil)) 13423921208 13425494072 13425494037) .done 13288654904
 (.sst (.att (.loc 21 13557090825) 10 13557090831) (.loc 4 13560236564) (.new 104 100 (.cns (.loc 4 13563644449) (.cns (.sub (.loc 19 13565217319) (.int 0 13566528041) 13565217322) (.cns (.sub (.loc 19 13567576624) (.int 1 13568887346) 13567576627) (.cns (.sub (.loc 19 13569935929) (.int 2 13571246651) 13569935932) .nil)))) 13562333757 13562333724) 13557090877 13557090837
 (.ret (.sub (.att (.loc 21 13693144080) 10 13693144086) (.loc 4 13696289819) 13693144092) 13691309084)))))⟩
noncomputable def ir195:FnRow:=⟨[23,15,22,19],[],(.ite (.bo .Or (.cns (.cmp .Eq (.loc 22 13960531981) (.str 168 13963153430) 13960531990) (.cns (.cmp .Eq (.loc 22 13965512736) (.str 169 13968134189) 13965512749) .nil)) 13960532013) (.rio (.cns (.gi 94 15 295 14098682401) (.cns (.str 208 14102090298) .nil)) 14095012411 14096585275 14096585237) .done 13959746107
 (.exp (.cal 110 174 (.cns (.att (.loc 23 14231065619) 12 14231065624) (.cns (.loc 19 14233949214) .nil)) 14228182047 14228182030) 14228182047
 (.ast (.loc 23 14362400264) 13 (.cal 107 153 (.cns (.loc 15 14368429600) (.cns (.str 65 14370264617) (.cns (.att (.loc 23 14372623919) 13 14372623925) (.cns (.gr 103 83 14375769661) .nil)))) 14365808190 14365808154) 14362400318 14362400270
 (.ret (.loc 23 14498453519) 14496618511))))⟩
noncomputable def ir202:FnRow:=⟨[21,20,11,15],[],(.ite (.cmp .Lt (.loc 11 14765841421) (.int 0 14768200721) 14765841425) (.rio (.cns (.gi 89 10 285 14903991838) (.cns (.str 209 14906613294) .nil)) 14900321839 14901894703 14901894677) .done 14765055535
 (.asg 22 (.cal 107 153 (.cns (.loc 15 15038472220) (.cns (.str 68 15040307238) (.cns (.str 170 15042928689) (.cns (.gr 100 80 15045812283) .nil)))) 15035850812 15035850774) 15033491516 15033491466
 (.asg 19 (.cal 109 167 (.cns (.loc 15 15172166170) .nil) 15169544731 15169544724) 15167709723 15167709704
 (.asg 13 (.cal 107 153 (.cns (.loc 15 15306646555) (.cns (.str 65 15308481572) (.cns (.str 171 15310840876) (.cns (.gr 103 83 15312938036) .nil)))) 15304025141 15304025109) 15301927989 15301927945
 (.asg 4 (.cal 108 160 (.cns (.loc 15 15440602650) .nil) 15437981211 15437981204) 15436146203 15436146184
 (.ite (.bo .And (.cns (.cmp .Eq (.loc 22 15571150861) (.str 169 15573772314) 15571150874) (.cns (.cmp .IsNot (.loc 4 15577442339) (.non 15580588079) 15577442351) .nil)) 15571150895) (.rio (.cns (.gi 99 20 305 15709301278) (.cns (.str 210 15711922748) .nil)) 15705631293 15707204157 15707204117) .done 15570364989
 (.asg 23 (.met (.loc 20 15840635920) 80 (.cns (.loc 11 15843257371) .nil) 15840635932 15840635924) 15838800924 15838800904
 (.ite (.bo .And (.cns (.cmp .IsNot (.loc 23 15973805579) (.non 15976951319) 15973805591) (.cns (.bo .Or (.cns (.cmp .Is (.loc 4 15979572769) (.non 15981669929) 15979572777) (.cns (.cmp .Eq (.loc 4 15983767089) (.att (.att (.loc 23 15985864249) 12 15985864254) 4 15985864259) 15983767107) .nil)) 15979572803) .nil)) 15973805636) (.ret (.cal 113 195 (.cns (.loc 23 16113004574) (.cns (.loc 15 16114577445) (.cns (.loc 22 16116412461) (.cns (.loc 19 16118509619) .nil)))) 16110121012 16110120985) 16108286004) .done 15973019700
 (.ite (.cmp .Is (.loc 4 16242242059) (.non 16244339219) 16242242067) (.asg 4 (.bin .Add (.str 199 16378557462) (.blt .str (.cns (.loc 11 16382227491) .nil) 16381178916 16381178908) 16378557476) 16376722468 16376722444
 .done) .done 16241456164
 (.ite (.bo .And (.cns (.cmp .NotEq (.loc 22 16510678541) (.str 169 16513299994) 16510678554) (.cns (.cmp .IsNot (.cal 111 181 (.cns (.loc 20 16520377905) (.cns (.loc 4 16522212919) .nil)) 16516970040 16516970027) (.non 16525620804) 16516970052) .nil)) 16510678596) (.rio (.cns (.gi 94 15 295 16648828961) (.cns (.str 211 16652236874) .nil)) 16645158987 16646731851 16646731797) .done 16509892683
 (.asg 12 (.cal 112 188 (.cns (.loc 21 16783047195) (.cns (.loc 4 16784882209) (.cns (.loc 22 16786455081) (.cns (.loc 19 16788552239) .nil)))) 16780163632 16780163605) 16778328624 16778328584
 (.sst (.loc 20 16912546825) (.loc 11 16914119696) (.new 106 142 (.cns (.loc 11 16918051871) (.cns (.loc 12 16920149029) (.cns (.loc 13 16921721900) .nil))) 16916741165 16916741144) 16912546861 16912546833
 (.ret (.sub (.loc 20 17048600080) (.loc 11 17050172951) 17048600088) 17046765080)))))))))))))⟩
noncomputable def ir209:FnRow:=⟨[20,11],[],(.ite (.cmp .NotIn (.loc 11 17315987981) (.loc 20 17319658010) 17315987994) (.rio (.cns (.gi 90 11 287 17454138403) (.cns (.str 212 17458070591) .nil)) 17450468416 17452041280 17452041237) .done 17315202112
 (.ret (.sub (.loc 20 17585473040) (.loc 11 17587045911) 17585473048) 17583638040))⟩
noncomputable def ir216:FnRow:=⟨[23,5],[],(.ite (.cmp .NotEq (.att (.att (.loc 23 17852860939) 12 17852860944) 5 17852860951) (.loc 5 17858103841) 17852860961) (.rio (.cns (.gi 95 16 297 17991011360) (.cns (.str 213 17994157108) .nil)) 17987341365 17988914229 17988914197) .done 17852075061
 .done)⟩
noncomputable def ir223:FnRow:=⟨[23,6],[],(.ite (.cmp .NotEq (.att (.att (.loc 23 18255515659) 12 18255515664) 6 18255515669) (.loc 6 18260234269) 18255515677) (.rio (.cns (.gi 95 16 297 18393666080) (.cns (.str 214 18396811826) .nil)) 18389996083 18391568947 18391568917) .done 18254729779
 .done)⟩
noncomputable def ir230:FnRow:=⟨[23],[],(.exp (.cal 116 216 (.cns (.loc 23 18660529684) (.cns (.str 163 18662102562) .nil)) 18657383971 18657383951) 18657383971
 (.asg 8 (.att (.att (.loc 23 18794223634) 12 18794223639) 8 18794223647) 18791602207 18791602187
 (.ite (.cmp .Gt (.att (.loc 23 18926606859) 14 18926606865) (.blt .len (.cns (.loc 8 18931063327) .nil) 18930014752 18930014743) 18926606880) (.rio (.cns (.gi 96 17 299 19064757280) (.cns (.str 215 19067903038) .nil)) 19061087295 19062660159 19062660117) .done 18925820991
 (.aga (.loc 23 19194256904) 14 .Add (.int 1 19197926931) 19194256915 19194256910
 (.ite (.cmp .Gt (.att (.loc 23 19329261579) 14 19329261585) (.blt .len (.cns (.loc 8 19333718047) .nil) 19332669472 19332669463) 19329261600) (.ren (.cns (.str 216 19467674156) .nil) 19463741997 19465314861 19465314838) .done 19328475693
 (.ret (.sub (.loc 8 19598746642) (.bin .Sub (.att (.loc 23 19600843799) 14 19600843805) (.int 1 19604251681) 19600843809) 19598746658) 19596911650))))))⟩
noncomputable def ir237:FnRow:=⟨[23],[],(.exp (.cal 116 216 (.cns (.loc 23 19868493844) (.cns (.str 163 19870066722) .nil)) 19865348131 19865348111) 19865348131
 (.ite (.cmp .Gt (.att (.loc 23 20000352779) 14 20000352785) (.blt .len (.cns (.att (.att (.loc 23 20004809244) 12 20004809249) 8 20004809257) .nil) 20003760682 20003760663) 20000352810) (.rio (.cns (.gi 96 17 299 20138503200) (.cns (.str 215 20141648958) .nil)) 20134833215 20136406079 20136406037) .done 19999566911
 (.ast (.att (.loc 23 20268002824) 12 20268002829) 8 (.upt (.att (.att (.loc 23 20273245724) 12 20273245729) 8 20273245737) (.att (.loc 23 20278226479) 14 20278226485) 20273245750 20277964341) 20268002870 20268002837
 .done)))⟩
noncomputable def ir244:FnRow:=⟨[23,24],[],(.exp (.cal 119 237 (.cns (.loc 23 20538798609) .nil) 20536439314 20536439308) 20536439314
 (.exp (.met (.att (.att (.loc 23 20670657544) 12 20670657549) 8 20670657557) 78 (.cns (.loc 24 20677211171) .nil) 20670657572 20670657564) 20670657572
 (.aga (.loc 23 20804875784) 14 .Add (.int 1 20808545811) 20804875795 20804875790
 .done)))⟩
noncomputable def ir251:FnRow:=⟨[24],[],(.ite (.pl (.isi .isStr (.loc 24 21076982296) 21074098718 21074098705 21079079453)) (.ret (.blt .len (.cns (.loc 24 21211462681) .nil) 21210414106 21210414098) 21208579098) .done 21073312794
 (.asg 25 (.int 0 21343583756) 21341748748 21341748744
 (.ft [(3,21477015564),(26,21478588435)] (.loc 24 21480947741) (.agn 25 .Add (.ite (.cmp .Eq (.loc 3 21617000994) (.gi 87 5 274 21619098159) 21617001007) (.blt .len (.cns (.loc 26 21614379545) .nil) 21613330970 21613330963) (.cal 88 79 (.cns (.loc 3 21625389634) .nil) 21623030339 21623030333) 21613331011) 21611233859 21611233804
 .done) 21475967555 21477015571
 (.ret (.loc 25 21746238479) 21744403471))))⟩
noncomputable def ir258:FnRow:=⟨[23,11],[],(.exp (.cal 116 216 (.cns (.loc 23 22015985684) (.cns (.str 164 22017558558) .nil)) 22012839967 22012839951) 22012839967
 (.ite (.cmp .NotIn (.loc 11 22147844621) (.att (.att (.loc 23 22151514649) 12 22151514654) 9 22151514663) 22147844647) (.rio (.cns (.gi 97 18 301 22285995039) (.cns (.str 217 22288878641) .nil)) 22282325042 22283897906 22283897877) .done 22147058738
 (.ast (.loc 23 22415494664) 14 (.loc 11 22418902551) 22415494679 22415494670
 (.ret (.sub (.att (.att (.loc 23 22551547919) 12 22551547924) 9 22551547933) (.loc 11 22556528676) 22551547941) 22549712933))))⟩
noncomputable def ir265:FnRow:=⟨[23,11,24],[],(.exp (.cal 116 216 (.cns (.loc 23 22821295124) (.cns (.str 164 22822867998) .nil)) 22818149407 22818149391) 22818149407
 (.ite (.cmp .Lt (.loc 11 22953154061) (.int 1 22955513361) 22953154065) (.rio (.cns (.gi 97 18 301 23091304479) (.cns (.str 217 23094188081) .nil)) 23087634482 23089207346 23089207317) .done 22952368178
 (.ite (.cmp .Gt (.cal 121 251 (.cns (.loc 24 23223687701) .nil) 23221590550 23221590542) (.att (.att (.loc 23 23226309149) 12 23226309154) 7 23226309161) 23221590569) (.rio (.cns (.gi 98 19 303 23359740958) (.cns (.str 218 23362362427) .nil)) 23356070972 23357643836 23357643797) .done 23220804668
 (.ite (.pl (.isi .isStr (.loc 24 23492910616) 23490027038 23490027025 23495007773)) (.asg 24 (.bin .Add (.loc 24 23626866711) (.bin .Mult (.str 190 23629226013) (.bin .Sub (.att (.att (.loc 23 23631061029) 12 23631061034) 7 23631061041) (.blt .len (.cns (.loc 24 23637090366) .nil) 23636041791 23636041783) 23631061055) 23629226048) 23626866752) 23624507456 23624507406
 .done) .done 23489241152
 (.sst (.att (.att (.loc 23 23757677064) 12 23757677069) 9 23757677078) (.loc 11 23762657821) (.loc 24 23765279271) 23757677095 23757677086
 (.ast (.loc 23 23891895304) 14 (.loc 11 23895303191) 23891895319 23891895310
 .done))))))⟩
noncomputable def ir279:FnRow:=⟨[0,23],[],(.ast (.loc 0 24429816844) 23 (.loc 23 24432962584) 24429816856 24429816849
 .done)⟩
noncomputable def ir286:FnRow:=⟨[0],[],(.ret (.cal 118 230 (.cns (.att (.loc 0 24837452319) 23 24837452324) .nil) 24834306597 24834306586) 24832471589)⟩
noncomputable def ir300:FnRow:=⟨[8,27,7],[],(.ite (.cmp .Gt (.blt .len (.cns (.loc 8 25101694482) .nil) 25100645907 25100645898) (.loc 27 25104578075) 25100645915) (.rio (.cns (.gi 96 17 299 25238796320) (.cns (.str 219 25241942086) .nil)) 25235126343 25236699207 25236699157) .done 25099860039
 (.asg 28 (.lis .nil 25369868812) 25368295948 25368295943
 (.fo 24 (.loc 8 25506184217) (.ite (.cmp .Gt (.blt .len (.cns (.loc 24 25639616021) .nil) 25638567446 25638567438) (.loc 7 25642237471) 25638567455) (.rio (.cns (.gi 98 19 303 25776717858) (.cns (.str 218 25779339327) .nil)) 25773047872 25774620736 25774620697) .done 25637781568
 (.exp (.met (.loc 28 25906217483) 78 (.cns (.bin .Add (.loc 24 25909101081) (.bin .Mult (.str 190 25911460383) (.bin .Sub (.loc 7 25913295401) (.blt .len (.cns (.loc 24 25916703286) .nil) 25915654711 25915654703) 25913295415) 25911460408) 25909101112) .nil) 25906217529 25906217490) 25906217529
 .done)) 25502515769 25503562766
 (.ret (.loc 28 26041222158) 26039387150))))⟩
noncomputable def ir314:FnRow:=⟨[0,8],[],(.ast (.loc 0 26711526924) 8 (.loc 8 26715459102) 26711526942 26711526932
 (.ast (.loc 0 26845745164) 29 (.int 0 26848366611) 26845745171 26845745167
 .done))⟩
noncomputable def ir321:FnRow:=⟨[0],[],(.ite (.cmp .GtE (.att (.loc 0 27249186319) 29 27249186322) (.blt .len (.cns (.att (.loc 0 27253118494) 8 27253118502) .nil) 27252069927 27252069913) 27249186343) (.ren (.cns (.str 220 27387598899) .nil) 27383666740 27385239604 27385239578) .done 27248400436
 (.aga (.loc 0 27516836364) 29 .Add (.int 1 27519719956) 27516836372 27516836367
 (.ret (.sub (.att (.loc 0 27652889619) 8 27652889627) (.bin .Sub (.att (.loc 0 27656297504) 29 27656297507) (.int 1 27658918951) 27656297511) 27652889640) 27651054632)))⟩
noncomputable def ir342:FnRow:=⟨[0,30,21],[],(.ast (.loc 0 28322145804) 31 (.loc 30 28325553698) 28322145826 28322145810
 (.ast (.loc 0 28456364044) 29 (.int 0 28458985491) 28456364051 28456364047
 (.ast (.loc 0 28590582284) 28 (.lis .nil 28593465877) 28590582293 28590582288
 (.ast (.loc 0 28724800524) 21 (.loc 21 28728208410) 28724800538 28724800530
 (.ast (.loc 0 28859018764) 20 (.emp false 28862426647) 28859018775 28859018770
 (.ast (.loc 0 28993237004) 32 (.emp true 28996907032) 28993237016 28993237011
 .done))))))⟩
noncomputable def ir356:FnRow:=⟨[33],[],(.ite (.cmp .GtE (.att (.loc 33 29261411340) 29 29261411343) (.blt .len (.cns (.att (.loc 33 29265605660) 31 29265605666) .nil) 29264557091 29264557078) 29261411363) (.ren (.cns (.str 221 29399823913) .nil) 29395891754 29397464618 29397464598) .done 29260625450
 (.aga (.loc 33 29529061385) 29 .Add (.int 1 29532207121) 29529061393 29529061388
 (.ret (.sub (.att (.loc 33 29665114640) 31 29665114646) (.bin .Sub (.att (.loc 33 29668260380) 29 29668260383) (.int 1 29671143971) 29668260387) 29665114660) 29663279652)))⟩
noncomputable def ir370:FnRow:=⟨[0,33],[],(.ast (.loc 0 30603855884) 33 (.loc 33 30607263770) 30603855898 30603855890
 .done)⟩
noncomputable def ir377:FnRow:=⟨[0],[],(.ret (.cal 128 356 (.cns (.att (.loc 0 31011229214) 33 31011229220) .nil) 31008345637 31008345625) 31006510629)⟩
noncomputable def ir398:FnRow:=⟨[0,23,34],[],(.ast (.loc 0 31543383564) 23 (.loc 23 31546529304) 31543383576 31543383569
 (.ast (.loc 0 31677601804) 34 (.loc 34 31680485398) 31677601814 31677601808
 .done))⟩
noncomputable def ir405:FnRow:=⟨[0],[],(.aga (.loc 0 32080256524) 34 .Add (.int 1 32083402261) 32080256533 32080256528
 (.ret (.cal 122 258 (.cns (.att (.loc 0 32219455519) 23 32219455524) (.cns (.bin .Sub (.att (.loc 0 32222339114) 34 32222339118) (.int 1 32225222706) 32222339122) .nil)) 32216309811 32216309786) 32214474803))⟩
noncomputable def ir419:FnRow:=⟨[35],[],(.ret (.isi .isTup (.sub (.loc 35 32486581277) (.str 69 32488678436) 32486581285) 32483697709 32483697685 32491037740) 32481862701)⟩
noncomputable def ir426:FnRow:=⟨[33,35],[],(.asg 23 (.cal 115 209 (.cns (.att (.loc 33 32754231320) 20 32754231326) (.cns (.sub (.loc 35 32757639207) (.str 69 32759736366) 32757639215) .nil)) 32752134192 32752134162) 32750299184 32750299144
 (.exp (.cal 117 223 (.cns (.loc 23 32887138834) (.cns (.ite (.cmp .In (.str 70 32892643880) (.loc 35 32895003187) 32892643891) (.str 165 32888711711) (.str 166 32898411078) 32888711750) .nil)) 32884517447 32884517389) 32884517447
 (.ret (.loc 23 33020570639) 33018735631)))⟩
noncomputable def ir433:FnRow:=⟨[33,35,11],[],(.asg 23 (.sub (.loc 35 33289007122) (.str 69 33291104281) 33289007130) 33287172122 33287172104
 (.ret (.bo .Or (.cns (.cmp .Eq (.loc 23 33423225359) (.str 173 33425322518) 33423225366) (.cns (.bo .And (.cns (.cmp .Eq (.loc 23 33427419679) (.loc 11 33429516841) 33427419689) (.cns (.cmp .NotIn (.loc 11 33432400436) (.att (.loc 33 33436070465) 20 33436070471) 33432400455) .nil)) 33427419719) .nil)) 33423225416) 33421390408))⟩
noncomputable def ir440:FnRow:=⟨[33,35,8],[],(.ite (.pl (.cal 133 419 (.cns (.loc 35 33693759002) .nil) 33690613275 33690613266)) (.asg 36 (.sub (.sub (.loc 35 33827190807) (.str 69 33829287966) 33827190815) (.int 1 33831385121) 33827190818) 33825093666 33825093645
 (.ret (.cal 125 300 (.cns (.loc 8 33964554787) (.cns (.blt .len (.cns (.loc 36 33967962670) .nil) 33966914095 33966914088) (.cns (.blt .len (.cns (.sub (.loc 36 33971108410) (.int 0 33972681276) 33971108413) .nil) 33970059838 33970059828) .nil))) 33961146943 33961146907) 33959311935)) .done 33689827903
 (.ite (.pl (.cal 135 433 (.cns (.loc 33 34096413720) (.cns (.loc 35 34098248737) (.cns (.gi 130 6 710 34100608046) .nil))) 34093268015 34093267986)) (.exp (.met (.att (.loc 33 34227748365) 28 34227748369) 79 (.cns (.loc 8 34232204832) .nil) 34227748385 34227748376) 34227748385
 (.ret (.non 34363801619) 34361966611)) .done 34092482579
 (.asg 23 (.cal 134 426 (.cns (.loc 33 34499330585) (.cns (.loc 35 34501165602) .nil)) 34496971299 34496971283) 34495136291 34495136264
 (.asg 34 (.met (.loc 35 34630927377) 80 (.cns (.str 71 34634073115) .nil) 34630927388 34630927381) 34629354524 34629354503
 (.fo 24 (.loc 8 34767242777) (.ite (.cmp .Is (.loc 34 34899625998) (.non 34901461014) 34899626006) (.exp (.cal 120 244 (.cns (.loc 23 35037514269) (.cns (.loc 24 35039087141) .nil)) 35034106406 35034106392) 35034106406
 .done) (.exp (.cal 123 265 (.cns (.loc 23 35305950749) (.cns (.loc 34 35307523618) (.cns (.loc 24 35308834346) .nil))) 35302542891 35302542872) 35302542891
 (.agn 34 .Add (.int 1 35438596116) 35436761108 35436761103
 .done)) 34898841620
 .done) 34763575316 34764621326
 (.ret (.non 35570717199) 35568882191))))))⟩
noncomputable def ir447:FnRow:=⟨[33,35],[],(.ite (.pl (.cal 133 419 (.cns (.loc 35 35841250842) .nil) 35838105115 35838105106)) (.ret (.new 126 324 (.cns (.sub (.sub (.loc 35 35977304097) (.str 69 35979401256) 35977304105) (.int 1 35981498411) 35977304108) .nil) 35974420525 35974420505) 35972585517) .done 35837319213
 (.ite (.pl (.cal 135 433 (.cns (.loc 33 36109687320) (.cns (.loc 35 36111522337) (.cns (.gi 129 5 708 36113881645) .nil))) 36106541614 36106541586)) (.ret (.new 131 380 (.cns (.loc 33 36246002720) .nil) 36242856993 36242856986) 36241021985) .done 36105755681
 (.asg 23 (.cal 134 426 (.cns (.loc 33 36378385945) (.cns (.loc 35 36380220962) .nil)) 36376026659 36376026643) 36374191651 36374191624
 (.ite (.cmp .In (.str 71 36509196300) (.loc 35 36511555607) 36509196311) (.ret (.new 132 408 (.cns (.loc 23 36648919584) (.cns (.sub (.loc 35 36650492457) (.str 71 36652589615) 36650492464) .nil)) 36645511729 36645511707) 36643676721) .done 36508410417
 (.ret (.new 124 289 (.cns (.loc 23 36781564954) .nil) 36778681371 36778681365) 36776846363)))))⟩
noncomputable def ir461:FnRow:=⟨[0],[],(.ast (.loc 0 37583204364) 37 (.lis .nil 37586612247) 37583204375 37583204370
 .done)⟩
noncomputable def ir468:FnRow:=⟨[0,3,26],[],(.exp (.met (.att (.loc 0 37985859084) 37 37985859090) 78 (.cns (.tup (.cns (.loc 3 37990839839) (.cns (.loc 26 37992412710) .nil)) 37990577703) .nil) 37985859112 37985859097) 37985859112
 .done)⟩
noncomputable def ir475:FnRow:=⟨[0],[],(.ret (.lis (.cns (.att (.loc 0 38390610964) 37 38390610970) .nil) 38390348827) 38388513819)⟩
noncomputable def ir496:FnRow:=⟨[0,24],[],(.ast (.loc 0 38925386764) 24 (.loc 24 38929056796) 38925386780 38925386771
 (.ast (.loc 0 39059605004) 29 (.int 0 39062226451) 39059605011 39059605007
 .done))⟩
noncomputable def ir503:FnRow:=⟨[0,3,7],[],(.ite (.bo .Or (.cns (.pl (.isi .isStr (.att (.loc 0 39465929754) 24 39465929761) 39463046183 39463046165 39469337638)) (.cns (.cmp .GtE (.att (.loc 0 39471434799) 29 39471434802) (.blt .len (.cns (.att (.loc 0 39475366974) 24 39475366981) .nil) 39474318406 39474318393) 39471434822) (.cns (.cmp .NotEq (.sub (.sub (.att (.loc 0 39479561294) 24 39479561301) (.att (.loc 0 39482707034) 29 39482707037) 39479561310) (.int 0 39485066336) 39479561313) (.loc 3 39486639209) 39479561321) .nil))) 39463046249) (.rio (.cns (.gi 138 7 836 39601196580) (.cns (.str 222 39604342336) .nil)) 39597526593 39599099457 39599099417) .done 39462260289
 (.aga (.loc 0 39730696204) 29 .Add (.int 1 39733579796) 39730696212 39730696207
 (.ret (.sub (.sub (.att (.loc 0 39866749459) 24 39866749466) (.bin .Sub (.att (.loc 0 39869895199) 29 39869895202) (.int 1 39872516646) 39869895206) 39866749479) (.int 1 39873303081) 39866749482) 39864914474)))⟩
noncomputable def ir510:FnRow:=⟨[0],[],(.ret (.non 40269404179) 40267569171)⟩
noncomputable def ir524:FnRow:=⟨[],[],(.ret (.lis (.cns (.tup (.cns (.str 163 40671534617) (.cns (.str 165 40675204646) .nil)) 40671272487) (.cns (.tup (.cns (.str 163 40679136822) (.cns (.str 166 40682806853) .nil)) 40678874694) (.cns (.tup (.cns (.str 164 40687263313) (.cns (.str 165 40689884766) .nil)) 40687001183) (.cns (.tup (.cns (.str 164 40693816938) (.cns (.str 166 40696438393) .nil)) 40693554810) .nil)))) 40671010427) 40669175419)⟩
noncomputable def ir536:FnRow:=⟨[38,39],[],(.asl 42 (.lc (.bin .Add (.str 72 41745018384) (.blt .str (.cns (.loc 56 41747901976) .nil) 41746853401 41746853398) 41745018393) [(56,41749736991)] 0 (.rng (.cal 142 531 (.cns (.loc 38 41755242041) (.cns (.loc 39 41757339199) (.cns (.int 4 41758912066) .nil))) 41752620611 41752620594) 41751047748 41751047720) .nil [(200,0),(56,0),(156,1)] 41744756293) 41742921285 41742921224
 (.asg 33 (.new 127 345 (.cns (.blt .list (.cns (.loc 42 41882120219) .nil) 41880809500 41880809494) (.cns (.new 105 121 .nil 41883955237 41883955235) .nil)) 41879236646 41879236625) 41877139494 41877139465
 (.asg 43 (.dic (.dcn 72 42013454864 (.loc 42 42015027734) (.dcn 28 42016600605 (.lis .nil 42018435617) (.dcn 20 42019484202 (.emp false 42021843502) .nil))) 42013192751) 42011357743 42011357704
 (.fo 11 (.tup (.cns (.int 6 42149508116) (.cns (.int 5 42150294551) (.cns (.int 7 42151080986) .nil))) 42149245979) (.ite (.cmp .Gt (.cal 142 531 (.cns (.loc 38 42284250651) (.cns (.loc 39 42286347809) (.cns (.int 3 42287920676) .nil))) 42281629221 42281629204) (.int 0 42289231401) 42281629225) (.asg 19 (.sub (.cal 141 524 .nil 42417944607 42417944605) (.cal 142 531 (.cns (.loc 38 42423973936) (.cns (.loc 39 42426071094) (.cns (.int 4 42427643961) .nil))) 42421352506 42421352489) 42417944635) 42416109627 42416109584
 (.asg 15 (.dic (.dcn 66 42552687131 (.bin .Add (.str 176 42554784288) (.blt .str (.cns (.loc 11 42557405741) .nil) 42556357166 42556357158) 42554784302) (.dcn 67 42559765048 (.sub (.loc 19 42562386494) (.int 0 42563697216) 42562386497) (.dcn 63 42564745801 (.sub (.loc 19 42566842959) (.int 1 42568153681) 42566842962) .nil))) 42552425043) 42550327891 42550327825
 (.ite (.cmp .Eq (.sub (.loc 19 42685332499) (.int 0 42686643221) 42685332502) (.str 164 42688216098) 42685332514) (.sst (.loc 15 42819812885) (.str 64 42821385756) (.int 3 42824007201) 42819812897 42819812893
 .done) .done 42684546593
 (.exp (.cal 114 202 (.cns (.att (.loc 33 42955603995) 21 42955604001) (.cns (.att (.loc 33 42959011880) 20 42959011886) (.cns (.loc 11 42962419766) (.cns (.loc 15 42964516925) .nil)))) 42952982590 42952982549) 42952982590
 (.sst (.sub (.loc 43 43087200784) (.str 20 43088511512) 43087200793) (.loc 11 43090870816) (.dic (.dcn 19 43093754411 (.loc 19 43095851569) (.dcn 42 43097424441 (.lis .nil 43099521597) (.dcn 14 43100570182 (.int 0 43102929481) (.dcn 73 43103715922 (.emp false 43106075222) .nil)))) 43093492311) 43087200855 43087200801
 .done))))) .done 42280845911
 .done) 42145579607 42146624526
 (.ret (.tup (.cns (.loc 33 43221419025) (.cns (.loc 43 43223254039) .nil)) 43221156888) 43219321880)))))⟩
noncomputable def ir541:FnRow:=⟨[24],[],(.ret (.ite (.pl (.isi .isStr (.loc 24 43496409131) 43493525553 43493525540 43498506288)) (.blt .len (.cns (.loc 24 43490641941) .nil) 43489593366 43489593358) (.blt .sum (.cns (.lc (.sub (.lis (.cns (.int 1 43502700606) (.cns (.int 1 43503487041) (.cns (.int 2 43504273476) (.cns (.int 2 43505059911) (.cns (.int 1 43505846346) .nil))))) 43502438475) (.loc 3 43506632784) 43502438481) [(3,43509254234),(26,43510827105)] 43509254241 (.loc 24 43513186411) .nil [(200,0),(3,0),(26,0)] 43502176364) .nil) 43501127789 43501127738) 43489593453) 43487758445)⟩
noncomputable def ir548:FnRow:=⟨[43,23,6],[],(.ite (.cmp .NotIn (.loc 23 43756981259) (.sub (.loc 43 43760126999) (.str 20 43761437727) 43760127008) 43756981280) (.ret (.int 11 43893296657) 43891461649) .done 43756195345
 (.ret (.ite (.cmp .Eq (.sub (.sub (.sub (.sub (.loc 43 44032495654) (.str 20 44033806382) 44032495663) (.loc 23 44036165684) 44032495669) (.str 19 44037738556) 44032495677) (.int 1 44039835711) 44032495680) (.loc 6 44041408584) 44032495688) (.sub (.sub (.loc 43 44026466319) (.str 20 44027777047) 44026466328) (.loc 23 44030136349) 44026466334) (.int 16 44044030032) 44026466384) 44024631376))⟩
noncomputable def ir555:FnRow:=⟨[43,23,6,34,8],[],(.ite (.bo .Or (.cns (.cmp .Eq (.loc 23 44293854219) (.str 173 44295951378) 44293854226) (.cns (.bo .And (.cns (.cmp .Eq (.loc 23 44298048539) (.int 6 44300145696) 44298048544) (.cns (.cmp .NotIn (.int 6 44301718566) (.sub (.loc 43 44304077874) (.str 20 44305388602) 44304077883) 44301718587) .nil)) 44298048571) .nil)) 44293854268) (.ags (.loc 43 44428334604) (.str 28 44429645330) .Add (.loc 8 44432266782) 44428334622 44428334611
 (.ret (.int 0 44564387856) 44562552848)) .done 44293068816
 (.asg 44 (.cal 145 548 (.cns (.loc 43 44699916824) (.cns (.loc 23 44701489694) (.cns (.loc 6 44703062564) .nil))) 44697295397 44697295379) 44695722533 44695722503
 (.ite (.pl (.isi .isInt (.loc 44 44833610773) 44830727195 44830727185 44834921498)) (.ret (.loc 44 44967042578) 44965207570) .done 44829941266
 (.fo 24 (.loc 8 45102047257) (.ite (.cmp .NotEq (.cmp .Eq (.sub (.sub (.loc 44 45234692623) (.str 19 45235741206) 45234692631) (.int 0 45237838361) 45234692634) (.str 164 45239411238) 45234692646) (.cmp .IsNot (.loc 34 45243081263) (.non 45245964859) 45243081275) 45234430524) (.ret (.int 16 45370745877) 45368910869) .done 45233644565
 (.ite (.cmp .Is (.loc 34 45502866958) (.non 45504701974) 45502866966) (.ite (.cmp .Gt (.sub (.loc 44 45638133778) (.str 14 45639182362) 45638133787) (.blt .len (.cns (.sub (.loc 44 45643114533) (.str 42 45644163116) 45643114541) .nil) 45642065966 45642065953) 45638133806) (.ret (.int 17 45774449177) 45772614169) .done 45637347865
 (.sst (.loc 44 45905783823) (.str 42 45906832406) (.bin .Add (.upt (.sub (.loc 44 45909453853) (.str 42 45910502436) 45909453861) (.sub (.loc 44 45912861738) (.str 14 45913910322) 45912861747) 45909453876 45912599603) (.lis (.cns (.loc 24 45917318206) .nil) 45917056063) 45909453887) 45905783871 45905783831
 (.ags (.loc 44 46040002063) (.str 14 46041050647) .Add (.int 1 46044196381) 46040002077 46040002072
 .done))) (.ite (.bo .Or (.cns (.cmp .Lt (.loc 34 46309224978) (.int 1 46310797846) 46309224982) (.cns (.cmp .Gt (.cal 144 541 (.cns (.loc 24 46314730026) .nil) 46312108587 46312108579) (.int 3 46317351471) 46312108591) .nil)) 46309225007) (.ret (.ite (.cmp .Lt (.loc 34 46447113248) (.int 1 46448686116) 46447113252) (.int 18 46445540377) (.int 19 46450521132) 46445540396) 46443705388) .done 46308439084
 (.sst (.sub (.loc 44 46576875023) (.str 73 46577923607) 46576875032) (.loc 34 46580282908) (.ite (.pl (.isi .isStr (.loc 24 46594438741) 46591555163 46591555150 46596535898)) (.bin .Add (.loc 24 46582117926) (.bin .Mult (.str 190 46584477228) (.bin .Sub (.int 3 46586312241) (.blt .len (.cns (.loc 24 46588409406) .nil) 46587360831 46587360823) 46586312255) 46584477248) 46582117952) (.loc 24 46599157351) 46582117991) 46576875111 46576875037
 (.agn 34 .Add (.int 1 46712928276) 46711093268 46711093263
 .done))) 45502085140
 .done)) 45098383380 45099425806
 (.ret (.int 0 46845049356) 46843214348)))))⟩
noncomputable def ir562:FnRow:=⟨[43,23,6,34,46],[],(.asg 45 (.lis .nil 47113747982) 47111650830 47111650825
 (.ite (.bo .Or (.cns (.cmp .Eq (.loc 23 47246655499) (.str 173 47248752658) 47246655506) (.cns (.bo .And (.cns (.cmp .Eq (.loc 23 47250849819) (.int 5 47252946976) 47250849824) (.cns (.cmp .NotIn (.int 5 47254519846) (.sub (.loc 43 47256879154) (.str 20 47258189882) 47256879163) 47254519867) .nil)) 47250849851) .nil)) 47246655548) (.fo 47 (.rng (.loc 46 47385068059) 47383495196 47383495190) (.ite (.cmp .Eq (.sub (.loc 43 47517189139) (.str 72 47518499864) 47517189145) (.lis .nil 47520859167) 47517189151) (.ret (.tup (.cns (.neg 1 47653766682 47654028826) (.cns (.loc 45 47654815265) .nil)) 47653504546) 47651669538) .done 47516403234
 (.exp (.met (.loc 45 47784839185) 78 (.cns (.sub (.sub (.loc 43 47788247069) (.str 72 47789557794) 47788247075) (.int 0 47791130661) 47788247078) .nil) 47784839207 47784839192) 47784839207
 (.sst (.loc 43 47919057424) (.str 72 47920368149) (.frm (.sub (.loc 43 47922465309) (.str 72 47923776034) 47922465315) (.int 1 47925348901) 47922465319 47925348902) 47919057447 47919057430
 .done))) 47381137959 47382184461
 (.ret (.tup (.cns (.int 0 48054324241) (.cns (.loc 45 48055110680) .nil)) 48054062105) 48052227097)) .done 47245872153
 (.asg 44 (.cal 145 548 (.cns (.loc 43 48189591064) (.cns (.loc 23 48191163934) (.cns (.loc 6 48192736804) .nil))) 48186969637 48186969619) 48185396773 48185396743
 (.ite (.pl (.isi .isInt (.loc 44 48323285013) 48320401435 48320401425 48324595738)) (.ret (.tup (.cns (.loc 44 48456978963) (.cns (.loc 45 48458289690) .nil)) 48456716827) 48454881819) .done 48319615515
 (.fo 47 (.rng (.loc 46 48591983639) 48590410776 48590410770) (.ite (.cmp .NotEq (.cmp .Eq (.sub (.sub (.loc 44 48724366863) (.str 19 48725415446) 48724366871) (.int 0 48727512601) 48724366874) (.str 164 48729085478) 48724366886) (.cmp .IsNot (.loc 34 48732755503) (.non 48735639099) 48732755515) 48724104764) (.ret (.tup (.cns (.int 16 48860682262) (.cns (.loc 45 48861730845) .nil)) 48860420126) 48858585118) .done 48723318814
 (.ite (.cmp .IsNot (.loc 34 48992541198) (.non 48995424794) 48992541210) (.ite (.cmp .NotIn (.loc 34 49127808018) (.sub (.loc 44 49130691613) (.str 73 49131740197) 49130691622) 49127808038) (.ret (.tup (.cns (.int 18 49264385562) (.cns (.loc 45 49265434145) .nil)) 49264123426) 49262288418) .done 49127022114
 (.exp (.met (.loc 45 49395458065) 78 (.cns (.sub (.sub (.loc 44 49398865948) (.str 73 49399914532) 49398865957) (.loc 34 49402273833) 49398865962) .nil) 49395458091 49395458072) 49395458091
 (.agn 34 .Add (.int 1 49531511316) 49529676308 49529676303
 .done))) (.ite (.cmp .Gt (.sub (.loc 44 49798899218) (.str 14 49799947802) 49798899227) (.blt .len (.cns (.sub (.loc 44 49803879973) (.str 42 49804928556) 49803879981) .nil) 49802831406 49802831393) 49798899246) (.ret (.tup (.cns (.int 17 49935476762) (.cns (.loc 45 49936525345) .nil)) 49935214626) 49933379618) .done 49798113314
 (.ags (.loc 44 50066549263) (.str 14 50067597847) .Add (.int 1 50070743581) 50066549277 50066549272
 (.ite (.cmp .Gt (.sub (.loc 44 50201553938) (.str 14 50202602522) 50201553947) (.blt .len (.cns (.sub (.loc 44 50206534693) (.str 42 50207583276) 50206534701) .nil) 50205486126 50205486113) 50201553966) (.ret (.tup (.cns (.neg 1 50338131482 50338393626) (.cns (.loc 45 50339180065) .nil)) 50337869346) 50336034338) .done 50200768034
 (.exp (.met (.loc 45 50469203985) 78 (.cns (.sub (.sub (.loc 44 50472611868) (.str 42 50473660451) 50472611876) (.bin .Sub (.sub (.loc 44 50475757608) (.str 14 50476806192) 50475757617) (.int 1 50479689781) 50475757621) 50472611894) .nil) 50469204023 50469203992) 50469204023
 .done)))) 48991760439
 .done)) 48588058679 48589100041
 (.ret (.tup (.cns (.int 0 50603422221) (.cns (.loc 45 50604208660) .nil)) 50603160085) 50601325077))))))⟩
noncomputable def ir567:FnRow:=⟨[36,8],[36],(.ite (.cmp .Gt (.blt .len (.cns (.loc 8 50871596562) .nil) 50870547987 50870547978) (.blt .len (.cns (.cel 36 50875528735) .nil) 50874480160 50874480153) 50870548000) (.ret (.tup (.cns (.int 17 51007125522) (.cns (.cel 36 51008174105) .nil)) 51006863386) 51005028378) .done 50869762074
 (.ite (.pl (.lc (.loc 24 51139246606) [(24,51142130201)] 0 (.loc 8 51144751652) (.cmp .Gt (.blt .len (.cns (.loc 24 51148683826) .nil) 51147635251 51147635243) (.blt .len (.cns (.sub (.cel 36 51152353855) (.int 0 51153926721) 51152353858) .nil) 51151305283 51151305273) 51147635267) [(200,0),(24,0),(154,1),(36,2)] 51138984516)) (.ret (.tup (.cns (.int 19 51275562002) (.cns (.cel 36 51276610585) .nil)) 51275299866) 51273464858) .done 51138198554
 (.ret (.tup (.cns (.int 0 51408731661) (.cns (.lc (.bin .Add (.loc 24 51409780246) (.bin .Mult (.str 190 51412139548) (.bin .Sub (.blt .len (.cns (.sub (.cel 36 51415023145) (.int 0 51416596011) 51415023148) .nil) 51413974573 51413974563) (.blt .len (.cns (.loc 24 51419217466) .nil) 51418168891 51418168883) 51413974587) 51412139580) 51409780284) [(24,51422625351)] 0 (.loc 8 51425246802) .nil [(200,0),(24,0),(154,1),(36,2)] 51409518163) .nil)) 51408469588) 51406634580)))⟩
noncomputable def ir574:FnRow:=⟨[33,35,8],[],(.try (.asg 36 (.cal 136 440 (.cns (.loc 33 51814532125) (.cns (.loc 35 51816367142) (.cns (.loc 8 51818726447) .nil))) 51812434992 51812434967) 51810337840 51810337805
 .done) (.ret (.tup (.cns (.att (.loc 49 52080871445) 2 52080871450) (.cns (.lis .nil 52084017182) .nil)) 52080609311) 52078774303) 51675072543 51943507999 51945342482
 (.ret (.tup (.cns (.int 0 52214041101) (.cns (.ite (.cmp .Is (.loc 36 52216400410) (.non 52218759714) 52216400418) (.lis .nil 52214827537) (.loc 36 52221381165) 52214827565) .nil)) 52213778990) 52211943982))⟩
noncomputable def ir581:FnRow:=⟨[33,35,46],[],(.asg 45 (.lis .nil 52482477582) 52480380430 52480380425
 (.try (.asg 48 (.cal 137 447 (.cns (.loc 33 52754846240) (.cns (.loc 35 52756681257) .nil)) 52752224810 52752224794) 52749865514 52749865486
 (.fo 47 (.rng (.loc 46 52888015899) 52886443036 52886443030) (.exp (.met (.loc 45 53019350545) 78 (.cns (.met (.loc 48 53022758431) 74 .nil 53022758445 53022758443) .nil) 53019350574 53019350552) 53019350574
 .done) 52884084270 52885132301
 .done)) (.ret (.tup (.cns (.att (.loc 49 53288835605) 2 53288835610) (.cns (.loc 45 53291981345) .nil)) 53288573474) 53286738466) 52614601250 53151472162 53153306642
 (.ret (.tup (.cns (.int 0 53422005261) (.cns (.loc 45 53422791700) .nil)) 53421743125) 53419908117)))⟩
noncomputable def ir586:FnRow:=⟨[24],[52],(.asg 50 (.new 139 478 .nil 53690441750 53690441748) 53688344598 53688344585
 (.ft [(3,53823611404),(26,53825184275)] (.loc 24 53827543581) (.exp (.met (.loc 50 53957829645) 76 (.cns (.loc 3 53960451094) (.cns (.loc 26 53962023965) .nil)) 53957829662 53957829649) 53957829662
 .done) 53822563358 53823611411
 (.asg 51 (.met (.loc 50 54092834320) 77 .nil 54092834329 54092834327) 54090999321 54090999304
 (.acl 52 (.new 140 513 (.cns (.sub (.loc 51 54229411864) (.int 0 54230722586) 54229411867) .nil) 54227314716 54227314707) 54225217564 54225217545
 (.asl 53 (.lc (.met (.cel 52 54361532945) 75 (.cns (.loc 3 54364416539) (.cns (.int 0 54365989406) .nil)) 54361532959 54361532950) [(3,54367824424),(26,54369397295)] 54367824431 (.loc 24 54371756601) .nil [(200,0),(3,0),(26,0),(52,2)] 54361270842) 54359435834 54359435784
 (.asg 54 (.lis .nil 54495751182) 54493654030 54493654025
 (.ft [(55,54628920845),(3,54630755859)] (.tup (.cns (.tup (.cns (.cel 52 54633377310) (.cns (.int 0 54635212321) .nil)) 54633115170) (.cns (.tup (.cns (.new 140 513 (.cns (.sub (.loc 51 54638620209) (.int 0 54639930931) 54638620212) .nil) 54636523061 54636523052) (.cns (.bin .Add (.sub (.sub (.loc 24 54641241661) (.int 0 54643076671) 54641241664) (.int 0 54643863106) 54641241667) (.int 1 54645173831) 54641241671) .nil)) 54636260936) (.cns (.tup (.cns (.new 140 513 (.cns (.str 1 54648581721) .nil) 54646484570 54646484562) (.cns (.int 0 54650941021) .nil)) 54646222430) .nil))) 54632853087) (.try (.exp (.met (.loc 55 54898405905) 75 (.cns (.loc 3 54901289499) (.cns (.int 0 54902862366) .nil)) 54898405919 54898405910) 54898405919
 .done) (.exp (.met (.loc 54 55166842385) 78 (.cns (.att (.loc 49 55170250270) 2 55170250275) .nil) 55166842404 55166842392) 55166842404
 .done) 54763140644 55031576100 55033410582
 .done) 54627874340 54628920851
 (.ret (.bo .And (.cns (.cmp .Eq (.loc 51 55300798479) (.lis (.cns (.loc 24 55303157786) .nil) 55302895643) 55300798491) (.cns (.cmp .Eq (.loc 53 55306303524) (.lc (.loc 26 55308662830) [(3,55311284279),(26,55312857150)] 55311284286 (.loc 24 55315216456) .nil [(200,0),(3,0),(26,0)] 55308400713) 55306303561) (.cns (.cmp .Eq (.loc 54 55318624340) (.lis (.cns (.int 7 55321245786) (.cns (.int 7 55322032221) (.cns (.int 7 55322818656) .nil))) 55320983649) 55318624353) .nil))) 55300798562) 55298963554))))))))⟩
noncomputable def ir593:FnRow:=⟨[33,43],[],(.ite (.bo .Or (.cns (.cmp .NotEq (.att (.loc 33 55568186380) 28 55568186384) (.sub (.loc 43 55571594264) (.str 28 55572904990) 55571594271) 55568186399) (.cns (.cmp .NotEq (.frm (.att (.loc 33 55575526440) 31 55575526446) (.att (.loc 33 55578672180) 29 55578672183) 55575526457 55578672184) (.sub (.loc 43 55582342209) (.str 72 55583652934) 55582342215) 55575526471) .nil)) 55568186439) (.ret (.boo false 55704501780) 55702666772) .done 55567400468
 (.fo 11 (.sub (.loc 43 55839506454) (.str 20 55840817182) 55839506463) (.asg 23 (.sub (.att (.loc 33 55972938260) 20 55972938266) (.loc 11 55976084001) 55972938274) 55971103266 55971103244
 (.asg 44 (.sub (.sub (.loc 43 56106894354) (.str 20 56108205082) 56106894363) (.loc 11 56110564386) 56106894371) 56105321507 56105321483
 (.ite (.bo .Or (.cns (.cmp .NotEq (.att (.att (.loc 23 56240326159) 12 56240326164) 8 56240326172) (.sub (.loc 44 56245831203) (.str 42 56246879786) 56245831211) 56240326187) (.cns (.cmp .NotEq (.att (.att (.loc 23 56249763379) 12 56249763384) 9 56249763393) (.sub (.loc 44 56255530568) (.str 73 56256579152) 56255530577) 56249763409) .nil)) 56240326225) (.ret (.boo false 56376641560) 56374806552) .done 56239540248
 (.ite (.bo .And (.cns (.cmp .Eq (.sub (.sub (.loc 44 56508762638) (.str 19 56509811221) 56508762646) (.int 0 56511908376) 56508762649) (.str 163 56513481257) 56508762665) (.cns (.cmp .NotEq (.att (.loc 23 56517937714) 14 56517937720) (.sub (.loc 44 56521607743) (.str 14 56522656327) 56521607752) 56517937736) .nil)) 56508762696) (.ret (.boo false 56645078040) 56643243032) .done 56507976728
 .done)))) 55835839512 55836885006
 (.ret (.boo true 56777199119) 56775364111)))⟩
noncomputable def fnT:List (Nat×FnRow):=[(79,ir79),(97,ir97),(118,ir118),(139,ir139),(153,ir153),(160,ir160),(167,ir167),(174,ir174),(181,ir181),(188,ir188),(195,ir195),(202,ir202),(209,ir209),(216,ir216),(223,ir223),(230,ir230),(237,ir237),(244,ir244),(251,ir251),(258,ir258),(265,ir265),(279,ir279),(286,ir286),(300,ir300),(314,ir314),(321,ir321),(342,ir342),(356,ir356),(370,ir370),(377,ir377),(398,ir398),(405,ir405),(419,ir419),(426,ir426),(433,ir433),(440,ir440),(447,ir447),(461,ir461),(468,ir468),(475,ir475),(496,ir496),(503,ir503),(510,ir510),(524,ir524),(536,ir536),(541,ir541),(548,ir548),(555,ir555),(562,ir562),(567,ir567),(593,ir593)]
noncomputable def fnC:List (Nat×FnRow):=[(574,ir574),(581,ir581),(586,ir586)]
noncomputable def irLA:IS:=(.asg 23 (.sub (.lis (.cns (.str 173 57583819283) (.cns (.int 6 57585130006) (.cns (.int 5 57585916441) (.cns (.int 7 57586702876) (.cns (.int 6 57587489311) (.cns (.int 5 57588275746) (.cns (.int 7 57589062181) (.cns (.str 61 57589848622) (.cns (.int 8 57592207921) .nil))))))))) 57583557170) (.cal 142 531 (.cns (.loc 38 57595615811) (.cns (.loc 39 57597712969) (.cns (.int 9 57599285836) .nil))) 57592994381 57592994364) 57583557198) 57581722190 57581722124
 (.asg 58 (.bo .Or (.cns (.cmp .Lt (.cal 142 531 (.cns (.loc 38 57721445411) (.cns (.loc 39 57723542569) (.cns (.int 3 57725115436) .nil))) 57718823981 57718823964) (.int 2 57726426161) 57718823985) (.cns (.cmp .Eq (.loc 23 57727736889) (.str 61 57729834052) 57727736900) .nil)) 57718824004) 57715940420 57715940368
 (.asg 34 (.sub (.lis (.cns (.non 57851993619) (.cns (.non 57853566489) (.cns (.int 1 57855139356) (.cns (.int 2 57855925791) (.cns (.int 0 57856712226) .nil))))) 57851731491) (.cal 142 531 (.cns (.loc 38 57860120116) (.cns (.loc 39 57862217274) (.cns (.int 5 57863790141) .nil))) 57857498686 57857498669) 57851731519) 57850158655 57850158603
 (.asl 36 (.lc (.sub (.lis (.cns (.str 193 57986998294) (.cns (.str 194 57988571163) (.cns (.str 175 57989881887) (.cns (.str 195 57990930471) .nil)))) 57986736168) (.bin .Mod (.bin .Add (.cel 56 57993289771) (.loc 57 57994338351) 57993289775) (.int 4 57995649076) 57993027636) 57986736181) [(57,57997484091)] 0 (.rng (.bin .Add (.int 1 58000367686) (.cal 142 531 (.cns (.loc 38 58004037721) (.cns (.loc 39 58006134879) (.cns (.int 2 58007707746) .nil))) 58001416291 58001416274) 58000367715) 57998794852 57998794820) .nil [(200,0),(57,0),(56,2)] 57986474085) 57984376933 57984376845
 (.asl 59 (.lc (.upt (.lis (.cns (.tup (.cns (.bin .Mod (.cel 56 58121478676) (.int 3 58122527256) 58121478680) (.cns (.bin .Add (.cel 56 58123313691) (.loc 57 58124362271) 58123313695) .nil)) 58121216544) (.cns (.tup (.cns (.int 4 58125672996) (.cns (.boo true 58126459434) .nil)) 58125410859) .nil)) 58120954412) (.bin .Add (.int 1 58128556591) (.bin .Mod (.cel 56 58129605171) (.int 2 58130653751) 58129605175) 58128556599) 58120954424 58128294455) [(57,58132488766)] 0 (.rng (.blt .len (.cns (.loc 36 58136420945) .nil) 58135372370 58135372363) 58133799507 58133799495) .nil [(200,0),(57,0),(56,2)] 58120692308) 58118595156 58118595085
 (.asg 8 (.ite (.pl (.loc 58 58257794083)) (.loc 36 58255434775) (.loc 59 58261464110) 58255434798) 58252813358 58252813327
 (.asg 6 (.ite (.pl (.loc 58 58392798758)) (.str 165 58388866586) (.str 166 58396468793) 58388866617) 58387031609 58387031564
 (.asg 35 (.dic (.dcn 69 58524133401 (.loc 23 58526230559) .nil) 58523871264) 58521249824 58521249807
 (.ite (.pl (.loc 58 58656254483)) (.sst (.loc 35 58790734867) (.str 70 58792832025) (.str 173 58795191328) 58790734880 58790734874
 .done) .done 58655468576
 (.ite (.cmp .IsNot (.loc 34 58924690958) (.non 58927574554) 58924690970) (.sst (.loc 35 59059171347) (.str 71 59061268505) (.loc 34 59063627808) 59059171360 59059171354
 .done) .done 58923905056
 (.asg 60 (.cmp .Eq (.cal 142 531 (.cns (.loc 38 59197846051) (.cns (.loc 39 59199943209) (.cns (.int 2 59201516076) .nil))) 59195224621 59195224604) (.int 0 59203088946) 59195224626) 59192341042 59192341008
 .done)))))))))))
noncomputable def irL11:IS:=(.ite (.cmp .Eq (.loc 23 59327345679) (.str 61 59329442842) 59327345690) (.asg 61 (.bin .Mult (.lis (.cns (.str 196 59464185370) .nil) 59463923227) (.bin .Add (.int 1 59466806816) (.cal 142 531 (.cns (.loc 38 59470476851) (.cns (.loc 39 59472574009) (.cns (.int 2 59474146876) .nil))) 59467855421 59467855404) 59466806845) 59463923262) 59461826110 59461826065
 (.sst (.loc 35 59596044307) (.str 69 59598141466) (.tup (.cns (.str 174 59601025065) (.cns (.loc 61 59604170800) .nil)) 59600762929) 59596044337 59596044315
 (.ite (.pl (.loc 60 59731048983)) (.ats [(2,59865529364),(62,59867102234)] (.cal 148 567 (.cns (.loc 61 59871820845) (.cns (.loc 8 59873655862) .nil)) 59868937271 59868937255) 59865529399 59865529370
 (.ite (.cmp .NotEq (.cal 149 574 (.cns (.loc 33 60003941925) (.cns (.loc 35 60005776942) (.cns (.loc 8 60008136247) .nil))) 60000534072 60000534047) (.tup (.cns (.loc 2 60011544129) (.cns (.ite (.cmp .Eq (.loc 2 60015214159) (.int 0 60017311316) 60015214164) (.loc 62 60013116999) (.lis .nil 60019146332) 60013117020) .nil)) 60011282013) 60000534109) (.ret (.boo false 60136849440) 60135014432) .done 59999748128
 .done)) (.asg 2 (.ite (.cmp .LtE (.blt .len (.cns (.loc 8 60406596647) .nil) 60405548072 60405548063) (.blt .len (.cns (.loc 61 60410790965) .nil) 60409742390 60409742383) 60405548086) (.int 0 60404237336) (.neg 1 60413936702 60414198846) 60404237374) 60402402366 60402402324
 (.ite (.cmp .NotEq (.cal 150 581 (.cns (.loc 33 60540028450) (.cns (.loc 35 60541863467) (.cns (.blt .len (.cns (.loc 8 60545271352) .nil) 60544222777 60544222768) .nil))) 60537407034 60537407004) (.tup (.cns (.loc 2 60548941379) (.cns (.upt (.loc 61 60550514250) (.blt .len (.cns (.loc 8 60553397847) .nil) 60552349272 60552349263) 60550514265 60552087128) .nil)) 60548679258) 60537407066) (.ret (.boo false 60673722400) 60671887392) .done 60536621088
 .done)) 59730266144
 .done))) (.ite (.pl (.loc 60 60804270613)) (.ite (.cmp .NotEq (.cal 149 574 (.cns (.loc 33 60942421025) (.cns (.loc 35 60944256042) (.cns (.loc 8 60946615347) .nil))) 60939013172 60939013147) (.tup (.cns (.cal 146 555 (.cns (.loc 43 60952382534) (.cns (.loc 23 60953955404) (.cns (.loc 6 60955528274) (.cns (.loc 34 60957101143) (.cns (.loc 8 60958411872) .nil))))) 60950023265 60950023233) (.cns (.lis .nil 60961033317) .nil)) 60949761126) 60939013222) (.ret (.boo false 61075328540) 61073493532) .done 60938227228
 .done) (.ite (.cmp .NotEq (.cal 150 581 (.cns (.loc 33 61209546780) (.cns (.loc 35 61211381797) (.cns (.blt .len (.cns (.loc 8 61214789682) .nil) 61213741107 61213741098) .nil))) 61206925364 61206925334) (.cal 147 562 (.cns (.loc 43 61220556869) (.cns (.loc 23 61222129739) (.cns (.loc 6 61223702609) (.cns (.loc 34 61225275478) (.cns (.blt .len (.cns (.loc 8 61227634787) .nil) 61226586212 61226586203) .nil))))) 61218197605 61218197568) 61206925413) (.ret (.boo false 61342716440) 61340881432) .done 61205615128
 .done) 60802961944
 .done) 59326566936
 .done)
noncomputable def irL12:IS:=(.ite (.bo .Or (.cns (.not_ (.pl (.cal 152 593 (.cns (.loc 33 61478507550) (.cns (.loc 43 61480342564) .nil)) 61475886117 61475886104)) 61474837541) (.cns (.not_ (.pl (.cal 151 586 (.cns (.sub (.loc 59 61486634045) (.int 0 61488206911) 61486634048) .nil) 61483750465 61483750455)) 61482701889) .nil)) 61474837569) (.ret (.boo false 61611152920) 61609317912) .done 61474051608
 .done)
noncomputable def irL13:IS:=(.ite (.cmp .Gt (.sub (.loc 39 61743273999) (.int 0 61744584721) 61743274002) (.blt .len (.cns (.loc 38 61746944031) .nil) 61745895456 61745895448) 61743274016) (.brk 61877754385) .done 61742488081
 .done)
noncomputable def irLI:IS:=(.asg 39 (.lis (.cns (.int 0 57180115981) .nil) 57179853838) 57178018830 57178018824
 (.ats [(33,57312237065),(43,57314072079)] (.cal 143 536 (.cns (.loc 38 57318790691) (.cns (.loc 39 57320887849) .nil)) 57315907114 57315907100) 57312237098 57312237071
 .done))
noncomputable def irLS:IE:=(.not_ (.pl (.cal 152 593 (.cns (.loc 33 61478507550) (.cns (.loc 43 61480342564) .nil)) 61475886117 61475886104)) 61474837541)
noncomputable def irLP:IE:=(.not_ (.pl (.cal 151 586 (.cns (.sub (.loc 59 61486634045) (.int 0 61488206911) 61486634048) .nil) 61483750465 61483750455)) 61482701889)
noncomputable def irLaw:IS:=(.asg 38 (.upt (.loc 38 57046159891) (.int 60 57048257047) 57046159896 57047994903) 57043800600 57043800586
 (.asg 39 (.lis (.cns (.int 0 57180115981) .nil) 57179853838) 57178018830 57178018824
 (.ats [(33,57312237065),(43,57314072079)] (.cal 143 536 (.cns (.loc 38 57318790691) (.cns (.loc 39 57320887849) .nil)) 57315907114 57315907100) 57312237098 57312237071
 (.fo 56 (.rng (.int 10 57450387477) 57448814614 57448814610) (.asg 23 (.sub (.lis (.cns (.str 173 57583819283) (.cns (.int 6 57585130006) (.cns (.int 5 57585916441) (.cns (.int 7 57586702876) (.cns (.int 6 57587489311) (.cns (.int 5 57588275746) (.cns (.int 7 57589062181) (.cns (.str 61 57589848622) (.cns (.int 8 57592207921) .nil))))))))) 57583557170) (.cal 142 531 (.cns (.loc 38 57595615811) (.cns (.loc 39 57597712969) (.cns (.int 9 57599285836) .nil))) 57592994381 57592994364) 57583557198) 57581722190 57581722124
 (.asg 58 (.bo .Or (.cns (.cmp .Lt (.cal 142 531 (.cns (.loc 38 57721445411) (.cns (.loc 39 57723542569) (.cns (.int 3 57725115436) .nil))) 57718823981 57718823964) (.int 2 57726426161) 57718823985) (.cns (.cmp .Eq (.loc 23 57727736889) (.str 61 57729834052) 57727736900) .nil)) 57718824004) 57715940420 57715940368
 (.asg 34 (.sub (.lis (.cns (.non 57851993619) (.cns (.non 57853566489) (.cns (.int 1 57855139356) (.cns (.int 2 57855925791) (.cns (.int 0 57856712226) .nil))))) 57851731491) (.cal 142 531 (.cns (.loc 38 57860120116) (.cns (.loc 39 57862217274) (.cns (.int 5 57863790141) .nil))) 57857498686 57857498669) 57851731519) 57850158655 57850158603
 (.asl 36 (.lc (.sub (.lis (.cns (.str 193 57986998294) (.cns (.str 194 57988571163) (.cns (.str 175 57989881887) (.cns (.str 195 57990930471) .nil)))) 57986736168) (.bin .Mod (.bin .Add (.cel 56 57993289771) (.loc 57 57994338351) 57993289775) (.int 4 57995649076) 57993027636) 57986736181) [(57,57997484091)] 0 (.rng (.bin .Add (.int 1 58000367686) (.cal 142 531 (.cns (.loc 38 58004037721) (.cns (.loc 39 58006134879) (.cns (.int 2 58007707746) .nil))) 58001416291 58001416274) 58000367715) 57998794852 57998794820) .nil [(200,0),(57,0),(56,2)] 57986474085) 57984376933 57984376845
 (.asl 59 (.lc (.upt (.lis (.cns (.tup (.cns (.bin .Mod (.cel 56 58121478676) (.int 3 58122527256) 58121478680) (.cns (.bin .Add (.cel 56 58123313691) (.loc 57 58124362271) 58123313695) .nil)) 58121216544) (.cns (.tup (.cns (.int 4 58125672996) (.cns (.boo true 58126459434) .nil)) 58125410859) .nil)) 58120954412) (.bin .Add (.int 1 58128556591) (.bin .Mod (.cel 56 58129605171) (.int 2 58130653751) 58129605175) 58128556599) 58120954424 58128294455) [(57,58132488766)] 0 (.rng (.blt .len (.cns (.loc 36 58136420945) .nil) 58135372370 58135372363) 58133799507 58133799495) .nil [(200,0),(57,0),(56,2)] 58120692308) 58118595156 58118595085
 (.asg 8 (.ite (.pl (.loc 58 58257794083)) (.loc 36 58255434775) (.loc 59 58261464110) 58255434798) 58252813358 58252813327
 (.asg 6 (.ite (.pl (.loc 58 58392798758)) (.str 165 58388866586) (.str 166 58396468793) 58388866617) 58387031609 58387031564
 (.asg 35 (.dic (.dcn 69 58524133401 (.loc 23 58526230559) .nil) 58523871264) 58521249824 58521249807
 (.ite (.pl (.loc 58 58656254483)) (.sst (.loc 35 58790734867) (.str 70 58792832025) (.str 173 58795191328) 58790734880 58790734874
 .done) .done 58655468576
 (.ite (.cmp .IsNot (.loc 34 58924690958) (.non 58927574554) 58924690970) (.sst (.loc 35 59059171347) (.str 71 59061268505) (.loc 34 59063627808) 59059171360 59059171354
 .done) .done 58923905056
 (.asg 60 (.cmp .Eq (.cal 142 531 (.cns (.loc 38 59197846051) (.cns (.loc 39 59199943209) (.cns (.int 2 59201516076) .nil))) 59195224621 59195224604) (.int 0 59203088946) 59195224626) 59192341042 59192341008
 (.ite (.cmp .Eq (.loc 23 59327345679) (.str 61 59329442842) 59327345690) (.asg 61 (.bin .Mult (.lis (.cns (.str 196 59464185370) .nil) 59463923227) (.bin .Add (.int 1 59466806816) (.cal 142 531 (.cns (.loc 38 59470476851) (.cns (.loc 39 59472574009) (.cns (.int 2 59474146876) .nil))) 59467855421 59467855404) 59466806845) 59463923262) 59461826110 59461826065
 (.sst (.loc 35 59596044307) (.str 69 59598141466) (.tup (.cns (.str 174 59601025065) (.cns (.loc 61 59604170800) .nil)) 59600762929) 59596044337 59596044315
 (.ite (.pl (.loc 60 59731048983)) (.ats [(2,59865529364),(62,59867102234)] (.cal 148 567 (.cns (.loc 61 59871820845) (.cns (.loc 8 59873655862) .nil)) 59868937271 59868937255) 59865529399 59865529370
 (.ite (.cmp .NotEq (.cal 149 574 (.cns (.loc 33 60003941925) (.cns (.loc 35 60005776942) (.cns (.loc 8 60008136247) .nil))) 60000534072 60000534047) (.tup (.cns (.loc 2 60011544129) (.cns (.ite (.cmp .Eq (.loc 2 60015214159) (.int 0 60017311316) 60015214164) (.loc 62 60013116999) (.lis .nil 60019146332) 60013117020) .nil)) 60011282013) 60000534109) (.ret (.boo false 60136849440) 60135014432) .done 59999748128
 .done)) (.asg 2 (.ite (.cmp .LtE (.blt .len (.cns (.loc 8 60406596647) .nil) 60405548072 60405548063) (.blt .len (.cns (.loc 61 60410790965) .nil) 60409742390 60409742383) 60405548086) (.int 0 60404237336) (.neg 1 60413936702 60414198846) 60404237374) 60402402366 60402402324
 (.ite (.cmp .NotEq (.cal 150 581 (.cns (.loc 33 60540028450) (.cns (.loc 35 60541863467) (.cns (.blt .len (.cns (.loc 8 60545271352) .nil) 60544222777 60544222768) .nil))) 60537407034 60537407004) (.tup (.cns (.loc 2 60548941379) (.cns (.upt (.loc 61 60550514250) (.blt .len (.cns (.loc 8 60553397847) .nil) 60552349272 60552349263) 60550514265 60552087128) .nil)) 60548679258) 60537407066) (.ret (.boo false 60673722400) 60671887392) .done 60536621088
 .done)) 59730266144
 .done))) (.ite (.pl (.loc 60 60804270613)) (.ite (.cmp .NotEq (.cal 149 574 (.cns (.loc 33 60942421025) (.cns (.loc 35 60944256042) (.cns (.loc 8 60946615347) .nil))) 60939013172 60939013147) (.tup (.cns (.cal 146 555 (.cns (.loc 43 60952382534) (.cns (.loc 23 60953955404) (.cns (.loc 6 60955528274) (.cns (.loc 34 60957101143) (.cns (.loc 8 60958411872) .nil))))) 60950023265 60950023233) (.cns (.lis .nil 60961033317) .nil)) 60949761126) 60939013222) (.ret (.boo false 61075328540) 61073493532) .done 60938227228
 .done) (.ite (.cmp .NotEq (.cal 150 581 (.cns (.loc 33 61209546780) (.cns (.loc 35 61211381797) (.cns (.blt .len (.cns (.loc 8 61214789682) .nil) 61213741107 61213741098) .nil))) 61206925364 61206925334) (.cal 147 562 (.cns (.loc 43 61220556869) (.cns (.loc 23 61222129739) (.cns (.loc 6 61223702609) (.cns (.loc 34 61225275478) (.cns (.blt .len (.cns (.loc 8 61227634787) .nil) 61226586212 61226586203) .nil))))) 61218197605 61218197568) 61206925413) (.ret (.boo false 61342716440) 61340881432) .done 61205615128
 .done) 60802961944
 .done) 59326566936
 (.ite (.bo .Or (.cns (.not_ (.pl (.cal 152 593 (.cns (.loc 33 61478507550) (.cns (.loc 43 61480342564) .nil)) 61475886117 61475886104)) 61474837541) (.cns (.not_ (.pl (.cal 151 586 (.cns (.sub (.loc 59 61486634045) (.int 0 61488206911) 61486634048) .nil) 61483750465 61483750455)) 61482701889) .nil)) 61474837569) (.ret (.boo false 61611152920) 61609317912) .done 61474051608
 (.ite (.cmp .Gt (.sub (.loc 39 61743273999) (.int 0 61744584721) 61743274002) (.blt .len (.cns (.loc 38 61746944031) .nil) 61745895456 61745895448) 61743274016) (.brk 61877754385) .done 61742488081
 .done)))))))))))))) 57446472209 57447503881
 (.ret (.boo true 62011710479) 62009875471)))))
end Mine.Q
namespace Mine.Q
noncomputable def isNil{β:Type}(e:IE)(t f:β):β:=IE.rec (motive:=λ_=>β) (λ_ _=>f) (λ_ _ _ _=>f) (λ_ _ _=>f) (λ_ _=>f) (λ_ _ _=>f) (λ_ _=>f) (λ_=>f) (λ_ _=>f) (λ_ _ _ _=>f) (λ_ _ _ _ _=>f) (λ_ _ _ _ _ _=>f) (λ_ _ _ _ _ _=>f) (λ_ _ _ _ _ _=>f) (λ_ _ _ _=>f) (λ_ _ _=>f) (λ_ _ _ _ _ _ _=>f) (λ_ _ _ _ _ _=>f) (λ_ _ _=>f) (λ_ _ _=>f) (λ_ _ _=>f) (λ_ _=>f) t (λ_ _ _ _=>f) (λ_ _=>f) (λ_ _ _ _ _ _=>f) (λ_ _ _ _ _ _=>f) (λ_ _ _ _ _ _=>f) (λ_ _ _ _ _ _ _=>f) (λ_ _ _ _ _=>f) (λ_ _ _ _ _ _=>f) (λ_ _=>f) (λ_ _ _ _=>f) (λ_ _ _ _ _ _ _ _ _ _=>f) e
noncomputable def bi{β:Type}(b:Bool)(t f:β):β:=Bool.rec f t b
noncomputable def oe{α:Type}(o:Option α)(k:α->Bool):Bool:=Option.rec false k o
noncomputable def cd(b p:Bool):Bool:=Bool.rec false p b
noncomputable def nodB(l:List Nat):Bool:=List.rec true (λa r ih=>bi (List.rec false (λb _ ih=>bi (Nat.beq a b) true ih) r) false ih) l
noncomputable def lk{α:Type}(l:List (Nat×α))(i:Nat):Option α:=List.rec none (λp _ ih=>bi (Nat.beq i p.1) (some p.2) ih) l
noncomputable def mem(i:Nat)(l:List Nat):Bool:=List.rec false (λa _ ih=>bi (Nat.beq i a) true ih) l
noncomputable def nth{α:Type}(l:List α)(n:Nat):Option α:=List.rec (motive:=λ_=>Nat->Option α) (λ_=>none) (λa _ ih n=>Nat.rec (motive:=λ_=>Option α) (some a) (λm _=>ih m) n) l n
noncomputable def len{α:Type}(l:List α):Nat:=List.rec (nat_lit 0) (λ_ _ ih=>Nat.succ ih) l
noncomputable def app{α:Type}(l r:List α):List α:=List.rec r (λa _ ih=>a::ih) l
noncomputable def eqZ(a b:Int):Bool:=Int.rec (λm=>Int.rec (λn=>Nat.beq m n) (λ_=>false) b) (λm=>Int.rec (λ_=>false) (λn=>Nat.beq m n) b) a
noncomputable def leZ(a b:Int):Bool:=Int.rec (λm=>Int.rec (λn=>Nat.ble m n) (λ_=>false) b) (λm=>Int.rec (λ_=>true) (λn=>Nat.ble n m) b) a
noncomputable def onN(a:Int)(k:Nat->Bool):Bool:=Int.rec k (λ_=>false) a
noncomputable def eqN(a b:List Nat):Bool:=List.rec (motive:=λ_=>List Nat->Bool) (λb=>List.rec true (λ_ _ _=>false) b) (λx _ ih b=>List.rec false (λy s _=>bi (Nat.beq x y) (ih s) false) b) a b
noncomputable def pre(a b:List Nat):Bool:=List.rec (motive:=λ_=>List Nat->Bool) (λ_=>true) (λx _ ih b=>List.rec false (λy s _=>bi (Nat.beq x y) (ih s) false) b) a b
noncomputable def ltK(as:List Nat)(c:Int)(bs:List Nat)(d:Int)(k:Bool->Bool):Bool:=bi (bi (pre as bs) (leZ (Int.add c (nat_lit 1)) d) false) (k true) (bi (bi (pre bs as) (leZ d c) false) (k false) false)
noncomputable def lenS(ss:List Sg)(k:List Nat->Nat->Bool):Bool:=List.rec (motive:=λ_=>(List Nat->Nat->Bool)->Bool) (λk=>k [] (nat_lit 0)) (λs _ ih k=>(Sg.rec (motive:=λ_=>Bool) (λv=>ih λas c=>k as (Nat.succ c)) (λi=>ih λas c=>k (i::as) c) s)) ss k
noncomputable def nthS(ss:List Sg)(as:List Nat)(c:Nat):Option V:=List.rec (motive:=λ_=>List Nat->Nat->Option V) (λ_ _=>none) (λs _ ih as c=>(Sg.rec (motive:=λ_=>Option V) (λv=>Nat.rec (motive:=λ_=>Option V) (List.rec (motive:=λ_=>Option V) (some v) (λ_ _ _=>none) as) (λm _=>ih as m) c) (λi=>List.rec (motive:=λ_=>Option V) none (λa r _=>bi (Nat.beq i a) (ih r c) none) as) s)) ss as c
noncomputable def takS(ss:List Sg)(as:List Nat)(c:Nat)(k:List Sg->Bool):Bool:=List.rec (motive:=λ_=>List Nat->Nat->(List Sg->Bool)->Bool) (λas c k=>List.rec (Nat.rec (k []) (λ_ _=>k []) c) (λ_ _ _=>false) as) (λs _ ih as c k=>(Sg.rec (motive:=λ_=>Bool) (λv=>Nat.rec (List.rec (k []) (λ_ _ _=>false) as) (λm _=>ih as m λr=>k (.it v::r)) c) (λi=>List.rec (Nat.rec (k []) (λ_ _=>false) c) (λa r _=>bi (Nat.beq i a) (ih r c λr=>k (.sg i::r)) false) as) s)) ss as c k
noncomputable def drpS(ss:List Sg)(as:List Nat)(c:Nat)(k:List Sg->Bool):Bool:=List.rec (motive:=λ_=>List Nat->Nat->Bool) (λas c=>List.rec (k []) (λ_ _ _=>false) as) (λs t ih as c=>(Sg.rec (motive:=λ_=>Bool) (λv=>Nat.rec (List.rec (k (s::t)) (λ_ _ _=>false) as) (λm _=>ih as m) c) (λi=>List.rec (Nat.rec (k (s::t)) (λ_ _=>false) c) (λa r _=>bi (Nat.beq i a) (ih r c) false) as) s)) ss as c
noncomputable def szS(ss:List Sg):Nat:=List.rec (nat_lit 0) (λs _ ih=>(Sg.rec (motive:=λ_=>Nat) (λv=>Nat.succ ih) (λi=>Nat.add (nat_lit 90) ih) s)) ss
noncomputable def szK(ss:List Sg)(n:Nat)(p:Bool):Bool:=cd (Nat.ble (szS ss) n) p
noncomputable def itsS(ss:List Sg)(k:List V->Bool):Bool:=List.rec (motive:=λ_=>(List V->Bool)->Bool) (λk=>k []) (λs _ ih k=>(Sg.rec (motive:=λ_=>Bool) (λv=>ih λvs=>k (v::vs)) (λi=>false) s)) ss k
noncomputable def ofV(vs:List V):List Sg:=List.rec [] (λv _ ih=>.it v::ih) vs
noncomputable def sameV(a b:V):Bool:=(V.rec (motive:=λ_=>Bool) ((V.rec (motive:=λ_=>Bool) (true) (λ_=>false) (λ_ _ _=>false) (λ_ _=>false) (λ_=>false) (λ_=>false) (λ_ _=>false) (λ_=>false) b)) (λx=>(V.rec (motive:=λ_=>Bool) (false) (λy=>bi x y (bi y false true)) (λ_ _ _=>false) (λ_ _=>false) (λ_=>false) (λ_=>false) (λ_ _=>false) (λ_=>false) b)) (λas c t=>(V.rec (motive:=λ_=>Bool) (false) (λ_=>false) (λbs d u=>bi (eqN as bs) (bi (eqZ c d) (Nat.beq t u) false) false) (λ_ _=>false) (λ_=>false) (λ_=>false) (λ_ _=>false) (λ_=>false) b)) (λi t=>(V.rec (motive:=λ_=>Bool) (false) (λ_=>false) (λ_ _ _=>false) (λj u=>bi (Nat.beq i j) (Nat.beq t u) false) (λ_=>false) (λ_=>false) (λ_ _=>false) (λ_=>false) b)) (λm=>(V.rec (motive:=λ_=>Bool) (false) (λ_=>false) (λ_ _ _=>false) (λ_ _=>false) (λn=>Nat.beq m n) (λ_=>false) (λ_ _=>false) (λ_=>false) b)) (λm=>(V.rec (motive:=λ_=>Bool) (false) (λ_=>false) (λ_ _ _=>false) (λ_ _=>false) (λ_=>false) (λn=>Nat.beq m n) (λ_ _=>false) (λ_=>false) b)) (λi t=>(V.rec (motive:=λ_=>Bool) (false) (λ_=>false) (λ_ _ _=>false) (λ_ _=>false) (λ_=>false) (λ_=>false) (λj u=>bi (Nat.beq i j) (Nat.beq t u) false) (λ_=>false) b)) (λm=>(V.rec (motive:=λ_=>Bool) (false) (λ_=>false) (λ_ _ _=>false) (λ_ _=>false) (λ_=>false) (λ_=>false) (λ_ _=>false) (λn=>Nat.beq m n) b)) a)
noncomputable def sameS(a b:List Sg):Bool:=List.rec (motive:=λ_=>List Sg->Bool) (λb=>List.rec true (λ_ _ _=>false) b) (λx _ ih b=>List.rec false (λy s _=>bi (Sg.rec (motive:=λ_=>Bool) (λv=>(Sg.rec (motive:=λ_=>Bool) (λw=>sameV v w) (λ_=>false) y)) (λi=>(Sg.rec (motive:=λ_=>Bool) (λ_=>false) (λj=>Nat.beq i j) y)) x) (ih s) false) b) a b
noncomputable def sameVs(a b:List V):Bool:=List.rec (motive:=λ_=>List V->Bool) (λb=>List.rec true (λ_ _ _=>false) b) (λx _ ih b=>List.rec false (λy s _=>bi (sameV x y) (ih s) false) b) a b
noncomputable def eqSs(f:V->V->Bool)(a b:List Sg):Bool:=List.rec (motive:=λ_=>List Sg->Bool) (λb=>List.rec true (λ_ _ _=>false) b) (λx _ ih b=>List.rec false (λy s _=>bi (Sg.rec (motive:=λ_=>Bool) (λv=>(Sg.rec (motive:=λ_=>Bool) (λw=>f v w) (λ_=>false) y)) (λi=>(Sg.rec (motive:=λ_=>Bool) (λ_=>false) (λj=>Nat.beq i j) y)) x) (ih s) false) b) a b
noncomputable def eqVs(f:V->V->Bool)(a b:List V):Bool:=List.rec (motive:=λ_=>List V->Bool) (λb=>List.rec true (λ_ _ _=>false) b) (λx _ ih b=>List.rec false (λy s _=>bi (f x y) (ih s) false) b) a b
noncomputable def eqKs(f:V->V->Bool)(a b:List (Nat×V)):Bool:=List.rec (motive:=λ_=>List (Nat×V)->Bool) (λb=>List.rec true (λ_ _ _=>false) b) (λx _ ih b=>List.rec false (λy s _=>bi (bi (Nat.beq x.1 y.1) (f x.2 y.2) false) (ih s) false) b) a b
noncomputable def eqO(f:V->V->Bool)(o1 o2:O):Bool:=(O.rec (motive:=λ_=>Bool) (λss _=>(O.rec (motive:=λ_=>Bool) (λss2 _=>eqSs f ss ss2) (λ_ _=>false) (λ_ _=>false) (λ_ _=>false) (λ_ _=>false) (λ_ _=>false) (λ_ _=>false) (λ_ _ _ _ _=>false) (λ_=>false) (λ_ _=>false) (λ_ _=>false) (λ_ _=>false) (λ_ _ _=>false) o2)) (λvs _=>(O.rec (motive:=λ_=>Bool) (λ_ _=>false) (λws _=>eqVs f vs ws) (λ_ _=>false) (λ_ _=>false) (λ_ _=>false) (λ_ _=>false) (λ_ _=>false) (λ_ _ _ _ _=>false) (λ_=>false) (λ_ _=>false) (λ_ _=>false) (λ_ _=>false) (λ_ _ _=>false) o2)) (λ_ _=>false) (λ_ _=>false) (λ_ _=>false) (λ_ _=>false) (λ_ _=>false) (λ_ _ _ _ _=>false) (λ_=>false) (λ_ _=>false) (λ_ _=>false) (λ_ _=>false) (λ_ _ _=>false) o1)
noncomputable def eqV(hp:Hp)(fuel:Nat):V->V->Bool:=Nat.rec (motive:=λ_=>V->V->Bool) (λ_ _=>false) (λ_ ih a b=>(V.rec (motive:=λ_=>Bool) ((V.rec (motive:=λ_=>Bool) (true) (λ_=>false) (λ_ _ _=>false) (λ_ _=>false) (λ_=>false) (λ_=>false) (λ_ _=>false) (λ_=>false) b)) (λx=>(V.rec (motive:=λ_=>Bool) (false) (λy=>bi x y (bi y false true)) (λ_ _ _=>false) (λ_ _=>false) (λ_=>false) (λ_=>false) (λ_ _=>false) (λ_=>false) b)) (λas c t=>(V.rec (motive:=λ_=>Bool) (false) (λ_=>false) (λbs d u=>bi (eqN as bs) (eqZ c d) false) (λ_ _=>false) (λ_=>false) (λ_=>false) (λ_ _=>false) (λ_=>false) b)) (λi t=>(V.rec (motive:=λ_=>Bool) (false) (λ_=>false) (λ_ _ _=>false) (λj u=>Nat.beq i j) (λ_=>false) (λ_=>false) (λ_ _=>false) (λ_=>false) b)) (λm=>(V.rec (motive:=λ_=>Bool) (false) (λ_=>false) (λ_ _ _=>false) (λ_ _=>false) (λn=>bi (Nat.beq m n) true (oe (lk hp m) λo1=>oe (lk hp n) λo2=>eqO ih o1 o2)) (λ_=>false) (λ_ _=>false) (λ_=>false) b)) (λm=>(V.rec (motive:=λ_=>Bool) (false) (λ_=>false) (λ_ _ _=>false) (λ_ _=>false) (λ_=>false) (λn=>Nat.beq m n) (λ_ _=>false) (λ_=>false) b)) (λi t=>(V.rec (motive:=λ_=>Bool) (false) (λ_=>false) (λ_ _ _=>false) (λ_ _=>false) (λ_=>false) (λ_=>false) (λj u=>Nat.beq i j) (λ_=>false) b)) (λm=>false) a)) fuel
structure Pm where
 F:Bool->Nat->List V->Hp->Nat->(V->Hp->Nat->Bool)->(Nat->Int->Hp->Nat->Bool)->Bool
 D:Nat
 cs:List (Nat×Nat)
 x:Nat->Int->S->Bool
abbrev KV:=V->S->Bool
abbrev KB:=Bool->S->Bool
noncomputable def hset(hp:Hp)(n:Nat)(o:O)(k:Hp->Bool):Bool:=List.rec (motive:=λ_=>(Hp->Bool)->Bool) (λ_=>false) (λp r ih k=>bi (Nat.beq n p.1) (k ((n,o)::r)) (ih λr'=>k (p::r'))) hp k
noncomputable def hdel(hp:Hp)(n:Nat)(k:Hp->Bool):Bool:=List.rec (motive:=λ_=>(Hp->Bool)->Bool) (λ_=>false) (λp r ih k=>bi (Nat.beq n p.1) (k r) (ih λr'=>k (p::r'))) hp k
noncomputable def tokK(σ:S)(k:Nat->S->Bool):Bool:=S.rec (λhp vs nx=>k nx ⟨hp,vs,Nat.succ nx⟩) σ
noncomputable def newK(σ:S)(o:Nat->O)(k:V->S->Bool):Bool:=S.rec (λhp vs nx=>k (.ref nx) ⟨(nx,o (Nat.succ nx))::hp,vs,Nat.succ (Nat.succ nx)⟩) σ
noncomputable def putK(σ:S)(n:Nat)(o:Nat->O)(k:S->Bool):Bool:=S.rec (λhp vs nx=>hset hp n (o nx) λhp'=>k ⟨hp',vs,Nat.succ nx⟩) σ
noncomputable def letK(σ:S)(i:Nat)(v:V)(k:S->Bool):Bool:=S.rec (λhp vs nx=>k ⟨hp,(i,v)::vs,nx⟩) σ
noncomputable def atK(σ:S)(n:Nat)(k:O->Bool):Bool:=S.rec (λhp _ _=>oe (lk hp n) k) σ
noncomputable def refK(v:V)(k:Nat->Bool):Bool:=(V.rec (motive:=λ_=>Bool) (false) (λ_=>false) (λ_ _ _=>false) (λ_ _=>false) (λn=>k n) (λ_=>false) (λ_ _=>false) (λ_=>false) v)
noncomputable def drf(v:V)(σ:S)(k:Nat->O->Bool):Bool:=refK v λn=>atK σ n λo=>k n o
noncomputable def intK(v:V)(k:List Nat->Int->Bool):Bool:=(V.rec (motive:=λ_=>Bool) (false) (λ_=>false) (λas c _=>k as c) (λ_ _=>false) (λ_=>false) (λ_=>false) (λ_ _=>false) (λ_=>false) v)
noncomputable def litK(v:V)(k:Nat->Bool):Bool:=intK v λas c=>List.rec (onN c k) (λ_ _ _=>false) as
noncomputable def strK(v:V)(k:Nat->Bool):Bool:=(V.rec (motive:=λ_=>Bool) (false) (λ_=>false) (λ_ _ _=>false) (λi _=>k i) (λ_=>false) (λ_=>false) (λ_ _=>false) (λ_=>false) v)
noncomputable def gAttr(i:Nat)(v:V)(σ:S)(k:KV):Bool:=drf v σ λn o=>(O.rec (motive:=λ_=>Bool) (λ_ _=>false) (λ_ _=>false) (λC d=>oe (lk clT C) λr=>cd (mem i r.attrs) (atK σ d λo'=>(O.rec (motive:=λ_=>Bool) (λ_ _=>false) (λ_ _=>false) (λ_ _=>false) (λes m=>oe (lk es i) λe=>k e.2 σ) (λ_ _=>false) (λ_ _=>false) (λ_ _=>false) (λ_ _ _ _ _=>false) (λ_=>false) (λ_ _=>false) (λ_ _=>false) (λ_ _=>false) (λ_ _ _=>false) o'))) (λ_ _=>false) (λ_ _=>false) (λ_ _=>false) (λ_ _=>false) (λ_ _ _ _ _=>false) (λ_=>false) (λ_ _=>false) (λ_ _=>false) (λo d=>cd (Nat.beq i (nat_lit 2)) (atK σ d λo'=>(O.rec (motive:=λ_=>Bool) (λ_ _=>false) (λ_ _=>false) (λ_ _=>false) (λ_ _=>false) (λ_ _=>false) (λ_ _=>false) (λ_ _=>false) (λ_ _ _ _ _=>false) (λ_=>false) (λ_ _=>false) (λ_ _=>false) (λ_ _=>false) (λ_ c t=>k (.int [] c t) σ) o'))) (λ_ _ _=>false) o)
noncomputable def repl{β:Type}(i:Nat)(x:V)(es:List (Nat×β×V)):List (Nat×β×V):=List.rec [] (λe r ih=>bi (Nat.beq i e.1) ((e.1,e.2.1,x)::r) (e::ih)) es
noncomputable def gSet(ov:V)(i:Nat)(x:V)(σ:S)(k:S->Bool):Bool:=drf ov σ λn o=>(O.rec (motive:=λ_=>Bool) (λ_ _=>false) (λ_ _=>false) (λC d=>oe (lk clT C) λr=>cd (mem i r.attrs) (atK σ d λo'=>(O.rec (motive:=λ_=>Bool) (λ_ _=>false) (λ_ _=>false) (λ_ _=>false) (λes m=>cd (Nat.ble (len es) (nat_lit 900)) (Option.rec (tokK σ λt σ=>putK σ d (λc=>.attrs (app es [(i,t,x)]) c) k) (λ_=>putK σ d (λ_=>.attrs (repl i x es) m) k) (lk es i))) (λ_ _=>false) (λ_ _=>false) (λ_ _=>false) (λ_ _ _ _ _=>false) (λ_=>false) (λ_ _=>false) (λ_ _=>false) (λ_ _=>false) (λ_ _ _=>false) o'))) (λ_ _=>false) (λ_ _=>false) (λ_ _=>false) (λ_ _=>false) (λ_ _ _ _ _=>false) (λ_=>false) (λ_ _=>false) (λ_ _=>false) (λ_ _=>false) (λ_ _ _=>false) o)
noncomputable def gItem(o i:V)(σ:S)(k:KV):Bool:=drf o σ λn ob=>(O.rec (motive:=λ_=>Bool) (λss _=>szK ss (nat_lit 900) (intK i λas c=>onN c λc=>oe (nthS ss as c) λv=>k v σ)) (λvs _=>cd (Nat.ble (len vs) (nat_lit 900)) (litK i λc=>oe (nth vs c) λv=>k v σ)) (λ_ _=>false) (λ_ _=>false) (λ_ kvs=>strK i λj=>oe (lk kvs j) λv=>k v σ) (λ_ kvs=>litK i λc=>oe (lk kvs c) λv=>k v σ) (λ_ kn=>litK i λc=>oe (lk kn c) λx=>oe x λv=>k v σ) (λ_ _ _ ops kn=>litK i λc=>Option.rec (oe (lk kn c) λx=>oe x λv=>k v σ) (λv=>k v σ) (lk ops c)) (λ_=>false) (λ_ _=>false) (λ_ _=>false) (λ_ _=>false) (λ_ _ _=>false) ob)
noncomputable def gSl(up:Bool)(o z:V)(σ:S)(k:KV):Bool:=drf o σ λn ob=>(O.rec (motive:=λ_=>Bool) (λss _=>szK ss (nat_lit 900) (intK z λas c=>onN c λc=>bi up (takS ss as c λr=>newK σ (.list r) k) (drpS ss as c λr=>newK σ (.list r) k))) (λ_ _=>false) (λ_ _=>false) (λ_ _=>false) (λ_ _=>false) (λ_ _=>false) (λ_ _=>false) (λ_ _ _ _ _=>false) (λ_=>false) (λ_ _=>false) (λ_ _=>false) (λ_ _=>false) (λ_ _ _=>false) ob)
noncomputable def stor(kvs:List (Nat×V))(j:Nat)(v:V):List (Nat×V):=List.rec [(j,v)] (λp r ih=>bi (Nat.beq j p.1) ((j,v)::r) (p::ih)) kvs
noncomputable def setN{α:Type}(l:List α)(n:Nat)(x:α):List α:=List.rec (motive:=λ_=>Nat->List α) (λ_=>[]) (λa r ih n=>Nat.rec (motive:=λ_=>List α) (x::r) (λm _=>a::ih m) n) l n
noncomputable def gSetI(ov key v:V)(σ:S)(k:S->Bool):Bool:=drf ov σ λn ob=>(O.rec (motive:=λ_=>Bool) (λss m=>szK ss (nat_lit 900) (litK key λc=>itsS ss λvs=>oe (nth vs c) λ_=>putK σ n (λ_=>.list (ofV (setN vs c v)) m) k)) (λ_ _=>false) (λ_ _=>false) (λ_ _=>false) (λ_ kvs=>strK key λj=>cd (Nat.ble (len kvs) (nat_lit 900)) (putK σ n (λo=>.dS o (stor kvs j v)) k)) (λ_ kvs=>litK key λc=>cd (Nat.ble (len kvs) (nat_lit 900)) (putK σ n (λo=>.dI o (stor kvs c v)) k)) (λ_ _=>false) (λ_ b sd ops kn=>litK key λc=>cd (Nat.ble (len ops) (nat_lit 5)) (putK σ n (λo=>.dT o b sd ((c,v)::ops) kn) k)) (λ_=>false) (λ_ _=>false) (λ_ _=>false) (λ_ _=>false) (λ_ _ _=>false) ob)
noncomputable def isN(v:V)(k:Bool->Bool):Bool:=(V.rec (motive:=λ_=>Bool) (k true) (λ_=>false) (λas c t=>k false) (λi t=>k false) (λn=>k false) (λ_=>false) (λ_ _=>false) (λ_=>false) v)
noncomputable def emptyS(ss:List Sg)(k:Bool->Bool):Bool:=List.rec (k true) (λs _ _=>(Sg.rec (motive:=λ_=>Bool) (λv=>k false) (λi=>false) s)) ss
noncomputable def nilB{α:Type}(l:List α)(p:Bool):Bool:=List.rec p (λ_ _ _=>false) l
noncomputable def eqRef(m n:Nat)(σ:S)(k:Bool->Bool):Bool:=S.rec (λhp _ _=>oe (lk hp m) λo1=>oe (lk hp n) λo2=>bi (eqO (eqV hp (nat_lit 6)) o1 o2) (k true) (O.rec (motive:=λ_=>Bool) (λss _=>(O.rec (motive:=λ_=>Bool) (λss2 _=>emptyS ss λb=>emptyS ss2 λc=>bi b (bi c false (k false)) (bi c (k false) false)) (λ_ _=>false) (λ_ _=>false) (λ_ _=>false) (λ_ _=>false) (λ_ _=>false) (λ_ _=>false) (λ_ _ _ _ _=>false) (λ_=>false) (λ_ _=>false) (λ_ _=>false) (λ_ _=>false) (λ_ _ _=>false) o2)) (λ_ _=>false) (λ_ _=>false) (λ_ _=>false) (λ_ _=>false) (λ_ ks=>(O.rec (motive:=λ_=>Bool) (λ_ _=>false) (λ_ _=>false) (λ_ _=>false) (λ_ _=>false) (λ_ _=>false) (λ_ ls=>bi (eqKs (eqV hp (nat_lit 6)) ks ls) (k true) false) (λ_ _=>false) (λ_ _ _ _ _=>false) (λ_=>false) (λ_ _=>false) (λ_ _=>false) (λ_ _=>false) (λ_ _ _=>false) o2)) (λ_ _=>false) (λ_ b sd ops _=>(O.rec (motive:=λ_=>Bool) (λ_ _=>false) (λ_ _=>false) (λ_ _=>false) (λ_ _=>false) (λ_ _=>false) (λ_ _=>false) (λ_ _=>false) (λ_ b2 sd2 ops2 _=>cd (Nat.beq b b2) (cd sd (bi sd2 false (nilB ops (nilB ops2 (k true)))))) (λ_=>false) (λ_ _=>false) (λ_ _=>false) (λ_ _=>false) (λ_ _ _=>false) o2)) (λ_=>false) (λ_ _=>false) (λ_ _=>false) (λ_ _=>false) (λ_ _ _=>false) o1)) σ
noncomputable def eqK(a b:V)(σ:S)(k:Bool->Bool):Bool:=(V.rec (motive:=λ_=>Bool) (false) (λx=>(V.rec (motive:=λ_=>Bool) (false) (λy=>k (bi x y (bi y false true))) (λ_ _ _=>false) (λ_ _=>false) (λ_=>false) (λ_=>false) (λ_ _=>false) (λ_=>false) b)) (λas c _=>(V.rec (motive:=λ_=>Bool) (false) (λ_=>false) (λbs d _=>bi (eqN as bs) (k (eqZ c d)) false) (λ_ _=>k false) (λ_=>false) (λ_=>false) (λ_ _=>false) (λ_=>false) b)) (λi _=>(V.rec (motive:=λ_=>Bool) (false) (λ_=>false) (λ_ _ _=>k false) (λj _=>k (Nat.beq i j)) (λ_=>false) (λ_=>false) (λ_ _=>false) (λ_=>false) b)) (λm=>(V.rec (motive:=λ_=>Bool) (false) (λ_=>false) (λ_ _ _=>false) (λ_ _=>false) (λn=>eqRef m n σ k) (λ_=>false) (λ_ _=>false) (λ_=>false) b)) (λ_=>false) (λ_ _=>false) (λ_=>false) a)
noncomputable def inK(a b:V)(σ:S)(k:Bool->Bool):Bool:=(V.rec (motive:=λ_=>Bool) (false) (λ_=>false) (λ_ _ _=>false) (λ_ _=>false) (λn=>atK σ n λob=>(O.rec (motive:=λ_=>Bool) (λ_ _=>false) (λ_ _=>false) (λ_ _=>false) (λ_ _=>false) (λ_ kvs=>strK a λj=>k (Option.rec false (λ_=>true) (lk kvs j))) (λ_ kvs=>litK a λc=>k (Option.rec false (λ_=>true) (lk kvs c))) (λ_ kn=>litK a λc=>oe (lk kn c) λx=>k (Option.rec false (λ_=>true) x)) (λ_ _ _ ops kn=>litK a λc=>Option.rec (oe (lk kn c) λx=>k (Option.rec false (λ_=>true) x)) (λ_=>k true) (lk ops c)) (λ_=>false) (λ_ _=>false) (λ_ _=>false) (λ_ _=>false) (λ_ _ _=>false) ob)) (λ_=>false) (λ_ _=>false) (λd=>strK a λj=>oe (lk tupW d) λws=>k (mem j ws)) b)
noncomputable def neg(b:Bool):Bool:=bi b false true
noncomputable def gCmp(op:CmpOp)(a b:V)(σ:S)(k:KB):Bool:=(CmpOp.rec (motive:=λ_=>Bool) (eqK a b σ λc=>k c σ) (eqK a b σ λc=>k (neg c) σ) (intK a λas c=>intK b λbs d=>ltK as c bs d λc=>k c σ) (intK a λas c=>intK b λbs d=>ltK bs d as c λc=>k (neg c) σ) (intK a λas c=>intK b λbs d=>ltK bs d as c λc=>k c σ) (intK a λas c=>intK b λbs d=>ltK as c bs d λc=>k (neg c) σ) ((V.rec (motive:=λ_=>Bool) (isN a λc=>k c σ) (λ_=>false) (λ_ _ _=>false) (λ_ _=>false) (λ_=>false) (λ_=>false) (λ_ _=>false) (λ_=>false) b)) ((V.rec (motive:=λ_=>Bool) (isN a λc=>k (neg c) σ) (λ_=>false) (λ_ _ _=>false) (λ_ _=>false) (λ_=>false) (λ_=>false) (λ_ _=>false) (λ_=>false) b)) (inK a b σ λc=>k c σ) (inK a b σ λc=>k (neg c) σ) op)
noncomputable def gTruth(v:V)(σ:S)(k:KB):Bool:=(V.rec (motive:=λ_=>Bool) (false) (λb=>k b σ) (λ_ _ _=>false) (λ_ _=>false) (λn=>atK σ n λob=>(O.rec (motive:=λ_=>Bool) (λss _=>szK ss (nat_lit 900) (emptyS ss λc=>k (neg c) σ)) (λ_ _=>false) (λ_ _=>false) (λ_ _=>false) (λ_ _=>false) (λ_ _=>false) (λ_ _=>false) (λ_ _ _ _ _=>false) (λ_=>false) (λ_ _=>false) (λ_ _=>false) (λ_ _=>false) (λ_ _ _=>false) ob)) (λ_=>false) (λ_ _=>false) (λ_=>false) v)
noncomputable def cps(i:Nat)(k:List Nat->Bool):Bool:=oe (lk txT i) k
noncomputable def fndL(l:List Nat)(t:List (Nat×List Nat)):Option Nat:=List.rec none (λp _ ih=>bi (eqN l p.2) (some p.1) ih) t
noncomputable def fnd(l:List Nat):Option Nat:=fndL l txT
noncomputable def mkS(l:List Nat)(σ:S)(k:KV):Bool:=oe (fnd l) λi=>tokK σ λt σ=>k (.str i t) σ
noncomputable def rep{α:Type}(n:Nat)(l:List α):List α:=Nat.rec [] (λ_ ih=>app l ih) n
noncomputable def intN(as:List Nat)(c:Int)(σ:S)(k:KV):Bool:=tokK σ λt σ=>k (.int as c t) σ
noncomputable def addI(as:List Nat)(c:Int)(bs:List Nat)(d:Int)(σ:S)(k:KV):Bool:=List.rec (List.rec (intN [] (Int.add c d) σ k) (λa r _=>intN (a::r) (Int.add c d) σ k) bs) (λa r _=>List.rec (intN (a::r) (Int.add c d) σ k) (λ_ _ _=>false) bs) as
noncomputable def gAdd(a b:V)(σ:S)(k:KV):Bool:=(V.rec (motive:=λ_=>Bool) (false) (λ_=>false) (λas c _=>intK b λbs d=>addI as c bs d σ k) (λi _=>strK b λj=>cps i λx=>cps j λy=>mkS (app x y) σ k) (λm=>refK b λn=>atK σ m λo1=>atK σ n λo2=>(O.rec (motive:=λ_=>Bool) (λss _=>(O.rec (motive:=λ_=>Bool) (λss2 _=>szK ss (nat_lit 900) (szK ss2 (nat_lit 90) (newK σ (.list (app ss ss2)) k))) (λ_ _=>false) (λ_ _=>false) (λ_ _=>false) (λ_ _=>false) (λ_ _=>false) (λ_ _=>false) (λ_ _ _ _ _=>false) (λ_=>false) (λ_ _=>false) (λ_ _=>false) (λ_ _=>false) (λ_ _ _=>false) o2)) (λ_ _=>false) (λ_ _=>false) (λ_ _=>false) (λ_ _=>false) (λ_ _=>false) (λ_ _=>false) (λ_ _ _ _ _=>false) (λ_=>false) (λ_ _=>false) (λ_ _=>false) (λ_ _=>false) (λ_ _ _=>false) o1)) (λ_=>false) (λ_ _=>false) (λ_=>false) a)
noncomputable def one(vs:List V)(k:V->Bool):Bool:=List.rec false (λv r _=>List.rec (k v) (λ_ _ _=>false) r) vs
noncomputable def gBin(op:Operator)(a b:V)(σ:S)(k:KV):Bool:=(Operator.rec (motive:=λ_=>Bool) (gAdd a b σ k) (intK a λas c=>litK b λd=>intN as (Int.sub c (Int.ofNat d)) σ k) (litK b λc=>(V.rec (motive:=λ_=>Bool) (false) (λ_=>false) (λ_ _ _=>false) (λi _=>cd (Nat.beq i (nat_lit 190)) (cd (Nat.ble c (nat_lit 900)) (mkS (rep c [(nat_lit 32)]) σ k))) (λm=>atK σ m λo=>(O.rec (motive:=λ_=>Bool) (λss _=>itsS ss λvs=>one vs λv=>cd (Nat.ble c (nat_lit 200)) (newK σ (.list (rep c [.it v])) k)) (λ_ _=>false) (λ_ _=>false) (λ_ _=>false) (λ_ _=>false) (λ_ _=>false) (λ_ _=>false) (λ_ _ _ _ _=>false) (λ_=>false) (λ_ _=>false) (λ_ _=>false) (λ_ _=>false) (λ_ _ _=>false) o)) (λ_=>false) (λ_ _=>false) (λ_=>false) a)) (false) (false) (litK a λc=>litK b λd=>cd (Nat.ble (nat_lit 1) d) (intN [] (Int.ofNat (Nat.mod c d)) σ k)) (false) (false) (false) (false) (false) (false) (false) op)
noncomputable def gInp(op:Operator)(a b:V)(σ:S)(k:KV):Bool:=(Operator.rec (motive:=λ_=>Bool) ((V.rec (motive:=λ_=>Bool) (false) (λ_=>false) (λ_ _ _=>gAdd a b σ k) (λ_ _=>false) (λm=>refK b λn=>atK σ m λo1=>atK σ n λo2=>(O.rec (motive:=λ_=>Bool) (λss _=>(O.rec (motive:=λ_=>Bool) (λss2 _=>szK ss (nat_lit 900) (szK ss2 (nat_lit 90) (emptyS ss2 λe=>bi e false (putK σ m (.list (app ss ss2)) λσ=>k (.ref m) σ)))) (λ_ _=>false) (λ_ _=>false) (λ_ _=>false) (λ_ _=>false) (λ_ _=>false) (λ_ _=>false) (λ_ _ _ _ _=>false) (λ_=>false) (λ_ _=>false) (λ_ _=>false) (λ_ _=>false) (λ_ _ _=>false) o2)) (λ_ _=>false) (λ_ _=>false) (λ_ _=>false) (λ_ _=>false) (λ_ _=>false) (λ_ _=>false) (λ_ _ _ _ _=>false) (λ_=>false) (λ_ _=>false) (λ_ _=>false) (λ_ _=>false) (λ_ _ _=>false) o1)) (λ_=>false) (λ_ _=>false) (λ_=>false) a)) (false) (false) (false) (false) (false) (false) (false) (false) (false) (false) (false) (false) op)
noncomputable def sumV(vs:List V)(k:Nat->Bool):Bool:=List.rec (motive:=λ_=>(Nat->Bool)->Bool) (λk=>k (nat_lit 0)) (λv _ ih k=>litK v λn=>ih λm=>k (Nat.add n m)) vs k
noncomputable def prmK(kvs:List (Nat×V))(k:List Nat->Bool):Bool:=List.rec (k []) (λp r _=>List.rec (k [p.1]) (λq r _=>List.rec (bi (k [p.1,q.1]) (k [q.1,p.1]) false) (λ_ _ _=>false) r) r) kvs
noncomputable def intsK(ns:List Nat)(σ:S)(k:List V->S->Bool):Bool:=List.rec (motive:=λ_=>S->(List V->S->Bool)->Bool) (λσ k=>k [] σ) (λn _ ih σ k=>intN [] (Int.ofNat n) σ λv σ=>ih σ λvs σ=>k (v::vs) σ) ns σ k
noncomputable def gBlt(b:Bf)(vs:List V)(σ:S)(k:KV):Bool:=one vs λv=>(Bf.rec (motive:=λ_=>Bool) ((V.rec (motive:=λ_=>Bool) (false) (λ_=>false) (λ_ _ _=>false) (λi _=>cps i λx=>intN [] (Int.ofNat (len x)) σ k) (λn=>atK σ n λo=>(O.rec (motive:=λ_=>Bool) (λss _=>szK ss (nat_lit 900) (lenS ss λas c=>intN as (Int.ofNat c) σ k)) (λ_ _=>false) (λ_ _=>false) (λ_ _=>false) (λ_ _=>false) (λ_ _=>false) (λ_ _=>false) (λ_ _ _ _ _=>false) (λ_=>false) (λ_ _=>false) (λ_ _=>false) (λ_ _=>false) (λ_ _ _=>false) o)) (λ_=>false) (λ_ _=>false) (λ_=>false) v)) ((V.rec (motive:=λ_=>Bool) (false) (λ_=>false) (λ_ _ _=>false) (λi _=>k (.boo true) σ) (λn=>atK σ n λo=>(O.rec (motive:=λ_=>Bool) (λss _=>k (.boo false) σ) (λ_ _=>false) (λ_ _=>false) (λ_ _=>false) (λ_ _=>false) (λ_ _=>false) (λ_ _=>false) (λ_ _ _ _ _=>false) (λ_=>false) (λ_ _=>false) (λ_ _=>false) (λ_ _=>false) (λ_ _ _=>false) o)) (λ_=>false) (λ_ _=>false) (λ_=>false) v)) ((V.rec (motive:=λ_=>Bool) (false) (λ_=>false) (λ_ _ _=>k (.boo false) σ) (λi _=>k (.boo false) σ) (λn=>atK σ n λo=>(O.rec (motive:=λ_=>Bool) (λ_ _=>false) (λss _=>k (.boo true) σ) (λ_ _=>false) (λ_ _=>false) (λ_ _=>false) (λ_ _=>false) (λ_ _=>false) (λ_ _ _ _ _=>false) (λ_=>false) (λ_ _=>false) (λ_ _=>false) (λ_ _=>false) (λ_ _ _=>false) o)) (λ_=>false) (λ_ _=>false) (λ_=>false) v)) ((V.rec (motive:=λ_=>Bool) (false) (λ_=>false) (λ_ _ _=>k (.boo true) σ) (λ_ _=>false) (λn=>atK σ n λo=>(O.rec (motive:=λ_=>Bool) (λ_ _=>false) (λ_ _=>false) (λ_ _=>false) (λ_ _=>false) (λ_ _=>k (.boo false) σ) (λ_ _=>false) (λ_ _=>false) (λ_ _ _ _ _=>false) (λ_=>false) (λ_ _=>false) (λ_ _=>false) (λ_ _=>false) (λ_ _ _=>false) o)) (λ_=>false) (λ_ _=>false) (λ_=>false) v)) (litK v λn=>cd (Nat.ble n (nat_lit 9)) (mkS [Nat.add (nat_lit 48) n] σ k)) (drf v σ λ_ o=>(O.rec (motive:=λ_=>Bool) (λss _=>szK ss (nat_lit 900) (itsS ss λvs=>sumV vs λn=>intN [] (Int.ofNat n) σ k)) (λ_ _=>false) (λ_ _=>false) (λ_ _=>false) (λ_ _=>false) (λ_ _=>false) (λ_ _=>false) (λ_ _ _ _ _=>false) (λ_=>false) (λ_ _=>false) (λ_ _=>false) (λ_ _=>false) (λ_ _ _=>false) o)) (drf v σ λ_ o=>(O.rec (motive:=λ_=>Bool) (λ_ _=>false) (λ_ _=>false) (λ_ _=>false) (λ_ _=>false) (λ_ _=>false) (λ_ kvs=>prmK kvs λns=>intsK ns σ λvs σ=>newK σ (.list (ofV vs)) k) (λ_ _=>false) (λ_ _ _ _ _=>false) (λ_=>false) (λ_ _=>false) (λ_ _=>false) (λ_ _=>false) (λ_ _ _=>false) o)) (drf v σ λ_ o=>(O.rec (motive:=λ_=>Bool) (λss _=>szK ss (nat_lit 900) (newK σ (.list ss) k)) (λ_ _=>false) (λ_ _=>false) (λ_ _=>false) (λ_ _=>false) (λ_ _=>false) (λ_ _=>false) (λ_ _ _ _ _=>false) (λ_=>false) (λ_ _=>false) (λ_ _=>false) (λ_ _=>false) (λ_ _ _=>false) o)) b)
noncomputable def callK(P:Pm)(b:Bool)(f:Nat)(vs:List V)(σ:S)(k:KV):Bool:=S.rec (λhp lv nx=>P.F b f vs hp nx (λv hp nx=>k v ⟨hp,lv,nx⟩) (λC c hp nx=>P.x C c ⟨hp,lv,nx⟩)) σ
inductive Mt where
 |fn (f n:Nat)|app (n:Nat)|ext (n:Nat)|get (n:Nat)|rst (i:Nat)
noncomputable def gM(i:Nat)(o:V)(σ:S)(k:Mt->Bool):Bool:=(V.rec (motive:=λ_=>Bool) (false) (λ_=>false) (λ_ _ _=>false) (λj _=>cd (Nat.beq i (nat_lit 81)) (k (.rst j))) (λn=>atK σ n λob=>(O.rec (motive:=λ_=>Bool) (λ_ _=>bi (Nat.beq i (nat_lit 78)) (k (.app n)) (bi (Nat.beq i (nat_lit 79)) (k (.ext n)) false)) (λ_ _=>false) (λC d=>oe (lk clT C) λr=>oe (lk r.meths i) λf=>atK σ d λo'=>(O.rec (motive:=λ_=>Bool) (λ_ _=>false) (λ_ _=>false) (λ_ _=>false) (λes _=>Option.rec (k (.fn f n)) (λ_=>false) (lk es i)) (λ_ _=>false) (λ_ _=>false) (λ_ _=>false) (λ_ _ _ _ _=>false) (λ_=>false) (λ_ _=>false) (λ_ _=>false) (λ_ _=>false) (λ_ _ _=>false) o')) (λ_ _=>false) (λ_ _=>cd (Nat.beq i (nat_lit 80)) (k (.get n))) (λ_ _=>cd (Nat.beq i (nat_lit 80)) (k (.get n))) (λ_ _=>false) (λ_ _ _ _ _=>false) (λ_=>false) (λ_ _=>false) (λ_ _=>false) (λ_ _=>false) (λ_ _ _=>false) ob)) (λ_=>false) (λ_ _=>false) (λ_=>false) o)
noncomputable def rstr(l:List Nat):List Nat:=List.rec [] (λa _ ih=>bi (bi (Nat.beq a (nat_lit 32)) (List.rec true (λ_ _ _=>false) ih) false) [] (a::ih)) l
noncomputable def two(vs:List V)(k:V->V->Bool):Bool:=List.rec false (λv r _=>one r λw=>k v w) vs
noncomputable def getD(vs:List V)(f:V->(Nat->Bool)->Bool)(kvs:List (Nat×V))(k:V->Bool):Bool:=List.rec false (λkey r _=>f key λj=>List.rec (k (Option.rec .non (λv=>v) (lk kvs j))) (λd r _=>List.rec (k (Option.rec d (λv=>v) (lk kvs j))) (λ_ _ _=>false) r) r) vs
noncomputable def gMc(P:Pm)(m:Mt)(vs:List V)(σ:S)(k:KV):Bool:=(Mt.rec (motive:=λ_=>Bool) (λf n=>callK P false f (.ref n::vs) σ k) (λn=>atK σ n λo=>(O.rec (motive:=λ_=>Bool) (λss m=>szK ss (nat_lit 900) (one vs λv=>putK σ n (.list (app ss [.it v])) λσ=>k .non σ)) (λ_ _=>false) (λ_ _=>false) (λ_ _=>false) (λ_ _=>false) (λ_ _=>false) (λ_ _=>false) (λ_ _ _ _ _=>false) (λ_=>false) (λ_ _=>false) (λ_ _=>false) (λ_ _=>false) (λ_ _ _=>false) o)) (λn=>one vs λv=>drf v σ λ_ o2=>atK σ n λo=>(O.rec (motive:=λ_=>Bool) (λss m=>(O.rec (motive:=λ_=>Bool) (λss2 _=>szK ss (nat_lit 900) (szK ss2 (nat_lit 90) (emptyS ss2 λe=>bi e false (putK σ n (.list (app ss ss2)) λσ=>k .non σ)))) (λ_ _=>false) (λ_ _=>false) (λ_ _=>false) (λ_ _=>false) (λ_ _=>false) (λ_ _=>false) (λ_ _ _ _ _=>false) (λ_=>false) (λ_ _=>false) (λ_ _=>false) (λ_ _=>false) (λ_ _ _=>false) o2)) (λ_ _=>false) (λ_ _=>false) (λ_ _=>false) (λ_ _=>false) (λ_ _=>false) (λ_ _=>false) (λ_ _ _ _ _=>false) (λ_=>false) (λ_ _=>false) (λ_ _=>false) (λ_ _=>false) (λ_ _ _=>false) o)) (λn=>atK σ n λo=>(O.rec (motive:=λ_=>Bool) (λ_ _=>false) (λ_ _=>false) (λ_ _=>false) (λ_ _=>false) (λ_ kvs=>getD vs (λkey k=>strK key k) kvs λv=>k v σ) (λ_ kvs=>getD vs (λkey k=>litK key k) kvs λv=>k v σ) (λ_ _=>false) (λ_ _ _ _ _=>false) (λ_=>false) (λ_ _=>false) (λ_ _=>false) (λ_ _=>false) (λ_ _ _=>false) o)) (λi=>one vs λv=>strK v λj=>cd (Nat.beq j (nat_lit 190)) (cps i λx=>mkS (rstr x) σ k)) m)
noncomputable def nonK(v:V)(b:Bool):Bool:=(V.rec (motive:=λ_=>Bool) (b) (λ_=>false) (λ_ _ _=>false) (λ_ _=>false) (λ_=>false) (λ_=>false) (λ_ _=>false) (λ_=>false) v)
noncomputable def gNew(P:Pm)(C:Nat)(vs:List V)(σ:S)(k:KV):Bool:=oe (lk clT C) λr=>newK σ (.attrs []) λd σ=>refK d λd=>newK σ (λ_=>.inst C d) λx σ=>callK P true r.init (x::vs) σ λv σ=>nonK v (k x σ)
noncomputable def letA(is:List (Nat×Nat))(vs:List V)(σ:S)(k:S->Bool):Bool:=List.rec (motive:=λ_=>List V->S->Bool) (λvs σ=>List.rec (k σ) (λ_ _ _=>false) vs) (λi _ ih vs σ=>List.rec false (λv r _=>letK σ i.1 v λσ=>ih r σ) vs) is vs σ
noncomputable def gUnp(is:List (Nat×Nat))(v:V)(σ:S)(k:S->Bool):Bool:=drf v σ λ_ o=>(O.rec (motive:=λ_=>Bool) (λ_ _=>false) (λvs _=>letA is vs σ k) (λ_ _=>false) (λ_ _=>false) (λ_ _=>false) (λ_ _=>false) (λ_ _=>false) (λ_ _ _ _ _=>false) (λ_=>false) (λ_ _=>false) (λ_ _=>false) (λ_ _=>false) (λ_ _ _=>false) o)
noncomputable def walkK(b:Bool)(v:V)(σ:S)(k:List V->(S->Bool)->S->Bool):Bool:=drf v σ λn o=>(O.rec (motive:=λ_=>Bool) (λss m=>itsS ss λvs=>cd (Nat.ble (len vs) (nat_lit 900)) (k vs (λσ=>atK σ n λo'=>(O.rec (motive:=λ_=>Bool) (λss2 m2=>bi (Nat.beq m m2) (sameS ss ss2) false) (λ_ _=>false) (λ_ _=>false) (λ_ _=>false) (λ_ _=>false) (λ_ _=>false) (λ_ _=>false) (λ_ _ _ _ _=>false) (λ_=>false) (λ_ _=>false) (λ_ _=>false) (λ_ _=>false) (λ_ _ _=>false) o')) σ)) (λvs m=>bi b false (cd (Nat.ble (len vs) (nat_lit 900)) (k vs (λσ=>atK σ n λo'=>(O.rec (motive:=λ_=>Bool) (λ_ _=>false) (λws m2=>bi (Nat.beq m m2) (sameVs vs ws) false) (λ_ _=>false) (λ_ _=>false) (λ_ _=>false) (λ_ _=>false) (λ_ _=>false) (λ_ _ _ _ _=>false) (λ_=>false) (λ_ _=>false) (λ_ _=>false) (λ_ _=>false) (λ_ _ _=>false) o')) σ))) (λ_ _=>false) (λ_ _=>false) (λ_ _=>false) (λo kvs=>bi b false (cd (Nat.ble (len kvs) (nat_lit 900)) (k (List.rec [] (λp _ ih=>.int [] (Int.ofNat p.1) (nat_lit 0)::ih) kvs) (λσ=>atK σ n λo'=>(O.rec (motive:=λ_=>Bool) (λ_ _=>false) (λ_ _=>false) (λ_ _=>false) (λ_ _=>false) (λ_ _=>false) (λo2 _=>Nat.beq o o2) (λ_ _=>false) (λ_ _ _ _ _=>false) (λ_=>false) (λ_ _=>false) (λ_ _=>false) (λ_ _=>false) (λ_ _ _=>false) o')) σ))) (λ_ _=>false) (λ_ _ _ _ _=>false) (λ_=>false) (λ_ _=>false) (λ_ _=>false) (λ_ _=>false) (λ_ _ _=>false) o)
noncomputable def bindI(i:Nat)(v:V)(σ:S)(k:S->Bool):Bool:=(V.rec (motive:=λ_=>Bool) (letK σ i v k) (λ_=>letK σ i v k) (λas c _=>intN as c σ λv σ=>letK σ i v k) (λ_ _=>letK σ i v k) (λ_=>letK σ i v k) (λ_=>letK σ i v k) (λ_ _=>letK σ i v k) (λ_=>letK σ i v k) v)
noncomputable def bindK(is:List (Nat×Nat))(tp:Nat)(v:V)(σ:S)(k:S->Bool):Bool:=Nat.rec (List.rec false (λi _ _=>bindI i.1 v σ k) is) (λ_ _=>gUnp is v σ k) tp
structure ME where
 e:Pm->S->KV->Bool
 a:Pm->S->(List V->S->Bool)->Bool
 t:Pm->S->KB->Bool
 b:Pm->BoolOp->S->KV->Bool
 tb:Pm->BoolOp->S->KB->Bool
 d:Pm->S->(List (Nat×V)->S->Bool)->Bool
 w:Bool->Pm->S->(List V->(S->Bool)->S->Bool)->Bool
noncomputable def fE(e:Pm->S->KV->Bool):ME:=⟨e,λ_ _ _=>false,λ_ _ _=>false,λ_ _ _ _=>false,λ_ _ _ _=>false,λ_ _ _=>false,λb P σ k=>e P σ λv σ=>walkK b v σ k⟩
noncomputable def fET(e:Pm->S->KV->Bool)(t:Pm->S->KB->Bool):ME:=⟨e,λ_ _ _=>false,t,λ_ _ _ _=>false,λ_ _ _ _=>false,λ_ _ _=>false,λ_ _ _ _=>false⟩
noncomputable def bo2(op:BoolOp)(c:Bool)(A B:Bool):Bool:=(BoolOp.rec (motive:=λ_=>Bool) (bi c A B) (bi c B A) op)
noncomputable def vLc(P:Pm)(elt:ME)(is:List (Nat×Nat))(tp:Nat)(c:Option ME)(lv:List (Nat×V))(chk:S->Bool)(vs:List V)(acc:List V->List V)(σ:S)(k:List V->S->Bool):Bool:=
 List.rec (motive:=λ_=>(List V->List V)->S->Bool) (λacc σ=>k (acc []) σ) (λv _ ih acc σ=>S.rec (λhp _ nx=>bindK is tp v ⟨hp,[],nx⟩ λσ=>Option.rec (elt.e P σ λy σ=>S.rec (λhp _ nx=>cd (chk ⟨hp,lv,nx⟩) (ih (λl=>acc (y::l)) ⟨hp,lv,nx⟩)) σ)
  (λc=>c.t P σ λb σ=>bi b (elt.e P σ λy σ=>S.rec (λhp _ nx=>cd (chk ⟨hp,lv,nx⟩) (ih (λl=>acc (y::l)) ⟨hp,lv,nx⟩)) σ) (S.rec (λhp _ nx=>cd (chk ⟨hp,lv,nx⟩) (ih acc ⟨hp,lv,nx⟩)) σ)) c) σ) vs acc σ
noncomputable def P0(P:Pm):Pm:=⟨P.F,P.D,P.cs,λ_ _ _=>false⟩
noncomputable def ev(e:IE):ME:=IE.rec (motive:=λ_=>ME)
 (λi _=>fE λ_ σ k=>S.rec (λhp vs nx=>oe (lk vs i) λv=>k v ⟨hp,vs,nx⟩) σ)
 (λi c t _=>fE λ_ σ k=>intN [] (Int.ofNat c) σ k)
 (λi a _=>fE λ_ σ k=>k (.gr a) σ)
 (λi _=>fE λ_ σ k=>intN [] (Int.ofNat i) σ k)
 (λi _ _=>fE λ_ σ k=>intN [] (Int.neg (Int.ofNat i)) σ k)
 (λi _=>fE λ_ σ k=>tokK σ λt σ=>k (.str i t) σ)
 (λ_=>fE λ_ σ k=>k .non σ)
 (λb _=>fE λ_ σ k=>k (.boo b) σ)
 (λ_ i _ e=>fE λP σ k=>e.e P σ λv σ=>gAttr i v σ k)
 (λ_ _ _ e ix=>fE λP σ k=>e.e P σ λo σ=>ix.e P σ λi σ=>gItem o i σ k)
 (λ_ _ _ _ e z=>fE λP σ k=>e.e P σ λo σ=>z.e P σ λz σ=>gSl true o z σ k)
 (λ_ _ _ _ e z=>fE λP σ k=>e.e P σ λo σ=>z.e P σ λz σ=>gSl false o z σ k)
 (λop _ _ _ l r=>fET (λP σ k=>l.e P σ λa σ=>r.e P σ λb σ=>gCmp op a b σ λc σ=>k (.boo c) σ) (λP σ k=>l.e P σ λa σ=>r.e P σ λb σ=>gCmp op a b σ k))
 (λop _ _ as=>fET (λP σ k=>as.b P op σ k) (λP σ k=>as.tb P op σ k))
 (λ_ _ a=>fET (λP σ k=>a.e P σ λv σ=>gTruth v σ λb σ=>k (.boo (neg b)) σ) (λP σ k=>a.t P σ λb σ=>k (neg b) σ))
 (λ_ _ _ _ t a b=>fE λP σ k=>t.t P σ λc σ=>bi c (a.e P σ k) (b.e P σ k))
 (λop _ _ _ a b=>fE λP σ k=>a.e P σ λx σ=>b.e P σ λy σ=>gBin op x y σ k)
 (λ_ _ as=>fE λP σ k=>as.a P σ λvs σ=>cd (Nat.ble (len vs) (nat_lit 900)) (newK σ (.list (ofV vs)) k))
 (λ_ _ as=>fE λP σ k=>as.a P σ λvs σ=>cd (Nat.ble (len vs) (nat_lit 900)) (newK σ (.tup vs) k))
 (λ_ _ as=>fE λP σ k=>as.d P σ λkvs σ=>cd (nodB (List.rec [] (λp _ ih=>p.1::ih) kvs)) (newK σ (λo=>.dS o kvs) k))
 (λb _=>fE λP σ k=>newK σ (λo=>bi b (.dS o []) (.dI o [])) k)
 ⟨λ_ _ _=>false,λ_ σ k=>k [] σ,λ_ _ _=>false,λ_ _ _ _=>false,λ_ op σ k=>(BoolOp.rec (motive:=λ_=>Bool) (k true σ) (k false σ) op),λ_ σ k=>k [] σ,λ_ _ _ _=>false⟩
 (λ_ as' a as=>⟨λ_ _ _=>false,λP σ k=>a.e P σ λv σ=>as.a P σ λvs σ=>k (v::vs) σ,λ_ _ _=>false,
   λP op σ k=>isNil as' (a.e P σ k) (a.e P σ λv σ=>gTruth v σ λc σ=>bo2 op c (as.b P op σ k) (k v σ)),
   λP op σ k=>a.t P σ λc σ=>(BoolOp.rec (motive:=λ_=>Bool) (bi c (as.tb P op σ k) (k false σ)) (bi c (k true σ) (as.tb P op σ k)) op),λ_ _ _=>false,λ_ _ _ _=>false⟩)
 (λ_ e=>⟨λ_ _ _=>false,λ_ _ _=>false,λP σ k=>e.e P σ λv σ=>gTruth v σ k,λ_ _ _ _=>false,λ_ _ _ _=>false,λ_ _ _=>false,λ_ _ _ _=>false⟩)
 (λj _ _ _ v r=>⟨λ_ _ _=>false,λ_ _ _=>false,λ_ _ _=>false,λ_ _ _ _=>false,λ_ _ _ _=>false,λP σ k=>v.e P σ λx σ=>r.d P σ λkvs σ=>k ((j,x)::kvs) σ,λ_ _ _ _=>false⟩)
 (λ_ a _ _ _ as=>fE λP σ k=>as.a P σ λvs σ=>callK P false a vs σ k)
 (λ_ C _ _ _ as=>fE λP σ k=>as.a P σ λvs σ=>gNew P C vs σ k)
 (λ_ i _ _ _ o as=>fE λP σ k=>o.e P σ λo σ=>gM i o σ λm=>as.a P σ λvs σ=>gMc P m vs σ k)
 (λb _ _ _ as=>fE λP σ k=>as.a P σ λvs σ=>gBlt b vs σ k)
 (λb _ _ _ _ a=>fE λP σ k=>a.e P σ λv σ=>gBlt b [v] σ k)
 (λi _=>fE λP σ k=>oe (lk P.cs i) λn=>atK σ n λo=>(O.rec (motive:=λ_=>Bool) (λ_ _=>false) (λ_ _=>false) (λ_ _=>false) (λ_ _=>false) (λ_ _=>false) (λ_ _=>false) (λ_ _=>false) (λ_ _ _ _ _=>false) (λ_=>false) (λ_ _=>false) (λ_ x=>oe x λv=>k v σ) (λ_ _=>false) (λ_ _ _=>false) o))
 (λ_ _ _ a=>⟨λ_ _ _=>false,λ_ _ _=>false,λ_ _ _=>false,λ_ _ _ _=>false,λ_ _ _ _=>false,λ_ _ _=>false,λ_ P σ k=>a.e P σ λv σ=>litK v λn=>cd (Nat.ble n (nat_lit 900)) (k (Nat.rec (motive:=λ_=>List V->List V) (λl=>l) (λi ih l=>ih (.int [] (Int.ofNat i) (nat_lit 0)::l)) n []) (λ_=>true) σ)⟩)
 (λ_ is tp _ c' _ _ elt it c=>fE λP σ k=>it.w true P σ λvs chk σ=>S.rec (λhp lv nx=>vLc (P0 P) elt is tp (isNil c' none (some c)) lv chk vs (λl=>l) ⟨hp,lv,nx⟩ λys σ=>newK σ (.list (ofV ys)) k) σ) e
noncomputable def noF(hp:Hp):Bool:=List.rec true (λp _ ih=>(O.rec (motive:=λ_=>Bool) (λ_ _=>ih) (λ_ _=>ih) (λ_ _=>ih) (λ_ _=>ih) (λ_ _=>ih) (λ_ _=>ih) (λ_ _=>ih) (λ_ _ _ _ _=>ih) (λ_=>ih) (λ_ _=>ih) (λ_ _=>ih) (λ_ _=>false) (λ_ _ _=>ih) p.2)) hp
structure Po where
 nx:S->Bool
 rt:V->S->Bool
 bk:S->Bool
noncomputable def vL(bodyT:S->Po->Bool)(bind:V->S->(S->Bool)->Bool)(chk:S->Bool)(o:Po)(after:S->Bool)(vs:List V)(σ:S):Bool:=
 List.rec (motive:=λ_=>S->Bool) (λσ=>after σ) (λv _ ih σ=>bind v σ λσ=>bodyT σ ⟨λσ'=>cd (chk σ') (ih σ'),o.rt,after⟩) vs σ
noncomputable def Ph(P:Pm):Pm:=⟨λ_ _ _ _ _ _ _=>false,P.D,P.cs,λ_ _ _=>false⟩
noncomputable def unb(i:Nat)(l:List (Nat×V)):List (Nat×V):=List.rec [] (λp _ ih=>bi (Nat.beq i p.1) ih (p::ih)) l
noncomputable def clean(n:Nat)(σ:S)(k:S->Bool):Bool:=S.rec (λhp vs nx=>hdel hp n λhp=>hdel hp (Nat.succ n) λhp=>k ⟨hp,unb (nat_lit 49) vs,nx⟩) σ
noncomputable def vS(c:IS):Pm->S->Po->Bool:=IS.rec (motive:=λ_=>Pm->S->Po->Bool)
 (λ_ σ o=>o.nx σ)
 (λi e _ _ _ r P σ o=>(ev e).e P σ λv σ=>letK σ i v λσ=>r P σ o)
 (λe i v _ _ _ r P σ o=>(ev v).e P σ λx σ=>(ev e).e P σ λov σ=>gSet ov i x σ λσ=>r P σ o)
 (λe k v _ _ _ r P σ o=>(ev v).e P σ λx σ=>(ev e).e P σ λov σ=>(ev k).e P σ λkv σ=>gSetI ov kv x σ λσ=>r P σ o)
 (λi op e _ _ _ r P σ o=>S.rec (λhp vs nx=>oe (lk vs i) λold=>(ev e).e P ⟨hp,vs,nx⟩ λv σ=>gInp op old v σ λx σ=>letK σ i x λσ=>r P σ o) σ)
 (λe i op v _ _ _ r P σ o=>(ev e).e P σ λov σ=>gAttr i ov σ λold σ=>(ev v).e P σ λy σ=>gInp op old y σ λx σ=>gSet ov i x σ λσ=>r P σ o)
 (λe k op v _ _ _ r P σ o=>(ev e).e P σ λov σ=>(ev k).e P σ λkv σ=>gItem ov kv σ λold σ=>(ev v).e P σ λy σ=>gInp op old y σ λx σ=>gSetI ov kv x σ λσ=>r P σ o)
 (λi e _ _ _ r P σ o=>(ev e).e P σ λv σ=>oe (lk P.cs i) λn=>atK σ n λo'=>(O.rec (motive:=λ_=>Bool) (λ_ _=>false) (λ_ _=>false) (λ_ _=>false) (λ_ _=>false) (λ_ _=>false) (λ_ _=>false) (λ_ _=>false) (λ_ _ _ _ _=>false) (λ_=>false) (λ_ _=>false) (λ_ _=>putK σ n (λc=>.cel c (some v)) λσ=>r P σ o) (λ_ _=>false) (λ_ _ _=>false) o'))
 (λi e _ _ _ r P σ o=>(ev e).e P σ λv σ=>letK σ i v λσ=>r P σ o)
 (λe _ _ r P σ o=>(ev e).e P σ λ_ σ=>r P σ o)
 (λt _ _ _ _ a b r P σ o=>(ev t).t P σ λc σ=>bi c (a P σ ⟨λσ=>r P σ o,o.rt,o.bk⟩) (b P σ ⟨λσ=>r P σ o,o.rt,o.bk⟩))
 (λe _ P σ o=>(ev e).e P σ λv σ=>o.rt v σ)
 (λas _ _ _ P σ o=>cd (Nat.ble P.D (nat_lit 480)) ((ev as).a P σ λvs σ=>two vs λv w=>litK v λc=>strK w λ_=>S.rec (λhp lv nx=>cd (noF hp) (P.x (nat_lit 51) (Int.ofNat c) ⟨hp,lv,nx⟩)) σ))
 (λas _ _ _ P σ o=>cd (Nat.ble P.D (nat_lit 470)) ((ev as).a P σ λvs σ=>one vs λw=>strK w λ_=>S.rec (λhp lv nx=>cd (noF hp) (P.x (nat_lit 70) (Int.negSucc (nat_lit 0)) ⟨hp,lv,nx⟩)) σ))
 (λ_ P σ o=>o.bk σ)
 (λis e _ _ _ r P σ o=>(ev e).e P σ λv σ=>gUnp is v σ λσ=>r P σ o)
 (λi e _ _ _ _ b r P σ o=>(ev e).w false P σ λvs chk σ=>vL (λσ o=>b P σ o) (λv σ k=>bindI i v σ k) chk o (λσ=>r P σ o) vs σ)
 (λis e _ _ _ _ b r P σ o=>(ev e).w false P σ λvs chk σ=>vL (λσ o=>b P σ o) (λv σ k=>gUnp is v σ k) chk o (λσ=>r P σ o) vs σ)
 (λ_ _ _ _ _ _ b hb r P σ o=>b ⟨P.F,P.D,P.cs,λC c σ=>cd (bi (Nat.beq C (nat_lit 51)) true (Nat.beq C (nat_lit 70))) (S.rec (λhp vs nx=>hb (Ph P) ⟨(nx,.flt nx (Nat.succ nx))::(Nat.succ nx,.fld (Nat.succ nx) c (Nat.succ (Nat.succ nx)))::hp,((nat_lit 49),.ref nx)::vs,Nat.succ (Nat.succ (Nat.succ nx))⟩ ⟨λσ=>clean nx σ λσ=>r P σ o,λv σ=>clean nx σ λσ=>o.rt v σ,λ_=>false⟩) σ)⟩ σ ⟨λσ=>r P σ o,o.rt,o.bk⟩) c
noncomputable def takeK(vs:List V)(hp:Hp)(nx:Nat)(k:V->Hp->Nat->Bool):Bool:=List.rec false (λs r _=>two r λp l=>refK s λs=>refK p λp=>litK l λlim=>oe (lk hp s) λos=>oe (lk hp p) λop=>(O.rec (motive:=λ_=>Bool) (λ_ _=>false) (λ_ _=>false) (λ_ _=>false) (λ_ _=>false) (λ_ _=>false) (λ_ _=>false) (λ_ _=>false) (λ_ _ _ _ _=>false) (λ_=>(O.rec (motive:=λ_=>Bool) (λ_ _=>false) (λ_ _=>false) (λ_ _=>false) (λ_ _=>false) (λ_ _=>false) (λ_ _=>false) (λ_ _=>false) (λ_ _ _ _ _=>false) (λ_=>false) (λ_ b=>cd (Nat.ble (nat_lit 1) lim) (cd (Nat.ble lim (nat_lit 9)) (hset hp p (.spt (Nat.succ nx) b) λhp=>Nat.rec true (λd ih=>bi (k (.int [] (Int.ofNat d) nx) hp (Nat.succ (Nat.succ nx))) ih false) lim))) (λ_ _=>false) (λ_ _=>false) (λ_ _ _=>false) op)) (λ_ _=>false) (λ_ _=>false) (λ_ _=>false) (λ_ _ _=>false) os)) vs
noncomputable def zipA(ps:List Nat)(vs:List V)(k:List (Nat×V)->Bool):Bool:=List.rec (motive:=λ_=>List V->(List (Nat×V)->Bool)->Bool) (λvs k=>List.rec (k []) (λ_ _ _=>false) vs) (λp _ ih vs k=>List.rec false (λv r _=>ih r λl=>k ((p,v)::l)) vs) ps vs k
noncomputable def celK(cs:List Nat)(lv:List (Nat×V))(σ:S)(k:List (Nat×Nat)->S->Bool):Bool:=List.rec (motive:=λ_=>S->(List (Nat×Nat)->S->Bool)->Bool) (λσ k=>k [] σ) (λi _ ih σ k=>newK σ (λo=>.cel o (lk lv i)) λv σ=>refK v λn=>S.rec (λhp vs nx=>ih ⟨hp,unb i vs,nx⟩ λcs σ=>k ((i,n)::cs) σ) σ) cs σ k
noncomputable def dD(D:Nat)(b:Bool):Nat:=Bool.rec D (Nat.add D (nat_lit 10)) b
noncomputable def cH(n:Nat):Nat->Bool->Nat->List V->Hp->Nat->(V->Hp->Nat->Bool)->(Nat->Int->Hp->Nat->Bool)->Bool:=Nat.rec (motive:=λ_=>Nat->Bool->Nat->List V->Hp->Nat->(V->Hp->Nat->Bool)->(Nat->Int->Hp->Nat->Bool)->Bool)
 (λ_ _ _ _ _ _ _ _=>false)
 (λ_ ih D b a vs hp nx k x=>bi (Nat.beq a (nat_lit 531)) (cd (Nat.ble (dD D b) (nat_lit 440)) (takeK vs hp nx k)) (oe (lk fnT a) λr=>cd (Nat.ble (dD D b) (nat_lit 880)) (zipA r.ps vs λlv=>celK r.cs lv ⟨hp,lv,nx⟩ λcs σ=>vS r.ir ⟨ih (Nat.add (dD D b) (nat_lit 10)),Nat.add (dD D b) (nat_lit 10),cs,λC c σ=>S.rec (λhp _ nx=>x C c hp nx) σ⟩ σ ⟨λσ=>S.rec (λhp _ nx=>k .non hp nx) σ,λv σ=>S.rec (λhp _ nx=>k v hp nx) σ,λ_=>false⟩))) n
noncomputable def cL(n D:Nat)(b:Bool)(a:Nat)(vs:List V)(hp:Hp)(nx:Nat)(k:V->Hp->Nat->Bool)(x:Nat->Int->Hp->Nat->Bool):Bool:=Option.rec (cH n D b a vs hp nx k x) (λr=>cd (Nat.ble (dD D b) (nat_lit 880)) (zipA r.ps vs λlv=>celK r.cs lv ⟨hp,lv,nx⟩ λcs σ=>vS r.ir ⟨cH n (Nat.add (dD D b) (nat_lit 10)),Nat.add (dD D b) (nat_lit 10),cs,λ_ _ _=>false⟩ σ ⟨λσ=>S.rec (λhp _ nx=>k .non hp nx) σ,λv σ=>S.rec (λhp _ nx=>k v hp nx) σ,λ_=>false⟩)) (lk fnC a)
end Mine.Q
namespace Mine
abbrev ar(D:Nat)(outer:List Env):Around:={handled:=none,depth:=D,frames:=some outer,guards:=none,units:=10*D}
theorem code_weaken{M:Model}{A:Around}{D:Nat}{outer:List Env}{c:Code}{R:Result->Shared->Prop}{s:Shared}
 (h:codeAny M (ar D outer) c R s)(hh:A.handled=none)(hd:A.depth<=D)(hu:A.units<=10*D)(hf:A.frames=some outer):codeAny M A c R s:=
 λΓ p hc hΓ=>h Γ p hc ⟨hΓ.1.trans hh,Nat.le_trans hΓ.2.1 hd,λl hl=>hΓ.2.2.1 l (hf.trans hl),λ_ hg=>(by cases hg),Nat.le_trans hΓ.2.2.2.2 hu⟩
abbrev Lg:=List (Addr×Obj)
abbrev ads(l:Lg):List Addr:=l.map (·.1)
structure Has(g h:Heap)(l:Lg):Prop where
 nd:(ads l).Nodup
 keep:∀b o,g.get? b=some o->h.get? b=some o
 size:g.objs.size<=h.objs.size
 led:∀q∈l,h.get? q.1=some q.2/\g.get? q.1=none
def frs(outer:List Env):List Addr:=outer.filterMap (·.frame)
abbrev excO(C d:Addr)(a0 tb vs2:Value):Obj:=⟨.ref C,some d,.fields #[a0,tb,vs2,.none,.bool false,.none],#[]⟩
def Flies(g h:Heap)(e C:Addr)(c:Int)(bad:List Addr):Prop:=
 ∃d head a0 vs2 es n tk,h.get? e=some (excO C d a0 head vs2)/\h.get? d=some (dictOf es n)/\getL "code" es=some (some (.int c tk))/\
  (head=.none\/∃T oT ts,head=.ref T/\T≠e/\h.get? T=some oT/\oT.data=.fields ts/\ts[3]?=some .none/\g.get? T=none)/\g.get? e=none/\g.get? d=none/\d∉bad
structure XHas(g:Heap)(outer:List Env)(h:Heap)(e C:Addr)(c:Int)(l:Lg):Prop where
 nd:(ads l).Nodup
 keep:∀b o,g.get? b=some o->(b∉frs outer->h.get? b=some o)/\∃sl,h.get? b=some {o with slots:=sl}
 size:g.objs.size<=h.objs.size
 led:∀q∈l,h.get? q.1=some q.2/\g.get? q.1=none/\∀vs,q.2.data≠.fields vs
 exc:Flies g h e C c (l.map (·.1))
def e0:Heap:={}
theorem e0_none(b:Addr):e0.get? b=none:=rfl
theorem e0_stays(h:Heap):e0.StaysIn h:=λb o e=>by rw[e0_none]at e;cases e
def Spec(K:Frag)(prog:Program)(w:World)(D:Nat)(f:Value)(vs:List Value)(l:Lg)(P:Value->Lg->Prop)(X:Addr->Int->Lg->Prop):Prop:=
 ∀(g:Heap) (outer:List Env) (p:Program) (loose:List Str) (mean:ExcName->Option Value) (mg mb:Str->Option Value) (s:Shared) (R:Result->Shared->Prop),
  Below (ar D outer) e0 outer g->K.In g->Top p loose mean mg mb g->Has g s.heap l->
  (∀v l' h' tk,P v l'->Has g h' l'->R (.ok (.ret v)) {s with heap:=h',toks:=tk})->
  (∀e C c l' h' tk,X C c l'->XHas g outer h' e C c l'->R (.error (.ref e)) {s with heap:=h',toks:=tk})->
  codeAny (model prog w) (ar D outer) (.call f ⟨vs,[]⟩) R s
section
variable{prog:Program}{w:World}{K:Frag}{D:Nat}{g:Heap}{outer:List Env}{p:Program}{loose:List Str}{mean:ExcName->Option Value}{mg mb:Str->Option Value}{s:Shared}{R:Result->Shared->Prop}{l:Lg}
 {name qual:Str}{params:Arguments}{body:List Stmt}{scope:Scope}{dV kV doc pm cdv ct oc:Value}{an od:Option Addr}{osl:Array (Option Value)}{f:Addr}{args:Args}{binds:List (Str×Value)}
theorem enter(B:Below (ar D outer) e0 outer g)(X:K.In g)(T:Top p loose mean mg mb g)(H:Has g s.heap l)
 (ho:K.lookup f=some ⟨oc,od,.func (fnOf name qual params body scope dV kV doc pm an cdv ct),osl⟩)(hcd:codeIn K cdv qual=true)(hroom:D<recursionLimit)
 (hbind:BindsTo s (fnOf name qual params body scope dV kV doc pm an cdv ct) args binds)(hloc:∀y∈binds,scope.names.lookup y.1=some .local)
 (h:∀L h₁,Fr g L h₁ (λy=>binds.reverse.lookup y)->News g L h₁ l->(ads l).Nodup->(∀q∈l,q.1<L)->
   wpAny (model prog w) ((ar D outer).deeper (envOf qual scope L f cdv)) (execs body (envOf qual scope L f cdv))
    (λfl s'=>R (.ok (.ret (match fl with|.ret v=>v|_=>.none))) s')
    (λe s'=>wpAny (model prog w) ((ar D outer).deeper (envOf qual scope L f cdv)) (leaving (envOf qual scope L f cdv) e) (λ_ s''=>R (.error e) s'') (λe' s''=>R (.error e') s'') s')
    {s with heap:=h₁,toks:=s.toks+binds.length})
 (hco:scope.isCoroutine=false)(hgen:scope.isGenerator=false)(hk:scope.kind=.function)
 (hcell:∀x∈scope.names,x.2≠.cell):codeAny (model prog w) (ar D outer) (.call (.ref f) args) R s:=by
 have Xs:K.In s.heap:=X.keeps H.keep
 refine codeAny_call_def (fd:=fnOf name qual params body scope dV kV doc pm an cdv ct) (body:=body) (binds:=binds) hroom (Xs _ _ ho) rfl (T.nolimit.keeps H.keep) (codeRec_of Xs hcd) rfl hbind hcell hloc (λh₁ hns hk₁=>?_) hco hgen hk
 refine h s.heap.objs.size h₁ ⟨hns,λb o e=>hk₁ b o (H.keep b o e),H.size⟩ (λq hq=>mkAA (hk₁ _ _ (H.led q hq).1) (Nat.ne_of_lt (Heap.lt_size (H.led q hq).1)) ((H.led q hq).2)) H.nd (λq hq=>Heap.lt_size (H.led q hq).1)
end
theorem has_end{g h:Heap}{L:Addr}{m:Str->Option Value}{l news:Lg}(F:Fr g L h m)(N:News g L h news)(nd:(ads l).Nodup)(hs:∀q∈l,q∈news):Has g h l:=by
 refine elEEEA (λoL _ _ hL _=>?_)<|F.ns
 exact⟨nd,F.keep,Nat.le_trans F.above (Nat.le_of_lt (Heap.lt_size hL)),λq hq=>⟨(N q (hs q hq)).1,(N q (hs q hq)).2.2⟩⟩
inductive UpdS(d:Addr)(o o':Obj):Lg->Lg->Prop
 |head {r}:UpdS d o o' ((d,o)::r) ((d,o')::r)
 |tail {p r r'}:UpdS d o o' r r'->UpdS d o o' (p::r) (p::r')
theorem UpdS.in_{d:Addr}{o o':Obj}{l l':Lg}(u:UpdS d o o' l l'):d∈ads l:=by
 induction u with
 |head=>exact .head _
 |tail _ ih=>exact .tail _ ih
theorem Upd.of_nd{d:Addr}{o o':Obj}{l l':Lg}(nd:(ads l).Nodup)(u:UpdS d o o' l l'):Upd d o o' l l':=by
 induction u with
 |head=>exact .head λp hp e=>(List.nodup_cons.mp nd).1 (by have z:=List.mem_map_of_mem (f:=(·.1)) hp;rw[e]at z;exact z)
 |tail u ih=>exact .tail (λe=>(List.nodup_cons.mp nd).1 (by have:=u.in_;rw[←e]at this;exact this)) (ih (List.nodup_cons.mp nd).2)
theorem UpdS.ads{d:Addr}{o o':Obj}{l l':Lg}(u:UpdS d o o' l l'):Mine.ads l'=Mine.ads l:=by
 induction u with
 |head=>rfl
 |tail _ ih=>exact congrArg (_::·) ih
inductive Pick(q:Addr×Obj):Lg->Lg->Prop
 |head {r}:Pick q (q::r) r
 |tail {p r r'}:Pick q r r'->Pick q (p::r) (p::r')
inductive Sel:Lg->Lg->Lg->Prop
 |nil {r}:Sel [] r r
 |all {r}:Sel r r []
 |skip {p l r r'}:Sel l r r'->Sel l (p::r) (p::r')
 |cons {q l r r' r''}:Pick q r r'->Sel l r' r''->Sel (q::l) r r''
theorem Pick.perm{q:Addr×Obj}{r r':Lg}(p:Pick q r r'):List.Perm r (q::r'):=by
 induction p with
 |head=>exact .refl _
 |tail _ ih=>exact(ih.cons _).trans (.swap ..)
theorem Sel.perm{l r r':Lg}(p:Sel l r r'):List.Perm r (l++r'):=by
 induction p with
 |nil=>exact .refl _
 |all=>rw[List.append_nil]
 |skip _ ih=>exact(ih.cons _).trans List.perm_middle.symm
 |cons p _ ih=>exact p.perm.trans (ih.cons _)
theorem Sel.nd{l r r':Lg}(p:Sel l r r')(h:(ads r).Nodup):(ads l).Nodup/\(ads r').Nodup/\∀q∈l,∀x∈r',q.1≠x.1:=by
 have h2:(ads (l++r')).Nodup:=(p.perm.map _).nodup_iff.mp h
 simp only[ads,List.map_append,List.nodup_append,List.mem_map]at h2
 exact mkAA h2.1 h2.2.1 (λq hq x hx=>h2.2.2 _ ⟨q,hq,rfl⟩ _ ⟨x,hx,rfl⟩)
theorem Sel.l_mem{l r r':Lg}(p:Sel l r r'){q:Addr×Obj}(h:q∈l):q∈r:=p.perm.mem_iff.mpr (List.mem_append_left _ h)
theorem Sel.r_mem{l r r':Lg}(p:Sel l r r'){q:Addr×Obj}(h:q∈r'):q∈r:=p.perm.mem_iff.mpr (List.mem_append_right _ h)
theorem nd_app{l r:Lg}(a:(ads l).Nodup)(b:(ads r).Nodup)(c:∀q∈l,∀x∈r,q.1≠x.1):(ads (l++r)).Nodup:=by
 simp only[ads,List.map_append,List.nodup_append,List.mem_map]
 exact mkAA a b (by rintro _ ⟨q,hq,rfl⟩ _ ⟨x,hx,rfl⟩;exact c q hq x hx)
theorem nd_cons{x:Addr×Obj}{l:Lg}(a:(ads l).Nodup)(b:∀p∈l,p.1<x.1):(ads (x::l)).Nodup:=
 List.nodup_cons.mpr ⟨λh=>by refine elEA (λp hp e=>?_)<|List.mem_map.mp h;exact absurd (b p hp) (by rw[e];exact Nat.lt_irrefl _),a⟩
end Mine
namespace Mine
structure Moves(fs:List Addr)(e:Addr)(head:Value)(h h':Heap):Prop where
 keep:∀b o,h.get? b=some o->b≠e->head≠.ref b->(b∉fs->h'.get? b=some o)/\∃sl,h'.get? b=some {o with slots:=sl}
 size:h.objs.size<=h'.objs.size
section
variable{M:Model}{A:Around}{E:Value->Shared->Prop}{s:Shared}{env:Env}{outer:List Env}{L e C d:Addr}{a0 vs2 head:Value}{Q:Unit->Shared->Prop}
theorem entry_core{pend:Value}{hn:Bool}(hfr:A.frames=some (env::outer))(hl:s.heap.FunFrames e0 (env::outer))(hf:env.frame=some L)
 (he:s.heap.get? e=some (excO C d a0 head vs2))
 (hq:∀h' T oT ts,Moves (frs (env::outer)) e .none s.heap h'->h'.get? e=some (excO C d a0 (.ref T) vs2)->h'.get? T=some oT->oT.data=.fields ts->ts[3]?=some (rawInt L)->T≠e->s.heap.get? T=none->Q () {s with heap:=h'}):
 wpAny M A (do let a←frameOf env;let pl←entryPlaceOf L hn;let b←EntryCells.newEntry pend a .none (rawInt L) .none pl;setField (.ref e) 1 b) Q E s:=by
 have hene:e∉(env::outer).filterMap (·.frame):=λhm=>by
  refine elAEA (λ_ o ho hnf=>?_)<|hl.mem hm
  rw[he]at ho;injection ho with ho;subst ho;exact hnf _ rfl
 refine wpAny_bind (wpAny_frameOf_fun hfr hl hf λh₁ hs₁=>?_)
 refine wpAny_bind (wpAny_entryPlaceOf λpl hpl=>?_)
 unfold EntryCells.newEntry newFields
 refine wpAny_bind (wpAny_newObj_type ?_ (hpl.sizeOk5 _ _ _ _ _))
 have he₁:h₁.get? e=some (excO C d a0 head vs2):=(hs₁.2.1 e hene).trans he
 have he₂:=Heap.get?_push_of_some (h:=h₁) {cls:=.type "traceback",dict:=none,data:=.fields ([pend,.ref L,.none,rawInt L,.none]++(if pl.isEmpty then List.replicate 6 Value.none else pl)).toArray} he₁
 refine wpAny_setField he₂ rfl (by simp) ?_
 have hTe:h₁.objs.size≠e:=Nat.ne_of_gt (Heap.lt_size he₁)
 have hT:=Heap.get?_push_size (h:=h₁) (o:={cls:=.type "traceback",dict:=none,data:=.fields ([pend,.ref L,.none,rawInt L,.none]++(if pl.isEmpty then List.replicate 6 Value.none else pl)).toArray}) rfl
 refine hq _ h₁.objs.size _ _ ⟨λb o hb hbe _=>?_,?_⟩ ?_ ((Heap.get?_update_other _ _ (Ne.symm hTe)).trans hT) rfl (by simp) hTe ?_
 .have step:∀o',h₁.get? b=some o'->((h₁.push {cls:=.type "traceback",dict:=none,data:=.fields ([pend,.ref L,.none,rawInt L,.none]++(if pl.isEmpty then List.replicate 6 Value.none else pl)).toArray}).update e (Obj.mapFields (·.setIfInBounds 1 (Value.ref h₁.objs.size)))).get? b=some o':=λo' hb'=>by
   rw[Heap.get?_update_other _ _ (Ne.symm hbe)];exact Heap.get?_push_of_some _ hb'
  refine⟨λhfs=>step o ((hs₁.2.1 b hfs).trans hb),?_⟩
  obtain⟨sl,hsl⟩:=hs₁.2.2 b o hb
  exact⟨sl,step _ hsl⟩
 .rw[Heap.size_after_update,Heap.size_push,hs₁.1];exact Nat.le_succ _
 .exact Heap.get?_update_self _ he₂ rfl
 .exact Heap.get?_none_of_le (by rw[hs₁.1];exact Nat.le_refl _)
theorem moves_trans{fs:List Addr}{head head':Value}{h h₁ h₂:Heap}(x:Moves fs e head h h₁)(y:Moves fs e head' h₁ h₂)(hh:∀b o,h.get? b=some o->head≠.ref b->head'≠.ref b):Moves fs e head h h₂:=
 ⟨λb o hb he hn=>by
   refine elAE (λa1 sl a2=>?_)<|x.keep b o hb he hn
   refine⟨λhf=>(y.keep b o (a1 hf) he (hh b o hb hn)).1 hf,?_⟩
   refine elAE (λ_ sl' b2=>?_)<|y.keep b _ a2 he (hh b o hb hn)
   exact⟨sl',b2⟩,Nat.le_trans x.size y.size⟩
theorem note_core(hfr:A.frames=some (env::outer))(hl:s.heap.FunFrames e0 (env::outer))(hf:env.frame=some L)
 (he:s.heap.get? e=some (excO C d a0 head vs2))
 (hh:head=.none\/∃T oT ts,head=.ref T/\T≠e/\s.heap.get? T=some oT/\oT.data=.fields ts/\ts[3]?=some .none)
 (hq:∀h' T oT ts,Moves (frs (env::outer)) e head s.heap h'->h'.get? e=some (excO C d a0 (.ref T) vs2)->h'.get? T=some oT->oT.data=.fields ts->ts[3]?=some (rawInt L)->T≠e->s.heap.get? T=none->Q () {s with heap:=h'}):
 wpAny M A (noteFrame (.ref e) env) Q E s:=by
 unfold noteFrame
 simp only[hf]
 refine wpAny_bind (wpAny_field (x:=head) he rfl (i:=1) rfl ?_)
 rcases hh with rfl|⟨T,oT,ts,rfl,hTe,hT,hdT,h3⟩
 .rw[if_neg (by decide)]
  exact entry_core hfr hl hf he hq
 .rw[if_pos (show(Value.ref T !=Value.none)=true from by simp)]
  refine wpAny_bind (wpAny_field hT hdT h3 ?_)
  rw[if_neg (show¬((Value.none==rawInt L)=true)from by simp[rawInt])]
  refine wpAny_bind (wpAny_setField hT hdT (Array.getElem?_eq_some_iff.mp h3).1 ?_)
  have other:∀b,b≠T->(s.heap.update T (Obj.mapFields (·.setIfInBounds 3 Value.none))).get? b=s.heap.get? b:=λb hb=>Heap.get?_update_other _ _ (Ne.symm hb)
  have noRecord:∀b o,s.heap.get? b=some o->(∀vs,o.data≠.fields vs)->b≠T:=λb o hb hnf q=>by
   rw[q,hT]at hb;injection hb with hb;subst hb;exact hnf ts hdT
  have m1:Moves (frs (env::outer)) e (.ref T) s.heap (s.heap.update T (Obj.mapFields (·.setIfInBounds 3 Value.none))):=
   ⟨λb o hb _ hn=>by
     have:b≠T:=λq=>hn (by rw[q])
     exact⟨λ_=>(other b this).trans hb,o.slots,(other b this).trans hb⟩,by rw[Heap.size_after_update];exact Nat.le_refl _⟩
  refine entry_core hfr (hl.of_keeps λb o hb hnf=>⟨o,(other b (noRecord b o hb hnf)).trans hb,rfl⟩) hf ((other e (Ne.symm hTe)).trans he) λh' T' oT' ts' m he' hT' hd' h3' hne hnew=>?_
  refine hq h' T' oT' ts' (moves_trans m1 m λ_ _ _ _ q=>by cases q) he' hT' hd' h3' hne ?_
  rcases hx:s.heap.get? T' with _|o
  .rfl
  .exfalso
   by_cases q:T'=T
   .subst q
    have:=Heap.lt_size hT
    have h5:(s.heap.update T' (Obj.mapFields (·.setIfInBounds 3 Value.none))).get? T'≠none:=by
     rw[Heap.get?_update_self _ hT (Obj.isFreed_of_fields (Obj.data_mapFields hdT _))];simp
    exact h5 hnew
   .rw[other T' q,hx]at hnew;cases hnew
theorem flight_core{T:Addr}{oT:Obj}{ts:Array Value}{x:Value}(he:s.heap.get? e=some (excO C d a0 (.ref T) vs2))(hT:s.heap.get? T=some oT)(hdT:oT.data=.fields ts)(h3:ts[3]?=some x)(hTe:T≠e)
 (hq:∀h' oT' ts',(∀b,b≠T->h'.get? b=s.heap.get? b)->h'.objs.size=s.heap.objs.size->h'.get? T=some oT'->oT'.data=.fields ts'->ts'[3]?=some .none->Q () {s with heap:=h'}):
 wpAny M A (setFlight (.ref e) none) Q E s:=by
 unfold setFlight
 refine wpAny_bind (wpAny_field (x:=.ref T) he rfl (i:=1) rfl ?_)
 rw[if_pos (show(Value.ref T !=Value.none)=true from by simp)]
 have hlt:=(Array.getElem?_eq_some_iff.mp h3).1
 refine wpAny_setField hT hdT hlt (hq _ _ _ (λb hb=>Heap.get?_update_other _ _ (Ne.symm hb)) (Heap.size_after_update ..) (Heap.get?_update_self _ hT (Obj.isFreed_of_fields (Obj.data_mapFields hdT _))) (Obj.data_mapFields hdT _) ?_)
 simp[hlt]
theorem leave_core(hfr:A.frames=some (env::outer))(hl:s.heap.FunFrames e0 (env::outer))(hf:env.frame=some L)
 (he:s.heap.get? e=some (excO C d a0 head vs2))
 (hh:head=.none\/∃T oT ts,head=.ref T/\T≠e/\s.heap.get? T=some oT/\oT.data=.fields ts/\ts[3]?=some .none)
 (hq:∀h' T oT ts,Moves (frs (env::outer)) e head s.heap h'->h'.get? e=some (excO C d a0 (.ref T) vs2)->h'.get? T=some oT->oT.data=.fields ts->ts[3]?=some .none->T≠e->s.heap.get? T=none->Q () {s with heap:=h'}):
 wpAny M A (leaving env (.ref e)) Q E s:=by
 unfold leaving
 refine wpAny_bind (note_core hfr hl hf he hh λh' T oT ts m he' hT hd h3 hTe hnew=>?_)
 refine flight_core he' hT hd h3 hTe λh₂ oT₂ ts₂ ho hsz hT₂ hd₂ h32=>?_
 refine hq h₂ T oT₂ ts₂ ⟨λb o hb hbe hn=>?_,Nat.le_trans m.size (Nat.le_of_eq hsz.symm)⟩ ((ho e (Ne.symm hTe)).trans he') hT₂ hd₂ h32 hTe hnew
 have hbT:b≠T:=λq=>by rw[q,hnew]at hb;cases hb
 rw[ho b hbT]
 exact m.keep b o hb hbe hn
end
end Mine
namespace Mine
structure XIn(g:Heap)(L:Addr)(m:Str->Option Value)(env:Env)(outer:List Env)(h:Heap)(e C:Addr)(c:Int)(l:Lg):Prop where
 nd:(ads l).Nodup
 ns:h.Ns L m
 above:g.objs.size<=L
 keep:∀b o,g.get? b=some o->(b∉frs outer->h.get? b=some o)/\∃sl,h.get? b=some {o with slots:=sl}
 led:∀q∈l,h.get? q.1=some q.2/\g.get? q.1=none/\q.1≠L/\∀vs,q.2.data≠.fields vs
 frames:h.FunFrames e0 (env::outer)
 gframes:g.FunFrames e0 outer
 exc:Flies g h e C c (L::l.map (·.1))
theorem frames_e0{h base:Heap}:∀{l:List Env},h.FunFrames base l->h.FunFrames e0 l
 |[],_=>trivial
 |_::_,⟨a,⟨L,o,b,_,c,d⟩,r⟩=>mkAA a ⟨L,o,b,rfl,c,d⟩ (frames_e0 r)
theorem ns_slots{h h':Heap}{L:Addr}{m:Str->Option Value}(n:h.Ns L m)(k:∀o,h.get? L=some o->∃sl,h'.get? L=some {o with slots:=sl}):h'.Ns L m:=by
 refine elEEEAA (λo es ep ho hd r=>?_) n;clear n
 obtain⟨sl,hs⟩:=k o ho
 exact mkEEEAA _ es ep hs hd r
theorem frames_mem{h:Heap}{l:List Env}(hl:h.FunFrames e0 l){b:Addr}(hb:b∈frs l):∃o,h.get? b=some o/\∀vs,o.data≠.fields vs:=(hl.mem hb).2
theorem frames_not{g:Heap}{l:List Env}(hl:g.FunFrames e0 l){b:Addr}(hb:g.get? b=none):b∉frs l:=λhm=>by
 refine elEA (λo ho _=>?_)<|frames_mem hl hm
 rw[hb]at ho;cases ho
theorem frs_cons{env:Env}{outer:List Env}{L:Addr}(hf:env.frame=some L):frs (env::outer)=L::frs outer:=by simp[frs,hf]
section
variable{M:Model}{A:Around}{E:Value->Shared->Prop}{s:Shared}{g:Heap}{env:Env}{outer:List Env}{L e C:Addr}{c:Int}{m:Str->Option Value}{l:Lg}{Q:Unit->Shared->Prop}
theorem leave_x(hfr:A.frames=some (env::outer))(hf:env.frame=some L)(X:XIn g L m env outer s.heap e C c l)
 (hq:∀h',XHas g outer h' e C c l->Q () {s with heap:=h'}):wpAny M A (leaving env (.ref e)) Q E s:=by
 refine elEEEEEEEAAAAAA (λd head a0 vs2 es n tk he hd hc hh ge gd dl=>?_)<|X.exc
 refine leave_core hfr X.frames hf he (hh.imp id λq=>by obtain⟨T,oT,ts,a,b,c,d,e,_⟩:=q;exact⟨T,oT,ts,a,b,c,d,e⟩) λh' T oT ts mv he' hT hdT h3 hTe hnew=>hq h' ?_
 have hfs:=frs_cons (outer:=outer) hf
 have nh:∀b o,s.heap.get? b=some o->(∀vs,o.data≠.fields vs)->head≠.ref b/\b≠e:=λb o hb hn=>by
  refine⟨λq=>?_,λq=>?_⟩
  .rcases hh with rfl|⟨T',oT',ts',rfl,_,hT',hd',_⟩
   .cases q
   .cases q;rw[hT']at hb;injection hb with hb;subst hb;exact hn _ hd'
  .subst q;rw[he]at hb;injection hb with hb;subst hb;exact hn _ rfl
 have dnf:=nh d _ hd (λvs q=>by cases q)
 have gT:g.get? T=none:=by
  rcases q:g.get? T with _|o
  .rfl
  .refine elAE (λ_ sl k=>?_)<|X.keep T o q
   rw[hnew]at k;cases k
 have old:∀b o,g.get? b=some o->b≠L/\b≠e/\head≠.ref b:=λb o hb=>by
  refine mkAA (Nat.ne_of_lt (Nat.lt_of_lt_of_le (Heap.lt_size hb) X.above)) (λq=>?_) (λq=>?_)
  .subst q;rw[ge]at hb;cases hb
  .rcases hh with rfl|⟨T',oT',ts',rfl,_,_,_,_,gT⟩
   .cases q
   .cases q;rw[gT]at hb;cases hb
 refine⟨X.nd,λb o hb=>?_,?_,λq hq=>?_,?_⟩
 .refine elAA (λbL be bh=>?_)<|old b o hb
  refine elAE (λk1 sl k2=>?_)<|X.keep b o hb
  refine elAE (λ_ sl' j2=>?_)<|mv.keep b _ k2 be bh
  exact⟨λnf=>(mv.keep b o (k1 nf) be bh).1 (by rw[hfs];simp[bL,nf]),sl',j2⟩
 .refine elEEEA (λoL _ _ hL _=>?_)<|X.ns
  exact Nat.le_trans X.above (Nat.le_trans (Nat.le_of_lt (Heap.lt_size hL)) mv.size)
 .refine elAAA (λq1 q2 q3 q4=>?_)<|X.led q hq
  obtain⟨n1,n2⟩:=nh q.1 _ q1 q4
  refine mkAA ((mv.keep q.1 q.2 q1 n2 n1).1 ?_) q2 q4
  rw[hfs]
  exact λhm=>(List.mem_cons.mp hm).elim q3 (frames_not X.gframes q2)
 .refine mkEEEEEEEAAAAAA d (.ref T) a0 vs2 es n tk he' ?_ hc (.inr ⟨T,oT,ts,rfl,hTe,hT,hdT,h3,gT⟩) ge gd (λhm=>dl (List.mem_cons_of_mem _ hm))
  refine(mv.keep d _ hd dnf.2 dnf.1).1 ?_
  rw[hfs]
  exact λhm=>(List.mem_cons.mp hm).elim (λq=>dl (by rw[q];exact List.mem_cons_self ..)) (frames_not X.gframes gd)
end
section
variable{prog:Program}{w:World}{K:Frag}{D D':Nat}{g:Heap}{outer:List Env}{p:Program}{loose:List Str}{mean:ExcName->Option Value}{mg mb:Str->Option Value}{s:Shared}{l news rest:Lg}
 {E:Value->Shared->Prop}{L:Addr}{m:Str->Option Value}{env:Env}{f:Value}{vs:List Value}{Q:Value->Shared->Prop}{P:Value->Lg->Prop}{X:Addr->Int->Lg->Prop}
theorem use_core{A A0:Around}{base:Heap}(S:Spec K prog w D' f vs l P X)(hA:A.frames=some (env::outer))(hh:A.handled=none)(hD:A.depth<=D')(hU:A.units<=10*D')(hf:env.frame=some L)(hk:env.scope.kind=.function)
 (B:Below A0 base outer g)(F:Fr g L s.heap m)(X₀:K.In g)(T:Top p loose mean mg mb g)(N:News g L s.heap news)(ND:(ads news).Nodup)
 (rest rx:Lg)(hrx:List.Sublist rx rest)(hl:Sel l news rest)(hnf:∀C c l',X C c l'->∀q∈rx,∀vs,q.2.data≠.fields vs)
 (hex:∀e C c l' h' tk,X C c l'->XIn g L m env outer h' e C c (l'++rx)->E (.ref e) {s with heap:=h',toks:=tk})
 (hok:∀v l' h' tk,P v l'->Fr g L h' m->News g L h' (l'++rest)->(ads (l'++rest)).Nodup->Q v {s with heap:=h',toks:=tk}):
 wpAny (model prog w) A (call f vs) Q E s:=by
 refine elAA (λndl ndr dis=>?_)<|hl.nd ND
 have BF:g.FunFrames e0 outer:=frames_e0 B.frames
 have nm:∀b o,g.get? b=some o->b∉l.map (·.1):=λb o e q=>by
  refine elEA (λp hp r1=>?_)<|List.mem_map.mp q;subst r1
  rw[(N p (hl.l_mem hp)).2.2]at e;cases e
 have st:g.StaysIn (hideAll s.heap (l.map (·.1))):=λb o e=>hideAll_get _ (F.keep b o e) (nm b o e)
 refine elEEEAA (λoL es ep hL hLd hLr=>?_)<|F.ns
 have nL:L∉l.map (·.1):=λq=>by
  refine elEA (λp hp e=>?_)<|List.mem_map.mp q
  exact(N p (hl.l_mem hp)).2.1 e
 have hLg:=hideAll_get (l.map (·.1)) hL nL
 have rg:∀q∈rest,(hideAll s.heap (l.map (·.1))).get? q.1=some q.2:=λq hq=>hideAll_get _ (N q (hl.r_mem hq)).1 λhm=>by
  refine elEA (λr hr' e=>?_)<|List.mem_map.mp hm
  exact dis r hr' q hq e
 have gf:(hideAll s.heap (l.map (·.1))).FunFrames e0 (env::outer):=
  ⟨by rw[hk];decide,⟨L,oL,hf,e0_none L,hLg,λvs q=>by rw[hLd]at q;cases q⟩,BF.of_keeps λb o hb _=>⟨o,st b o hb,rfl⟩⟩
 have Xc:K.In (hideAll s.heap (l.map (·.1))):=Frag.In.keeps X₀ st
 have Tc:Top p loose mean mg mb (hideAll s.heap (l.map (·.1))):=Top.keeps T st
 refine wpAny_call (code_weaken (D:=D') (outer:=env::outer) (S (hideAll s.heap (l.map (·.1))) _ p loose mean mg mb s _ ⟨rfl,e0_stays _,gf⟩ Xc Tc
  ⟨ndl,λb o e=>of_hideAll _ e,Nat.le_of_eq (hideAll_size _ _),λq hq=>⟨(N q (hl.l_mem hq)).1,hideAll_none _ (List.mem_map_of_mem hq)⟩⟩ (λv l' h' tk hp H=>?_) λe C c l' h' tk hx H=>?_) hh hD hU hA)
 .have kg:∀b o,g.get? b=some o->h'.get? b=some o:=λb o e=>H.keep b o (st b o e)
  refine hok v l' h' tk hp ⟨⟨oL,es,ep,H.keep L oL hLg,hLd,hLr⟩,kg,F.above⟩ (λq hq=>?_) (nd_app H.nd ndr λq hq r hr' e=>?_)
  .rcases List.mem_append.mp hq with hq|hq
   .obtain⟨q1,q2⟩:=H.led q hq
    refine mkAA q1 (λe=>by rw[e,hLg]at q2;cases q2) ?_
    rcases z:g.get? q.1 with _|o
    .rfl
    .rw[st _ _ z]at q2;cases q2
   .exact⟨H.keep _ _ (rg q hq),(N q (hl.r_mem hq)).2⟩
  .have:=(H.led q hq).2
   rw[e,rg r hr']at this;cases this
 .have up:∀{b},(hideAll s.heap (l.map (·.1))).get? b=none->g.get? b=none:=λ{b} q2=>by
   rcases z:g.get? b with _|o
   .rfl
   .rw[st _ _ z]at q2;cases q2
  have hfs:frs (env::outer)=L::frs outer:=frs_cons hf
  refine hex e C c l' h' tk hx ⟨nd_app H.nd (ndr.sublist (hrx.map _)) λq hq r hr' e=>?_,ns_slots (h:=hideAll s.heap (l.map (·.1))) ⟨oL,es,ep,hLg,hLd,hLr⟩ λo ho=>(H.keep L o ho).2,F.above,λb o hb=>?_,λq hq=>?_,?_,BF,?_⟩
  .have:=(H.led q hq).2.1
   rw[e,rg r (hrx.subset hr')]at this;cases this
  .obtain⟨k1,k2⟩:=H.keep b o (st b o hb)
   refine⟨λnf=>k1 ?_,k2⟩
   rw[hfs]
   exact λhm=>(List.mem_cons.mp hm).elim (Nat.ne_of_lt (Nat.lt_of_lt_of_le (Heap.lt_size hb) F.above)) nf
  .rcases List.mem_append.mp hq with hq|hq
   .refine elAA (λq1 q2 q3=>?_)<|H.led q hq
    exact mkAAA q1 (up q2) (λe=>by rw[e,hLg]at q2;cases q2) q3
   .have gn:=(N q (hl.r_mem (hrx.subset hq))).2
    refine mkAAA ((H.keep _ _ (rg q (hrx.subset hq))).1 ?_) gn.2 gn.1 (hnf C c l' hx q hq)
    rw[hfs]
    exact λhm=>(List.mem_cons.mp hm).elim gn.1 (frames_not BF gn.2)
  .exact gf.of_keeps λb o hb _=>by
    refine elAE (λ_ sl k=>?_)<|H.keep b o hb
    exact⟨_,k,rfl⟩
  .refine elEEEEEEEAAAAAA (λd head a0 vs2 es' n tk' x1 x2 x3 x4 x5 x6 x7=>?_)<|H.exc
   refine⟨d,head,a0,vs2,es',n,tk',x1,x2,x3,x4.imp id (λq=>by obtain⟨T,oT,ts,y1,y2,y3,y4,y5,y6⟩:=q;exact⟨T,oT,ts,y1,y2,y3,y4,y5,up y6⟩),up x5,up x6,λhm=>?_⟩
   rcases List.mem_cons.mp hm with z|z
   .rw[z,hLg]at x6;cases x6
   .rw[List.map_append]at z
    rcases List.mem_append.mp z with z|z
    .exact x7 z
    .refine elEA (λr hr' e'=>?_)<|List.mem_map.mp z
     rw[←e',rg r (hrx.subset hr')]at x6;cases x6
theorem use{A A0:Around}{base:Heap}(S:Spec K prog w D' f vs l P X)(hA:A.frames=some (env::outer))(hh:A.handled=none)(hD:A.depth<=D')(hU:A.units<=10*D')(hf:env.frame=some L)(hk:env.scope.kind=.function)
 (B:Below A0 base outer g)(F:Fr g L s.heap m)(X₀:K.In g)(T:Top p loose mean mg mb g)(N:News g L s.heap news)(ND:(ads news).Nodup)
 (rest:Lg)(hl:Sel l news rest)(hnf:∀C c l',X C c l'->∀q∈rest,∀vs,q.2.data≠.fields vs)
 (hex:∀e C c l' h' tk,X C c l'->XIn g L m env outer h' e C c (l'++rest)->E (.ref e) {s with heap:=h',toks:=tk})
 (hok:∀v l' h' tk,P v l'->Fr g L h' m->News g L h' (l'++rest)->(ads (l'++rest)).Nodup->Q v {s with heap:=h',toks:=tk}):
 wpAny (model prog w) A (call f vs) Q E s:=
 use_core S hA hh hD hU hf hk B F X₀ T N ND rest rest (List.Sublist.refl _) hl hnf hex hok
theorem news_perm{h:Heap}{l l':Lg}(N:News g L h l)(p:List.Perm l l'):News g L h l':=λq hq=>N q (p.mem_iff.mpr hq)
theorem nd_perm{l l':Lg}(N:(ads l).Nodup)(p:List.Perm l l'):(ads l').Nodup:=(p.map _).nodup_iff.mp N
theorem Has.perm{h:Heap}{l l':Lg}(H:Has g h l)(p:List.Perm l l'):Has g h l':=⟨nd_perm H.nd p,H.keep,H.size,λq hq=>H.led q (p.mem_iff.mpr hq)⟩
theorem Spec.frame(S:Spec K prog w D f vs l P (λ_ _ _=>False)){r:Lg}(hl:Sel l news r):Spec K prog w D f vs news (λv l''=>∃l',P v l'/\l''=l'++r) (λ_ _ _=>False):=by
 intro g outer p loose mean mg mb s R B X T H hok hex
 refine elAA (λndl ndr dis=>?_)<|hl.nd H.nd
 have nm:∀b o,g.get? b=some o->b∉l.map (·.1):=λb o e q=>by
  refine elEA (λp hp r2=>?_)<|List.mem_map.mp q;subst r2
  rw[(H.led p (hl.l_mem hp)).2]at e;cases e
 have st:g.StaysIn (hideAll s.heap (l.map (·.1))):=λb o e=>hideAll_get _ (H.keep b o e) (nm b o e)
 have rg:∀q∈r,(hideAll s.heap (l.map (·.1))).get? q.1=some q.2:=λq hq=>hideAll_get _ (H.led q (hl.r_mem hq)).1 λhm=>by
  refine elEA (λx hx e=>?_)<|List.mem_map.mp hm
  exact dis x hx q hq e
 have Xc:K.In (hideAll s.heap (l.map (·.1))):=Frag.In.keeps X st
 have Tc:Top p loose mean mg mb (hideAll s.heap (l.map (·.1))):=Top.keeps T st
 refine S (hideAll s.heap (l.map (·.1))) outer p loose mean mg mb s R ⟨rfl,e0_stays _,B.frames.of_keeps λb o hb _=>⟨o,st b o hb,rfl⟩⟩ Xc Tc
  ⟨ndl,λb o e=>of_hideAll _ e,Nat.le_of_eq (hideAll_size _ _),λq hq=>⟨(H.led q (hl.l_mem hq)).1,hideAll_none _ (List.mem_map_of_mem hq)⟩⟩ (λv l' h' tk hp H'=>?_) λe C c l' h' tk hx _=>hx.elim
 refine hok v (l'++r) h' tk ⟨l',hp,rfl⟩ ⟨nd_app H'.nd ndr λq hq x hx e=>?_,λb o e=>H'.keep b o (st b o e),?_,λq hq=>?_⟩
 .have:=(H'.led q hq).2
  rw[e,rg x hx]at this;cases this
 .exact Nat.le_trans H.size (Nat.le_trans (Nat.le_of_eq (hideAll_size _ _).symm) H'.size)
 .rcases List.mem_append.mp hq with hq|hq
  .obtain⟨q1,q2⟩:=H'.led q hq
   refine⟨q1,?_⟩
   rcases z:g.get? q.1 with _|o
   .rfl
   .rw[st _ _ z]at q2;cases q2
  .exact⟨H'.keep _ _ (rg q hq),(H.led q (hl.r_mem hq)).2⟩
theorem Spec.post(S:Spec K prog w D f vs l P X){P':Value->Lg->Prop}(h:∀v l',P v l'->∃l'',P' v l''/\List.Perm l' l''):Spec K prog w D f vs l P' X:=by
 intro g outer p loose mean mg mb s R B X T H hok hex
 exact S g outer p loose mean mg mb s R B X T H (λv l' h' tk hp H'=>let⟨l'',a,b⟩:=h v l' hp;hok v l'' h' tk a (H'.perm b)) hex
theorem Spec.exc(S:Spec K prog w D f vs l P X){X':Addr->Int->Lg->Prop}(h:∀C c l',X C c l'->X' C c l'):Spec K prog w D f vs l P X':=by
 intro g outer p loose mean mg mb s R B XK T H hok hex
 exact S g outer p loose mean mg mb s R B XK T H hok λe C c l' h' tk hx=>hex e C c l' h' tk (h C c l' hx)
end
end Mine
namespace Mine
section
variable{prog:Program}{w:World}{A:Around}{E:Value->Shared->Prop}{s:Shared}{K:Frag}{e C d:Addr}{a0 tb vs2 v:Value}{name:Str}{es:List DictEntry}{n:Nat}{h:Heap}{g:Array GenState}{dr:Drawn}{t:Nat}{os:OsState}
theorem subBase{M:Model}(X:K.In h)(I:InstAt h e (excO C d a0 tb vs2) C (some (dictOf es n)))(hm:mroIn K C (.type "BaseException")=some true):Looks M h (isInstance (.ref e) (.type "BaseException")) true:=
 (InstAt.type I).andThen (looks_mroIn X hm)
theorem exc_get{expr:Bool}{Q:Value->Shared->Prop}(X:K.In h)(I:InstAt h e (excO C d a0 tb vs2) C (some (dictOf es n)))
 (hm:mroIn K C (.type "BaseException")=some true)(hga:findIn K (.ref C) "__getattribute__"=some (some (.builtin "BaseException.__getattribute__")))(hgt:findIn K (.ref C) "__getattr__"=some none)
 (hf:findObj K C (some (dictOf es n)) name=some (.value v))(hh:handedIn v=true)(hq:Q v ⟨h,g,dr,t+1,os⟩):
 wpAny (model prog w) A (getAttr (.ref e) name expr) Q E ⟨h,g,dr,t,os⟩:=by
 have FB:=F.excAttr_ValueError
 have f3:=FB.ga.bind (.ref e)
 have hx0:(expr&&onTheHeap (Value.builtin "BaseException.__getattribute__"))=false:=by cases expr<;>rfl
 have hx2:(Value.builtin "BaseException.__getattribute__"==Value.builtin "object.__getattribute__")=false:=by decide+kernel
 have hx1:(onTheHeap (Value.ref C)&&Value.builtin "BaseException.__getattribute__"==Value.builtin "object.__getattribute__")=false:=by rw[hx2];rfl
 have L0:=I.type (M:=model prog w)
 have L1:=looks_findIn (M:=model prog w) X hga
 have L2:=looks_findIn (M:=model prog w) X hgt
 have L3:=looks_find (M:=model prog w) X I hf
 have L4:=subBase (M:=model prog w) X I hm
 unfold getAttr getAttrBy
 refine wpAny_bind (wpAny_mkText (wpAny_holding (wpAny_bind (L0.at (wpAny_bind (L1.at ?_))))))
 simp only[hx1,Bool.false_eq_true,if_false]
 unfold getAttrByItsOwn hookBefore
 repeat(first|lk|simp only[hx0,Bool.false_eq_true,if_false])
 refine wpAny_attempt (m:=holding (none:Option Value).toList (callGetattribute (Value.ref e) (Value.str name t) (Value.builtin "BaseException.__getattribute__") expr)) (wpAny_holding ?_)
 unfold callGetattribute
 rw[if_neg (by rw[hx0];decide)]
 unfold boundAndCalled
 rw[f3]
 refine wpAny_bind (wpAny_pure (wpAny_call (codeAny_call_builtin FB.ga.plain F.entry_bexc_ga (@check_slot (model prog w) _ _ _ "BaseException.__getattribute__" "BaseException" "__getattribute__" (.ref e) [.str name t] [] _ (by decide+kernel) (by decide+kernel) L4 (F.args_bexc_ga (.ref e) (.str name t)) ?_))))
 unfold Builtin.«object.__getattribute__»
 repeat lk
 show wpAny _ _ (handedOut v) _ _ _
 rw[handedOut_of hh];exact wpAny_pure hq
def excTail:List Value:=[.type "Exception",.type "BaseException",.type "object"]
def isRefV:Value->Bool
 |.ref _=>true
 |_=>false
theorem isRefV_of{v:Value}(h:isRefV v=true):∃a,v=.ref a:=by
 cases v<;>first|exact⟨_,rfl⟩|exact absurd h Bool.false_ne_true
def refsThen:List Value->Bool
 |[]=>false
 |v::r=>if isRefV v then refsThen r else(v::r)==excTail
theorem refuse_refs(self:Value){l:List Value}(h:refsThen l=true)(_:Builtin.ObjectAttr.refuseIfOverridden=Builtin.ObjectAttr.refuseIfOverridden):refuseLoop self "__setattr__" l=pure ():=by
 induction l with
 |nil=>cases h
 |cons v r ih=>
  unfold refsThen at h
  by_cases q:isRefV v=true
  .obtain⟨a,rfl⟩:=isRefV_of q
   rw[refuseLoop_ref];exact ih (by simpa[q]using h)
  .rw[if_neg q]at h
   rw[beq_iff_eq.mp h];exact PySem.F.store_Exception.passes self
def exOk(cd:ClassData):Bool:=refsThen cd.mro&&cd.hasDict&&cd.mro.contains (.type "object")&&!cd.mro.isEmpty
theorem putL_len(name:Str)(hsh:Int)(key v:Value):∀es:List DictEntry,(putL name hsh key v es).length<=es.length+1
 |[]=>by simp[putL]
 |e::r=>by
  have ih:=putL_len name hsh key v r
  unfold putL
  split<;>simp<;>omega
theorem dict_store{tk:Tok}{Q:Fin->Shared->Prop}(hd:h.get? d=some (dictOf es n))(hl:(getL name es).isSome=true)(hz:es.length<=1000)
 (hq:∀h',Heap.SameBut d h h'->h'.get? d=some (dictOf (putL name (PyData.keyHash w.params name) (.str name t) v es) (putN name es n))->Q (.done (.ret .none)) ⟨h',g,dr,t+1,os⟩):
 wpAny (model prog w) A (Builtin.ObjectAttr.storeInDict d (.str name tk) name v) Q E ⟨h,g,dr,t,os⟩:=by
 unfold Builtin.ObjectAttr.storeInDict Builtin.ObjectAttr.newKeyGuard nsSet
 refine wpAny_bind (wpAny_pure (wpAny_bind (wpAny_bind (wpAny_bind (wpAny_askSetting (wpAny_pure (wpAny_bind (wpAny_mkText (wpAny_bind (wpAny_loadPart hd ?_))))))))))
 dsimp only
 have c:(!es.toArray.any (·.key.isStr name)&&es.toArray.any (·.refKey))=false:=by
  simp only[List.any_toArray]
  unfold getL at hl
  split at hl
  .rename_i en he
   rw[List.any_eq_true.mpr ⟨en,List.mem_of_find?_eq_some he,List.find?_some he⟩];rfl
  .split at hl
   .cases hl
   .rename_i z;rw[Bool.not_eq_true]at z;rw[z,Bool.and_false]
 rw[aRefKeyMayBeTheName_at,c]
 have e1:=putName_dict name (PyData.keyHash w.params name) (.str name t) v es n
 have hup:(h.update d (Obj.putName name (PyData.keyHash w.params name) (.str name t) v)).get? d=some (dictOf (putL name (PyData.keyHash w.params name) (.str name t) v es) (putN name es n)):=by
  rw[←e1];exact Heap.get?_update_self _ hd (by rw[e1];rfl)
 refine wpAny_updatePart hd ?_
 refine wpAny_bind (wpAny_lookBehind hup (pastItsLine_dict (by
  have:(putL name (PyData.keyHash w.params name) (.str name t) v es).length<=es.length+1:=putL_len ..
  rw[List.size_toArray,sizeLine_eq];omega)) ?_)
 exact wpAny_pure (hq _ (Heap.SameBut.update ..) hup)
theorem exc_store_on{dct:Option Addr}{vs:Array Value}{tk:Tok}{R:Result->Shared->Prop}(X:K.In h)(he:h.get? e=some ⟨.ref C,dct,.fields vs,#[]⟩){cd:ClassData}(hcd:clsIn K C=some cd)(ho:exOk cd=true)(hna:findIn K (.ref C) name=some none)
 (h1:∀A A₂,match dct with
   |some d=>wpAny (model prog w) A (Builtin.ObjectAttr.storeInDict d (.str name tk) name v) (λfin s'=>match fin with|.done f=>R (.ok f) s'|.again c'=>c'.quiet=true/\codeAny (model prog w) A₂ c' R s') (λe s'=>R (.error e) s') ⟨h,g,dr,t,os⟩
   |none=>wpAny (model prog w) A (Builtin.ObjectAttr.storeInDict h.objs.size (.str name tk) name v) (λfin s'=>match fin with|.done f=>R (.ok f) s'|.again c'=>c'.quiet=true/\codeAny (model prog w) A₂ c' R s') (λe s'=>R (.error e) s')
     ⟨(h.push emptyDict).update e (λo=>{o with dict:=some h.objs.size}),g,dr,t,os⟩):
 codeAny (model prog w) A (.call (.builtin "object.__setattr__") ⟨[.ref e,.str name tk,v],[]⟩) R ⟨h,g,dr,t,os⟩:=by
 have SF:=PySem.F.store_object
 simp only[exOk,Bool.and_eq_true,Bool.not_eq_true']at ho
 obtain⟨⟨⟨o1,o2⟩,o3⟩,ne⟩:=ho
 have T:Looks (model prog w) h (typeOf (.ref e)) (.ref C):=(Looks.ld he).andThen .now
 have sub:Looks (model prog w) h (isInstance (.ref e) (.type "object")) true:=T.andThen (looks_mroIn X (by unfold mroIn;rw[hcd,Option.bind_some,if_neg (by rw[ne];decide),o3]))
 refine codeAny_call_builtin SF.slot.plain SF.entry (@check_slot (model prog w) _ _ ⟨h,g,dr,t,os⟩ "object.__setattr__" "object" "__setattr__" (.ref e) [.str name tk,v] [] _ SF.kind SF.split sub (SF.args (.ref e) (.str name tk) v) ?_)
 have hm:Looks (model prog w) h (mroOf (.ref C)) cd.mro:=(looks_clsIn X hcd).andThen .now
 have L2:=looks_findIn (M:=model prog w) X hna
 rw[osa_eq,refuse_eq]
 refine wpAny_bind (wpAny_bind (T.at (wpAny_bind (hm.at ?_))))
 rw[refuse_refs _ o1 rfl]
 refine wpAny_pure (wpAny_bind (T.at (wpAny_bind (L2.at ?_))))
 refine wpAny_bind (wpAny_pure ?_)
 dsimp only
 unfold Builtin.ObjectAttr.storeInOwnDict
 refine wpAny_bind (wpAny_pure ?_)
 rw[if_neg (by simp)]
 unfold Builtin.ObjectAttr.ownDictForStores instanceDict
 refine wpAny_bind (wpAny_bind (wpAny_loadPart he ?_))
 dsimp only
 refine wpAny_bind ((looks_clsIn X hcd).at ?_)
 rw[o2]
 rcases dct with _|d
 .dsimp only
  rw[if_neg (by simp)]
  refine wpAny_bind (wpAny_alloc ?_)
  refine wpAny_bind (wpAny_update (Heap.get?_push_of_some _ he) ?_)
  exact wpAny_pure (h1 _ _)
 .exact wpAny_pure (h1 _ _)
theorem exc_store0{vs:Array Value}{tk:Tok}{R:Result->Shared->Prop}(X:K.In h)(he:h.get? e=some ⟨.ref C,none,.fields vs,#[]⟩){cd:ClassData}(hcd:clsIn K C=some cd)(ho:exOk cd=true)(hna:findIn K (.ref C) name=some none)
 (hq:∀h',(∀b o,b≠e->h.get? b=some o->h'.get? b=some o)->h.objs.size<h'.objs.size->h'.get? e=some ⟨.ref C,some h.objs.size,.fields vs,#[]⟩->
   h'.get? h.objs.size=some (dictOf [⟨PyData.keyHash w.params name,.str name t,v⟩] 1)->R (.ok (.ret .none)) ⟨h',g,dr,t+1,os⟩):
 codeAny (model prog w) A (.call (.builtin "object.__setattr__") ⟨[.ref e,.str name tk,v],[]⟩) R ⟨h,g,dr,t,os⟩:=by
 refine exc_store_on X he hcd ho hna λA A₂=>?_
 have hes:e≠h.objs.size:=Nat.ne_of_lt (Heap.lt_size he)
 have he1:(h.push emptyDict).get? e=some ⟨.ref C,none,.fields vs,#[]⟩:=Heap.get?_push_of_some _ he
 refine dict_store (es:=[]) (n:=0) ?_ rfl (by simp) λh' sb hd'=>hq h' (λb o hb hbo=>?_) ?_ ?_ hd'
 .rw[Heap.get?_update_other _ _ hes];exact Heap.get?_push_size _ rfl
 .rw[sb.2 b (Nat.ne_of_lt (Heap.lt_size hbo)),Heap.get?_update_other _ _ (Ne.symm hb)];exact Heap.get?_push_of_some _ hbo
 .rw[sb.1,Heap.size_after_update,Heap.size_push];exact Nat.lt_succ_self _
 .rw[sb.2 e hes];exact Heap.get?_update_self _ he1 rfl
theorem exc_store1{vs:Array Value}{tk:Tok}{R:Result->Shared->Prop}(X:K.In h)(he:h.get? e=some ⟨.ref C,some d,.fields vs,#[]⟩){cd:ClassData}(hcd:clsIn K C=some cd)(ho:exOk cd=true)(hna:findIn K (.ref C) name=some none)
 (hd:h.get? d=some (dictOf es n))(hl:(getL name es).isSome=true)(hz:es.length<=1000)
 (hq:∀h',Heap.SameBut d h h'->h'.get? d=some (dictOf (putL name (PyData.keyHash w.params name) (.str name t) v es) (putN name es n))->R (.ok (.ret .none)) ⟨h',g,dr,t+1,os⟩):
 codeAny (model prog w) A (.call (.builtin "object.__setattr__") ⟨[.ref e,.str name tk,v],[]⟩) R ⟨h,g,dr,t,os⟩:=
 exc_store_on X he hcd ho hna λA A₂=>dict_store hd hl hz hq
end
end Mine
namespace Mine
section
variable{prog:Program}{w:World}{A:Around}{E:Value->Shared->Prop}{h:Heap}{g:Array GenState}{d:Drawn}{t:Nat}{os:OsState}{K:Frag}
variable{nm q:Str}{C N:Addr}{bs bm:List Value}{hdct:Bool}{sn:List Str}{sub:List Value}{ab:Bool}{col:Option Bool}{dd:Option Addr}{k0 k1 k2 k3 k5:Option Value}
abbrev eNew:String:="Exception.__new__"
theorem mk_check{M:Model}{rest:List Value}{Q:Unit->Shared->Prop}(hC:h.get? C=some (excClassObj nm q C N bs bm hdct sn sub ab col dd k0 k1 k2 k3 k5 eNew))(hcB:(Value.ref C::bm).contains (.type "Exception")=true)
 (hq:Q () ⟨h,g,d,t,os⟩):wpAny M A (checkBuiltinCall eNew ⟨.ref C::rest,[]⟩) Q E ⟨h,g,d,t,os⟩:=by
 have F:=PySem.F.excBase_Exception
 have hstar:=F.noStar
 simp only[checkBuiltinCall,F.newKind,F.newSplit,F.newRow]
 repeat(first|refine wpAny_loadPart_at hC ?_|(refine wpAny_isSubtype_exc hC ?_;rw[hcB])|refine wpAny_staticBase_exc hC ?_|refine wpAny_madeBy_exc hC ?_|simp only[bne_self_eq_false,Bool.false_eq_true,if_false]|wp_step)
 exact hq
theorem mk_new{R:Result->Shared->Prop}{rest:List Value}(hC:h.get? C=some (excClassObj nm q C N bs bm hdct sn sub ab col dd k0 k1 k2 k3 k5 eNew))
 (hcB:(Value.ref C::bm).contains (.type "Exception")=true)(hcA:(Value.ref C::bm).contains (.type "AttributeError")=false)(hcN:(Value.ref C::bm).contains (.type "NameError")=false)
 (hq:R (.ok (.ret (.ref (h.objs.size+1)))) ⟨(h.push {cls:=.type "tuple",data:=.seq rest.toArray}).push
   {cls:=.ref C,data:=.fields #[.ref h.objs.size,.none,.none,.none,.bool false,.none]},g,d,t,os⟩)(hrest:rest.length<=sizeLine:=by size_fits):
 codeAny (model prog w) A (.builtin eNew ⟨.ref C::rest,[]⟩) R ⟨h,g,d,t,os⟩:=by
 have F:=PySem.F.excBase_Exception
 have hends:=F.ends
 refine PySem.codeAny_builtinAt F.entry ?_
 unfold Builtin.«BaseException.__new__»
 refine PySem.wpAt_bind ?_
 show PySem.wpAt _ _ _ (stack>>=_) _ _ _
 refine PySem.wpAt_bind (PySem.wpAt_stack λp below=>PySem.wpAt_of_wpAny ?_)
 wp_walk
 refine PySem.wpAt_of_wpAny ?_
 rw[F.owner]
 repeat(first|with_reducible refine wpAny_madeHere_exc F.canon hC ?_|with_reducible refine wpAny_loadPart_at hC ?_|(with_reducible refine wpAny_isSubtype_exc hC ?_;first|rw[hcB]|rw[hcA]|rw[hcN])|wp_step)
 show R _ _
 rw[Heap.size_push]
 exact hq
theorem mk_type_call{rest:List Value}{fI:Addr}{Q:Fin->Shared->Prop}(X:K.In h)
 (hC:h.get? C=some (excClassObj nm q C N bs bm hdct sn sub ab col dd k0 k1 k2 k3 k5 eNew))
 (hcB:(Value.ref C::bm).contains (.type "Exception")=true)(hcA:(Value.ref C::bm).contains (.type "AttributeError")=false)(hcN:(Value.ref C::bm).contains (.type "NameError")=false)
 (hi:findIn K (.ref C) "__init__"=some (some (.ref fI)))(hf:typeIn K (.ref fI)=some (.type "function"))
 (hq:∀h' e,Heap.MadeExcOf h h' e (.ref C) rest->h.objs.size<=h'.objs.size->
   wpAny (model prog w) A (call (.ref fI) (.ref e::rest)) (λr s'=>r=.none/\Q (.done (.ret (.ref e))) s') E ⟨h',g,d,t,os⟩)(hrest:rest.length<=sizeLine:=by size_fits):
 wpAny (model prog w) A (Builtin.«type.__call__» ⟨.ref C::rest,[]⟩) Q E ⟨h,g,d,t,os⟩:=by
 have F:=PySem.F.excBase_Exception
 repeat(first|with_reducible refine wpAny_loadPart_at hC ?_|with_reducible refine wpAny_madeBy_exc hC ?_|wp_step)
 refine codeAny_call_builtin_code (Code.quiet_builtin _ F.quiet) (mk_check hC hcB ?_)
 refine mk_new hC hcB hcA hcN ?_ hrest
 show wpAny _ _ _ _ _ _
 have kk:∀b o,h.get? b=some o->((h.push {cls:=.type "tuple",data:=.seq rest.toArray}).push {cls:=.ref C,data:=.fields #[.ref h.objs.size,.none,.none,.none,.bool false,.none]}).get? b=some o:=
  λb o e=>Heap.get?_push_of_some _ (Heap.get?_push_of_some _ e)
 have hC₁:=kk _ _ hC
 have hget:((h.push {cls:=.type "tuple",data:=.seq rest.toArray}).push
  {cls:=.ref C,data:=.fields #[.ref h.objs.size,.none,.none,.none,.bool false,.none]}).get? (h.objs.size+1)=some
  {cls:=.ref C,data:=.fields #[.ref h.objs.size,.none,.none,.none,.bool false,.none]}:=by heap_get
 have hcC:(Value.ref C::bm).contains (.ref C)=true:=by simp
 have X₁:=X.keeps kk
 have LI:=looks_findIn (M:=model prog w) X₁ hi
 have LB:=bind_fn (M:=model prog w) X₁ (.ref (h.objs.size+1)) hf
 unfold isInstance
 repeat(first|with_reducible refine wpAny_loadPart_at hget ?_|(with_reducible refine wpAny_isSubtype_exc hC₁ ?_;rw[hcC])|wp_step)
 show wpAny _ _ (typeLookup (.ref C) _) _ _ _
 refine LI.at ?_
 refine wpAny_holding (wpAny_bind (LB.at ?_))
 refine wpAny_bind (wpAny_mono (hq _ (h.objs.size+1) ⟨kk,Heap.get?_none_of_le (Nat.le_succ _),h.objs.size,hget,Heap.get?_none_of_le (Nat.le_refl _),?_⟩ ?_) (λr s' hr=>?_) λ_ _ x=>x)
 .exact Heap.get?_push_of_some _ (Heap.get?_push_at rfl rfl)
 .rw[Heap.size_push,Heap.size_push];omega
 .obtain⟨rfl,hQ⟩:=hr
  wp_walk
  exact hQ
theorem mk_call{rest:List Value}{fI:Addr}{Q:Value->Shared->Prop}(X:K.In h)
 (hC:h.get? C=some (excClassObj nm q C N bs bm hdct sn sub ab col dd k0 k1 k2 k3 k5 eNew))
 (hcB:(Value.ref C::bm).contains (.type "Exception")=true)(hcA:(Value.ref C::bm).contains (.type "AttributeError")=false)(hcN:(Value.ref C::bm).contains (.type "NameError")=false)
 (hi:findIn K (.ref C) "__init__"=some (some (.ref fI)))(hf:typeIn K (.ref fI)=some (.type "function"))
 (hq:∀h' e,Heap.MadeExcOf h h' e (.ref C) rest->h.objs.size<=h'.objs.size->
   wpAny (model prog w) (A.under (.builtin "type.__call__" ⟨.ref C::rest,[]⟩)) (call (.ref fI) (.ref e::rest)) (λr s'=>r=.none/\Q (.ref e) s') E ⟨h',g,d,t,os⟩)(hrest:rest.length<=sizeLine:=by size_fits):
 wpAny (model prog w) A (call (.ref C) rest) Q E ⟨h,g,d,t,os⟩:=by
 have f1:=tc_lookup
 have f2:=tc_bind (.ref C)
 have hT:(⟨h,g,d,t,os⟩:Shared).TypeIs (.ref C) "type":=⟨_,hC,rfl⟩
 refine wpAny_call (codeAny_of_tree ?_)
 show wpAny _ _ (callAny (.ref C) _) _ _ _
 repeat(any_goals(first|assumption|with_reducible refine wpAny_loadPart_at hC ?_|wp_step))
 refine⟨rfl,?_⟩
 refine codeAny_call_builtin_at (Code.quiet_builtin _ (by decide+kernel)) entry_typeCall (wpAny_check_type_call_sub hC (mk_type_call (hrest:=hrest) X hC hcB hcA hcN hi hf λh' e hm hs=>?_))
 exact hq h' e hm hs
end
end Mine
namespace Mine
theorem meta_exc:typeOf (.type "Exception")=pure (.type "type"):=by kernel_rfl
theorem stub_exc:Manifest.isStub "Exception"=false:=by decide+kernel
section
variable{prog:Program}{w:World}{A:Around}{E:Value->Shared->Prop}{s:Shared}{K:Frag}{g:Heap}{L:Addr}{m:Str->Option Value}{e C d:Addr}{a0 v:Value}{dct:Option Addr}{rest:Lg}{name:Str}{vs:Array Value}{es:List DictEntry}{n:Nat}
theorem led_head{h h':Heap}{a:Addr}{o o':Obj}(F:Fr g L h m)(N:News g L h ((a,o)::rest))(hne:∀q∈rest,q.1≠a)(hs:∀b o,b≠a->h.get? b=some o->h'.get? b=some o)(hz:h'.get? a=some o'):
 Fr g L h' m/\News g L h' ((a,o')::rest):=by
 have n0:=N _ (.head _)
 refine elEEEA (λoL es ep hL hr=>?_)<|F.ns
 have keep:∀b o,g.get? b=some o->h'.get? b=some o:=λb o hb=>hs b o (λq=>by have:=n0.2.2;rw[q]at hb;simp only at this;rw[this]at hb;cases hb) (F.keep b o hb)
 refine⟨⟨⟨oL,es,ep,hs L oL (Ne.symm n0.2.1) hL,hr⟩,keep,F.above⟩,λq hq=>?_⟩
 rcases List.mem_cons.mp hq with rfl|hq
 .exact⟨hz,n0.2⟩
 .have:=N q (.tail _ hq)
  exact⟨hs _ _ (hne q hq) this.1,this.2⟩
theorem exc_binit{Q:Value->Shared->Prop}
 (X:K.In g)(F:Fr g L s.heap m)(N:News g L s.heap ((e,(⟨.ref C,dct,.fields #[a0,.none,.none,.none,.bool false,.none],#[]⟩:Obj))::rest))(hne:∀q∈rest,q.1≠e)(hm:mroIn K C (.type "Exception")=some true)
 {nm q:Str}{N0:Addr}{bs bm:List Value}{hdct:Bool}{sn:List Str}{sub:List Value}{ab:Bool}{col:Option Bool}{dd:Option Addr}{k0 k1 k2 k3 k5:Option Value}(hC:K.lookup C=some (excClassObj nm q C N0 bs bm hdct sn sub ab col dd k0 k1 k2 k3 k5 eNew))
 (h:∀t h',Fr g L h' m->News g L h' ((e,(⟨.ref C,dct,.fields #[.ref t,.none,.none,.none,.bool false,.none],#[]⟩:Obj))::rest)->Q .none {s with heap:=h'}):
 wpAny (model prog w) A (call (.builtin "Exception.__init__") [.ref e,v]) Q E s:=by
 have FB:=PySem.F.excBase_Exception
 have he:=(N _ (.head _)).1
 have T:Looks (model prog w) s.heap (typeOf (.ref e)) (.ref C):=(Looks.ld he).andThen .now
 have sub:Looks (model prog w) s.heap (isInstance (.ref e) (.type "Exception")) true:=T.andThen (looks_mroIn (X.keeps F.keep) hm)
 have chk:∀A' E' (Q':Unit->Shared->Prop),Q' () s->wpAny (model prog w) A' (checkBuiltinCall "Exception.__init__" ⟨[.ref e,v],[]⟩) Q' E' s:=λA' E' Q' hq=>by
  have hshort:=FB.noStar
  simp only[checkBuiltinCall,FB.initKind,FB.initSplit,FB.initRow]
  have hCh:=X.keeps F.keep _ _ hC
  refine wpAny_bind (sub.here ?_)
  simp only[Bool.not_true,Bool.false_eq_true,if_false]
  obtain⟨hh,gg,dr,t,os⟩:=s
  repeat(first|with_reducible refine wpAny_loadPart_at he ?_|with_reducible refine wpAny_loadPart_at hCh ?_|wp_step)
  exact hq
 refine wpAny_call (codeAny_call_builtin FB.init.plain FB.initEntry (chk _ _ _ ?_))
 unfold Builtin.«BaseException.__init__»
 dsimp only
 rw[if_neg (by simp)]
 refine wpAny_bind (wpAny_newObj_type ?_ (by show(1:Nat)<=sizeLine;rw[sizeLine_eq];decide))
 have he1:=Heap.get?_push_of_some {cls:=.type "tuple",data:=.seq [v].toArray} he
 unfold Builtin.BaseException.bexcPut
 refine wpAny_bind (wpAny_bind (wpAny_field (x:=a0) he1 rfl (i:=0) rfl (wpAny_bind (wpAny_setField (i:=0) (vs:=#[a0,.none,.none,.none,.bool false,.none]) he1 rfl (Nat.le_of_ble_eq_true rfl) ?_))))
 have fin:∀A' E' (Q':Unit->Shared->Prop) s',Q' () s'->wpAny (model prog w) A' (match a0 with|.ref _=>letGo [a0] []|_=>pure ()) Q' E' s':=λA' E' Q' s' hq=>by
  cases a0<;>first|exact wpAny_pure hq|exact wpAny_letGo hq
 refine fin _ _ _ _ ?_
 refine wpAny_pure ?_
 obtain⟨F',N'⟩:=led_head (h':=(s.heap.push {cls:=.type "tuple",data:=.seq [v].toArray}).update e (Obj.mapFields (·.setIfInBounds 0 (Value.ref s.heap.objs.size)))) F N hne
  (λb o hb hbo=>by rw[Heap.get?_update_other _ _ (Ne.symm hb)];exact Heap.get?_push_of_some _ hbo) (Heap.get?_update_self _ he1 rfl)
 exact h s.heap.objs.size _ F' N'
theorem inst_exc(N:News g L s.heap ((e,(⟨.ref C,none,.fields vs,#[]⟩:Obj))::rest)):InstAt s.heap e ⟨.ref C,none,.fields vs,#[]⟩ C none:=⟨(N _ (.head _)).1,rfl,rfl,trivial⟩
theorem exc_set0{Q:Unit->Shared->Prop}(X:K.In g)(F:Fr g L s.heap m)(N:News g L s.heap ((e,(⟨.ref C,none,.fields vs,#[]⟩:Obj))::rest))(hne:∀q∈rest,q.1≠e)
 (hs:findIn K (.ref C) "__setattr__"=some (some (.builtin "object.__setattr__"))){cd:ClassData}(hcd:clsIn K C=some cd)(ho:exOk cd=true)(hna:findIn K (.ref C) name=some none)
 (h:∀d h' tk tk',(∀q∈rest,q.1≠d)->d≠e->Fr g L h' m->News g L h' ((e,(⟨.ref C,some d,.fields vs,#[]⟩:Obj))::(d,dictOf [⟨PyData.keyHash w.params name,.str name tk,v⟩] 1)::rest)->Q () {s with heap:=h',toks:=tk'}):
 wpAny (model prog w) A (setAttr (.ref e) name v) Q E s:=by
 have Xs:=X.keeps F.keep
 refine set_plain Xs (inst_exc N) hs ?_
 obtain⟨hh,gg,dd,t,os⟩:=s
 refine exc_store0 Xs (N _ (.head _)).1 hcd ho hna λh' hk hz he hd=>?_
 obtain⟨F',N'⟩:=led_head F N hne hk he
 have hdL:hh.objs.size≠L:=by
  refine elEEEA (λoL _ _ hL _=>?_)<|F.ns
  exact Nat.ne_of_gt (Heap.lt_size hL)
 refine h hh.objs.size h' (t+1) (t+1+1) (λq hq=>Nat.ne_of_lt (Heap.lt_size (N q (.tail _ hq)).1)) (Nat.ne_of_gt (Heap.lt_size (N _ (.head _)).1)) F' (λq hq=>?_)
 rcases List.mem_cons.mp hq with rfl|hq
 .exact N' _ (.head _)
 .rcases List.mem_cons.mp hq with rfl|hq
  .refine mkAA hd hdL ?_
   rcases z:g.get? hh.objs.size with _|o
   .rfl
   .exact absurd (Heap.lt_size (F.keep _ _ z)) (Nat.lt_irrefl _)
  .exact N' _ (.tail _ hq)
theorem exc_set1{Q:Unit->Shared->Prop}(X:K.In g)(F:Fr g L s.heap m)(N:News g L s.heap ((d,dictOf es n)::(e,(⟨.ref C,some d,.fields vs,#[]⟩:Obj))::rest))(hne:∀q∈rest,q.1≠d)(hed:e≠d)
 (hs:findIn K (.ref C) "__setattr__"=some (some (.builtin "object.__setattr__"))){cd:ClassData}(hcd:clsIn K C=some cd)(ho:exOk cd=true)(hna:findIn K (.ref C) name=some none)(hl:(getL name es).isSome=true)(hz:es.length<=1000)
 (h:∀h' tk tk',Fr g L h' m->News g L h' ((d,dictOf (putL name (PyData.keyHash w.params name) (.str name tk) v es) (putN name es n))::(e,(⟨.ref C,some d,.fields vs,#[]⟩:Obj))::rest)->Q () {s with heap:=h',toks:=tk'}):
 wpAny (model prog w) A (setAttr (.ref e) name v) Q E s:=by
 have Xs:=X.keeps F.keep
 refine set_plain Xs (ox:=⟨.ref C,some d,.fields vs,#[]⟩) (od:=some (dictOf es n)) ⟨(N _ (.tail _ (.head _))).1,rfl,rfl,(N _ (.head _)).1⟩ hs ?_
 obtain⟨hh,gg,dd,t,os⟩:=s
 refine exc_store1 Xs (N _ (.tail _ (.head _))).1 hcd ho hna (N _ (.head _)).1 hl hz λh' hk hd=>?_
 obtain⟨F',N'⟩:=led_head F N (λq hq=>(List.mem_cons.mp hq).elim (λz=>by rw[z];exact hed) (hne q)) (λb o hb hbo=>(hk.2 b hb).trans hbo) hd
 exact h h' (t+1) (t+1+1) F' N'
end
end Mine
namespace Mine
section
variable{M:Model}{A:Around}{E:Value->Shared->Prop}{env:Env}{s:Shared}
theorem raise_stmt{x:Expr}{pos:Pos}{Q:Flow->Shared->Prop}(hh:A.handled=none)
 (h:wpAny M A (eval x env) (λv s₁=>∃e C d a0 nm q N bs bm hdct sn sub ab col dd k0 k1 k2 k3 k5,v=.ref e/\s₁.heap.get? C=some (excClassObj nm q C N bs bm hdct sn sub ab col dd k0 k1 k2 k3 k5 eNew)/\
   (Value.ref C::bm).contains (.type "BaseException")=true/\s₁.heap.get? e=some (excO C d a0 .none .none)/\E (.ref e) s₁) E s):
 wpAny M A (exec (.Raise (some x) none pos) env) Q E s:=by
 rw[arm_exec_Raise]
 refine wpAny_bind (wpAny_standAt ?_)
 unfold raiseStmt
 refine wpAny_bind (wpAny_bind (wpAny_mono h (λv s₁ h₁=>?_) λ_ _ x=>x))
 refine wpAny_bind (wpAny_standAt (wpAny_pure ?_))
 refine elEEEEEEE (λe C d a0 nm q N q4=>?_) h₁;refine elEEEEEEE (λbs bm hdct sn sub ab col q5=>?_) q4;clear q4;refine elEEEEEE (λdd k0 k1 k2 k3 k5 q6=>?_) q5;clear q5;refine elAAAA (λr3 hC hcB he hE=>?_) q6;clear q6;subst r3;clear h₁
 obtain⟨hp,g,dr,tk,os⟩:=s₁
 repeat(first|with_reducible refine wpAny_loadPart_at he ?_|with_reducible refine wpAny_loadPart_at hC ?_|(with_reducible refine wpAny_isSubtype_exc hC ?_;rw[hcB])|wp_step)
 exact wpAny_raiseNew_none hh hE
end
end Mine
namespace Mine
def SpecC(K:Frag)(prog:Program)(w:World)(D:Nat)(f:Value)(vs:List Value)(l:Lg)(P:Value->Lg->Prop):Prop:=
 ∀(base g:Heap) (outer:List Env) (p:Program) (loose:List Str) (mean:ExcName->Option Value) (mg mb:Str->Option Value) (s:Shared) (R:Result->Shared->Prop),
  Below (ar D outer) base outer g->K.In base->Top p loose mean mg mb base->K.In g->Top p loose mean mg mb g->KtsDicts (frs outer) g->Has g s.heap l->
  (∀v l' g' h' tk,P v l'->KtsTurn (frs outer) g g'->Has g' h' l'->R (.ok (.ret v)) {s with heap:=h',toks:=tk})->
  codeAny (model prog w) (ar D outer) (.call f ⟨vs,[]⟩) R s
section
variable{prog:Program}{w:World}{K:Frag}{D D':Nat}{g:Heap}{outer:List Env}{p:Program}{loose:List Str}{mean:ExcName->Option Value}{mg mb:Str->Option Value}{s:Shared}{l news rest:Lg}
 {E:Value->Shared->Prop}{L:Addr}{m:Str->Option Value}{env:Env}{f:Value}{vs:List Value}{Q:Value->Shared->Prop}{P:Value->Lg->Prop}
theorem below_e0{A A':Around}{base:Heap}(B:Below A base outer g)(h:A'.frames=some outer):Below A' e0 outer g:=⟨h,e0_stays _,frames_e0 B.frames⟩
theorem use_cc{R:Result->Shared->Prop}{A:Around}(S:SpecC K prog w D' f vs l P)(hA:A.frames=some [env])(hh:A.handled=none)(hD:A.depth<=D')(hU:A.units<=10*D')(hf:env.frame=some L)(hk:env.scope.kind=.function)
 (F:Fr g L s.heap m)(X₀:K.In g)(T:Top p loose mean mg mb g)(N:News g L s.heap news)(ND:(ads news).Nodup)
 (rest:Lg)(hl:Sel l news rest)
 (hok:∀v l' h' tk,P v l'->Fr g L h' m->News g L h' (l'++rest)->(ads (l'++rest)).Nodup->R (.ok (.ret v)) {s with heap:=h',toks:=tk}):
 codeAny (model prog w) A (.call f ⟨vs,[]⟩) R s:=by
 refine elAA (λndl ndr dis=>?_)<|hl.nd ND
 have nm:∀b o,g.get? b=some o->b∉l.map (·.1):=λb o e q=>by
  refine elEA (λp hp r7=>?_)<|List.mem_map.mp q;subst r7
  rw[(N p (hl.l_mem hp)).2.2]at e;cases e
 have st:g.StaysIn (hideAll s.heap (l.map (·.1))):=λb o e=>hideAll_get _ (F.keep b o e) (nm b o e)
 refine elEEEAA (λoL es ep hL hLd hLr=>?_)<|F.ns
 have nL:L∉l.map (·.1):=λq=>by
  refine elEA (λp hp e=>?_)<|List.mem_map.mp q
  exact(N p (hl.l_mem hp)).2.1 e
 have hLg:=hideAll_get (l.map (·.1)) hL nL
 have gL:g.get? L=none:=kts_self F
 have rg:∀q∈rest,(hideAll s.heap (l.map (·.1))).get? q.1=some q.2:=λq hq=>hideAll_get _ (N q (hl.r_mem hq)).1 λhm=>by
  refine elEA (λr hr' e=>?_)<|List.mem_map.mp hm
  exact dis r hr' q hq e
 have gf:(hideAll s.heap (l.map (·.1))).FunFrames g [env]:=
  ⟨by rw[hk];decide,⟨L,oL,hf,gL,hLg,λvs q=>by rw[hLd]at q;cases q⟩,trivial⟩
 have Xc:K.In (hideAll s.heap (l.map (·.1))):=Frag.In.keeps X₀ st
 have Tc:Top p loose mean mg mb (hideAll s.heap (l.map (·.1))):=Top.keeps T st
 have hfs:frs [env]=[L]:=frs_cons hf
 refine code_weaken (D:=D') (outer:=[env]) (S g (hideAll s.heap (l.map (·.1))) _ p loose mean mg mb s _ ⟨rfl,st,gf⟩ X₀ T Xc Tc
  (λb hb=>by rw[hfs,List.mem_singleton]at hb;subst hb;exact mkEEEA oL es ep hLg hLd)
  ⟨ndl,λb o e=>of_hideAll _ e,Nat.le_of_eq (hideAll_size _ _),λq hq=>⟨(N q (hl.l_mem hq)).1,hideAll_none _ (List.mem_map_of_mem hq)⟩⟩ (λv l' g' h' tk hp T' H=>?_)) hh hD hU hA
 rw[hfs]at T'
 obtain⟨sl,hs⟩:=T'.up hLg
 have kg:∀b o,g.get? b=some o->h'.get? b=some o:=λb o e=>H.keep b o (T'.other b o (st b o e) λq=>by
  rw[List.mem_singleton.mp q,gL]at e;cases e)
 have gn:∀b,g'.get? b=none->g.get? b=none:=λb q=>by
  rcases z:g.get? b with _|o
  .rfl
  .obtain⟨sl',hs'⟩:=T'.up (st _ _ z)
   rw[hs']at q;cases q
 have rg':∀q∈rest,g'.get? q.1=some q.2:=λq hq=>T'.other _ _ (rg q hq) λz=>(N q (hl.r_mem hq)).2.1 (List.mem_singleton.mp z)
 refine hok v l' h' tk hp ⟨⟨_,es,ep,H.keep L _ hs,hLd,hLr⟩,kg,F.above⟩ (λq hq=>?_) (nd_app H.nd ndr λq hq r hr' e=>?_)
 .rcases List.mem_append.mp hq with hq|hq
  .obtain⟨q1,q2⟩:=H.led q hq
   exact mkAA q1 (λe=>by rw[e,hs]at q2;cases q2) (gn _ q2)
  .exact⟨H.keep _ _ (rg' q hq),(N q (hl.r_mem hq)).2⟩
 .have:=(H.led q hq).2
  rw[e,rg' r hr']at this;cases this
end
end Mine
namespace Mine
section
variable{prog:Program}{w:World}{A:Around}{E:Value->Shared->Prop}{s:Shared}{d:Addr}{o:Obj}{us:List (Int×Value)}{ss:List (Str×Value)}{n:Int}{x:Str}{t:Tok}{Q:Value->Shared->Prop}{value slice:Expr}{v dflt:Value}
variable{g:Heap}{L:Addr}{m:Str->Option Value}{news:Lg}{r:Addr}{vs:List Value}{k:Int}{u:Tok}
theorem led_isList(N:News g L s.heap news)(hm:(r,listOf vs.toArray rn)∈news):s.heap.IsList r vs.toArray:=⟨_,(N _ hm).1,rfl,_,rfl⟩
theorem led_len(N:News g L s.heap news)(hm:(r,listOf vs.toArray rn)∈news)(hv:vs.length<=1000)(h:Q (.int vs.length (s.toks+1)) {s with toks:=s.toks+1+1}):
 wpAny (model prog w) A (call (.builtin "len") [.ref r]) Q E s:=
 len_list (led_isList N hm) (by rw[List.size_toArray];omega) (by rw[List.size_toArray];exact h)
theorem led_item(N:News g L s.heap news)(hm:(r,listOf vs.toArray rn)∈news)(h0:0<=k)(h1:k<vs.length)(hv:vs.length<=1000)(h:∀v,vs[k.toNat]?=some v->Q v s)
 (hs:subscripted slice false (.ref r) (.int k u)=operate [.ref r,.int k u] (getItem (.ref r) (.int k u)):=by with_unfolding_all rfl)(hg:∀x,letTemporaryGo value (.ref r) x=pure ():=by intro _;with_unfolding_all rfl):
 wpAny (model prog w) A (subscriptTail value slice (.ref r) (.int k u)) Q E s:=
 have e:k.toNat<vs.length:=by omega
 item_listL (led_isList N hm) h0 (by omega) (List.getElem?_eq_getElem e) (h _ (List.getElem?_eq_getElem e)) hs hg
end
end Mine
namespace Mine
inductive UpdFS(d:Addr)(o:Obj):Lg->(Obj->Lg)->Prop
 |head {r}:UpdFS d o ((d,o)::r) (λo'=>(d,o')::r)
 |tail {p r g}:UpdFS d o r g->UpdFS d o (p::r) (λo'=>p::g o')
theorem UpdFS.in_{d:Addr}{o:Obj}{l:Lg}{g:Obj->Lg}(u:UpdFS d o l g):d∈ads l:=by
 induction u with
 |head=>exact .head _
 |tail _ ih=>exact .tail _ ih
theorem UpdF.of_nd{d:Addr}{o:Obj}{l:Lg}{g:Obj->Lg}(nd:(ads l).Nodup)(u:UpdFS d o l g):UpdF d o l g:=by
 induction u with
 |head=>exact .head λp hp e=>(List.nodup_cons.mp nd).1 (by have z:=List.mem_map_of_mem (f:=(·.1)) hp;rw[e]at z;exact z)
 |tail u ih=>exact .tail (λe=>(List.nodup_cons.mp nd).1 (by have:=u.in_;rw[←e]at this;exact this)) (ih (List.nodup_cons.mp nd).2)
section
variable{prog:Program}{w:World}{A:Around}{E:Value->Shared->Prop}{s:Shared}{Q:Value->Shared->Prop}{value slice:Expr}{v:Value}{g:Heap}{L:Addr}{m:Str->Option Value}{news news':Lg}{r r2:Addr}{vs vs2:List Value}{k:Int}{u:Tok}{rn rn2:Nat}
theorem has_sel{h:Heap}{l rest:Lg}(F:Fr g L h m)(N:News g L h news)(ND:(ads news).Nodup)(S:Sel l news rest):Has g h l:=has_end F N (S.nd ND).1 λq hq=>S.l_mem hq
theorem fits_line{n:Nat}(h:n<=2000):n<=sizeLine:=by rw[sizeLine_eq];omega
theorem led_upto(F:Fr g L s.heap m)(N:News g L s.heap news)(hm:(r,listOf vs.toArray rn)∈news)(h0:0<=k)(hv:vs.length<=1000)
 (h:∀l h',Fr g L h' m->News g L h' ((l,listOf (vs.take k.toNat).toArray 0)::news)->(∀p∈news,p.1<l)->Q (.ref l) {s with heap:=h'})
 (hs:subscripted slice false (.ref r) (.ref s.heap.objs.size)=operate [.ref s.heap.objs.size,.ref r] (getItem (.ref r) (.ref s.heap.objs.size)):=by with_unfolding_all rfl)
 (ht:∀x,letTemporaryGo value (.ref r) x=pure ():=by intro _;with_unfolding_all rfl):
 wpAny (model prog w) A (subscriptTail value slice (.ref r) (.ref s.heap.objs.size)) Q E {s with heap:=s.heap.push {cls:=.type "slice",data:=.fields #[.none,.int k u,.none]}}:=by
 refine slice_list F N (led_isList N hm) .none (.int k u) (λh' F' N'=>h _ h' F' ?_ λp hp=>Nat.lt_succ_of_lt (Heap.lt_size (N p hp).1)) hs ht (fits_line (by simp;omega))
 have e:k=(k.toNat:Int):=by omega
 rw[e,slicePick_upto']at N'
 simpa using N'
theorem led_from(F:Fr g L s.heap m)(N:News g L s.heap news)(hm:(r,listOf vs.toArray rn)∈news)(h0:0<=k)(hv:vs.length<=1000)
 (h:∀l h',Fr g L h' m->News g L h' ((l,listOf (vs.drop k.toNat).toArray 0)::news)->(∀p∈news,p.1<l)->Q (.ref l) {s with heap:=h'})
 (hs:subscripted slice false (.ref r) (.ref s.heap.objs.size)=operate [.ref s.heap.objs.size,.ref r] (getItem (.ref r) (.ref s.heap.objs.size)):=by with_unfolding_all rfl)
 (ht:∀x,letTemporaryGo value (.ref r) x=pure ():=by intro _;with_unfolding_all rfl):
 wpAny (model prog w) A (subscriptTail value slice (.ref r) (.ref s.heap.objs.size)) Q E {s with heap:=s.heap.push {cls:=.type "slice",data:=.fields #[.int k u,.none,.none]}}:=by
 refine slice_list F N (led_isList N hm) (.int k u) .none (λh' F' N'=>h _ h' F' ?_ λp hp=>Nat.lt_succ_of_lt (Heap.lt_size (N p hp).1)) hs ht (fits_line (by simp;omega))
 have e:k=(k.toNat:Int):=by omega
 rw[e,slicePick_from']at N'
 simpa using N'
theorem led_append(F:Fr g L s.heap m)(N:News g L s.heap news)(ND:(ads news).Nodup)(U:UpdS r (listOf vs.toArray rn) (listOf (vs++[v]).toArray (rn+1)) news news')(hv:vs.length<=1000)
 (h:∀h',Fr g L h' m->News g L h' news'->Q .none {s with heap:=h'}):wpAny (model prog w) A (call (.builtin "list.append") [.ref r,v]) Q E s:=
 append_K F N (by rw[List.push_toArray];exact Upd.of_nd ND U) h (fits_line (by simp;omega))
theorem led_add(F:Fr g L s.heap m)(N:News g L s.heap news)(hm:(r,listOf vs.toArray rn)∈news)(hm2:(r2,listOf vs2.toArray rn2)∈news)(hv:vs.length<=900)(hv2:vs2.length<=100)
 (h:∀l h',Fr g L h' m->News g L h' ((l,listOf (vs++vs2).toArray 0)::news)->(∀p∈news,p.1<l)->Q (.ref l) {s with heap:=h'}):wpAny (model prog w) A (binaryOp .Add (.ref r) (.ref r2)) Q E s:=
 add_arrays F N (led_isList N hm) (led_isList N hm2) (λh' F' N'=>h _ h' F' (by simpa using N') λp hp=>Heap.lt_size (N p hp).1) (fits_line (by simp;omega))
theorem led_get{K:Type}[DecidableEq K]{knd:KeyKind prog w K}{o:Obj}{kvs:List (K×Value)}{k:K}{key:Value}{d:Addr}(N:News g L s.heap news)(hp:(d,o)∈news)(hd:o.IsDictOf knd kvs)(hkey:knd.is k key=true)(hl:valueAt kvs k=some v)(h:Q v {s with toks:=s.toks+1}):
 wpAny (model prog w) A (getItem (.ref d) key) Q E s:=wpAny_getItem_of hkey (kda_dict N hp hd).mapOf hl h
end
end Mine
namespace Mine
section
variable{prog:Program}{w:World}{A:Around}{E:Value->Shared->Prop}{s:Shared}{g:Heap}{L:Addr}{m:Str->Option Value}{news news':Lg}{vs vs2:List Value}{rn rn2:Nat}{r r2:Addr}{Q:Value->Shared->Prop}
theorem led_extend(F:Fr g L s.heap m)(N:News g L s.heap news)(ND:(ads news).Nodup)(hm2:(r2,listOf vs2.toArray rn2)∈news)(U:UpdS r (listOf vs.toArray rn) (listOf (vs++vs2).toArray (rn+1)) news news')(hv:vs.length<=900)(hv2:vs2.length<=90)(hne:vs2.length≠0)
 (h:∀h',Fr g L h' m->News g L h' news'->Q .none {s with heap:=h'}):wpAny (model prog w) A (call (.builtin "list.extend") [.ref r,.ref r2]) Q E s:=by
 refine kl_extend F N hm2 (by simp) (by simpa using hne) (Upd.of_nd ND U) ?_ (fits_line (by simp;omega)) ?_ h
 .rw[Bool.and_eq_true]
  rintro⟨_,h2⟩
  have:¬(vs.toArray.size+vs2.toArray.size>sizeLine):=by
   have:=sizeLine_eq
   simp only[List.size_toArray];omega
  exact this (by simpa[Builtin.List.listTooLong]using h2)
 .have:=sizeLine_eq
  simp only[List.size_toArray];omega
end
end Mine
namespace Mine
section
variable{prog:Program}{w:World}{A:Around}{E:Value->Shared->Prop}{s:Shared}{K:Frag}{e C d:Addr}{a0 tb vs2 v:Value}{es:List DictEntry}{n:Nat}{g:Heap}{L:Addr}{m:Str->Option Value}{news:Lg}{cd:ClassData}{c:Int}{tk:Tok}
theorem findObj_code(hcl:clsIn K C=some cd)(hdict:cd.hasDict=true)(hf:findIn K (.ref C) "code"=some none)(hc:getL "code" es=some (some v)):findObj K C (some (dictOf es n)) "code"=some (.value v):=by
 unfold findObj
 rw[hcl]
 simp only[Option.bind_some]
 rw[hf]
 simp only[Option.bind_some,W.ownOf,hdict,if_true,lookIn_dict,hc]
theorem exc_code{expr:Bool}{Q:Value->Shared->Prop}(F:Fr g L s.heap m)(X:K.In g)(N:News g L s.heap news)(he:(e,excO C d a0 tb vs2)∈news)(hd:(d,dictOf es n)∈news)(hc:getL "code" es=some (some (.int c tk)))
 (hcl:clsIn K C=some cd)(hdict:cd.hasDict=true)(hf:findIn K (.ref C) "code"=some none)
 (hm:mroIn K C (.type "BaseException")=some true)(hga:findIn K (.ref C) "__getattribute__"=some (some (.builtin "BaseException.__getattribute__")))(hgt:findIn K (.ref C) "__getattr__"=some none)
 (hq:Q (.int c tk) {s with toks:=s.toks+1}):
 wpAny (model prog w) A (getAttr (.ref e) "code" expr) Q E s:=by
 obtain⟨h,gg,dr,t,os⟩:=s
 exact exc_get (X.keeps F.keep) ⟨(N _ he).1,rfl,rfl,(N _ hd).1⟩ hm hga hgt (findObj_code hcl hdict hf hc) rfl hq
theorem exmOne_of{cls:Value}{C₀:Addr}{b:Bool}(h1:subIn K (.ref C₀) (.type "BaseException")=some true)(h2:clsIn K C₀=some cd)(h3:typeIn K (.ref C₀)=some (.type "type"))(h4:subIn K cls (.ref C₀)=some b):exmOne K cls (.ref C₀)=some b:=by
 unfold exmOne kitCls
 rw[h1]
 dsimp only
 rw[h3,h4,h2]
 rfl
end
end Mine
namespace Mine
theorem look_eq{K:Type}[DecidableEq K]{kvs:List (K×Value)}{k:K}{v:Value}:valueAt (stored kvs k v) k=some v:=by
 unfold valueAt stored
 split
 .rename_i h
  induction kvs with
  |nil=>simp at h
  |cons e r ih=>
   by_cases q:e.1=k
   .simp[q]
   .rw[List.map_cons,if_neg q,List.find?_cons_of_neg (by simpa using q)]
    exact ih (by simpa[q]using h)
 .rename_i h
  rw[List.find?_append]
  have:kvs.find? (λe=>decide (e.1=k))=none:=by
   rw[List.find?_eq_none]
   intro x hx hk
   exact h (List.any_eq_true.mpr ⟨x,hx,hk⟩)
  rw[this]
  simp
section
variable{M:Model}{prog:Program}{w:World}{A:Around}{E:Value->Shared->Prop}{s:Shared}{g:Heap}{L:Addr}{m:Str->Option Value}{news news':Lg}{vs vs2:List Value}{rn rn2:Nat}{r r2:Addr}{Q:Value->Shared->Prop}
theorem inplace_seq{a b:Value}{T id:String}(ha:s.TypeIs a T)(hb:s.TypeIs b T)
 (hi:typeLookup (.type T) (dunderI "add")=pure (some (.builtin id)))(hs:isSeqSlot (some (.builtin id))=true)(hfill:fillsNumberSlot (.type T) "add"=pure false)
 (hc:wpAny M A (call (.builtin id) [a,b]) Q E s):wpAny M A (inplaceOp .Add a b) Q E s:=by
 unfold inplaceOp
 refine wpAny_holding ?_
 have hfi:fillsInplaceSlot (.type T) "add" (Operator.Add==.Add)=pure false:=by
  unfold fillsInplaceSlot
  show(typeLookup (.type T) (dunderI "add")>>=λfi=>pure (fi.isSome&&!isSeqSlot fi))=pure false
  rw[hi]
  show(pure ((some (Value.builtin id)).isSome&&!isSeqSlot (some (.builtin id))):Sem Bool)=pure false
  rw[hs];rfl
 have hsi:seqSlot? (.type T) (dunderI "add")=pure (some (.builtin id)):=PySem.seqSlot_of hi hs
 refine wpAny_bind (wpAny_typeOf ha (wpAny_bind (wpAny_of_eq hfi ?_)))
 show wpAny M A (if false=true then _ else _) Q E s
 rw[if_neg Bool.false_ne_true]
 refine wpAny_bind (wpAny_binaryOp1_none (nm:="add") ha hb hfill ?_)
 refine wpAny_bind (wpAny_of_eq hsi ?_)
 exact wpAny_bind (wpAny_rule hc)
theorem led_iadd(F:Fr g L s.heap m)(N:News g L s.heap news)(ND:(ads news).Nodup)(hm2:(r2,listOf vs2.toArray rn2)∈news)(U:UpdS r (listOf vs.toArray rn) (listOf (vs++vs2).toArray (rn+1)) news news')(hv:vs.length<=900)(hv2:vs2.length<=90)(hne:vs2.length≠0)
 (h:∀h',Fr g L h' m->News g L h' news'->Q (.ref r) {s with heap:=h'}):wpAny (model prog w) A (inplaceOp .Add (.ref r) (.ref r2)) Q E s:=by
 refine elEEAAA (λpre post r8 r9 a c=>?_)<|(Upd.of_nd ND U).split;subst r8;subst r9
 have z:=N (r,listOf vs.toArray rn) (List.mem_append.mpr (.inr (.head _)))
 have z2:=N _ hm2
 have sl:=sizeLine_eq
 refine inplace_seq ⟨_,z.1,rfl⟩ ⟨_,z2.1,rfl⟩ PySem.F.slot_list_iadd.lookup (by decide+kernel) noFill_list_add ?_
 refine call_meets PySem.F.slot_list_iadd ⟨_,z.1,rfl⟩ PySem.F.entry_list_iadd (PySem.F.args_list_iadd_2 _ _) (PySem.AutoSeq1.list___iadd___list_list_0 r vs.toArray rn r2 vs2.toArray rn2 ?_ (by simp only[List.size_toArray];omega) (by simp only[List.size_toArray];omega))
  ⟨z.1,z2.1,h _ (F.change (Heap.SameBut.update ..) z.2.1 z.2.2) (kl_turn _ N a c ?_ ?_)⟩
 .rw[Bool.and_eq_true]
  rintro⟨_,h2⟩
  have:¬(vs.toArray.size+vs2.toArray.size>sizeLine):=by
   simp only[List.size_toArray];omega
  exact this (by simpa[Builtin.List.listTooLong]using h2)
 .simp
 .simpa using hne
end
end Mine
namespace Mine
section
variable{M:Model}{A:Around}{E:Value->Shared->Prop}{s:Shared}{env:Env}{a b c:Stmt}{rest:List Stmt}{Q:Flow->Shared->Prop}
end
theorem nd_off3{g h:Heap}{L:Addr}{I C D:Addr}{l:Lg}{a b c:Obj}(N:News g L h ((I,a)::(C,b)::(D,c)::l))(nd:(ads l).Nodup)(o:LCg.Off3 I C D l)(ne:(@Ne Nat I C)/\(@Ne Nat I D)/\(@Ne Nat C D)):(ads ((I,a)::(C,b)::(D,c)::l)).Nodup:=by
 have k:∀p∈l,p.1≠I/\p.1≠C/\p.1≠D:=λp hp=>LCg.Off3.mem o p hp
 refine List.nodup_cons.mpr ⟨λh=>?_,List.nodup_cons.mpr ⟨λh=>?_,List.nodup_cons.mpr ⟨λh=>?_,nd⟩⟩⟩
 .rcases List.mem_cons.mp h with e|h
  .exact ne.1 e
  rcases List.mem_cons.mp h with e|h
  .exact ne.2.1 e
  refine elEA (λp hp e=>?_)<|List.mem_map.mp h
  exact(k p hp).1 e
 .rcases List.mem_cons.mp h with e|h
  .exact ne.2.2 e
  refine elEA (λp hp e=>?_)<|List.mem_map.mp h
  exact(k p hp).2.1 e
 .refine elEA (λp hp e=>?_)<|List.mem_map.mp h
  exact(k p hp).2.2 e
theorem comp_end{g h':Heap}{L I C D:Addr}{m:Str->Option Value}{s₁:Shared}{oI oC oD:Obj}{S:Lg->Prop}{rest:Value->Lg->Prop}{y:Value}{tk:Nat}{big n:Lg}
 (F:Fr g L h' m)(N:News g L h' big)(ND:(ads big).Nodup)(Sl:Sel [(I,oI),(C,oC),(D,oD)] big n)(src:S n)(k:(ads n).Nodup->rest y n):LCg.CompEnd g L m s₁ I oI C oC D oD S rest y {s₁ with heap:=h',toks:=tk}:=by
 refine elAA (λ_ nn dis=>?_)<|Sl.nd ND
 have off:∀{l:Lg},(∀p∈l,p∈n)->LCg.Off3 I C D l:=by
  intro l
  induction l with
  |nil=>exact λ_=>trivial
  |cons p r ih=>exact λh=>⟨⟨λe=>dis (I,oI) (.head _) p (h p (.head _)) e.symm,λe=>dis (C,oC) (.tail _ (.head _)) p (h p (.head _)) e.symm,λe=>dis (D,oD) (.tail _ (.tail _ (.head _))) p (h p (.head _)) e.symm⟩,ih λq hq=>h q (.tail _ hq)⟩
 refine LCg.CompEnd.intro F N n (λp hp=>?_) (off λ_ h=>h) src (k nn)
 rcases List.mem_cons.mp hp with rfl|hp
 .exact Sl.l_mem (.head _)
 rcases List.mem_cons.mp hp with rfl|hp
 .exact Sl.l_mem (.tail _ (.head _))
 rcases List.mem_cons.mp hp with rfl|hp
 .exact Sl.l_mem (.tail _ (.tail _ (.head _)))
 .exact Sl.r_mem hp
end Mine
namespace Mine
def Kept(g:Heap)(L:Addr)(h:Heap)(e C:Addr)(l:Lg)(q:Addr×Obj):Prop:=
 h.get? q.1=some q.2/\g.get? q.1=none/\q.1≠L/\q.1≠e/\(∀d a0 head vs2,h.get? e=some (excO C d a0 head vs2)->head≠.ref q.1/\d≠q.1)/\q.1∉ads l
section
variable{prog:Program}{w:World}{K:Frag}{D D':Nat}{g:Heap}{outer:List Env}{p:Program}{loose:List Str}{mean:ExcName->Option Value}{mg mb:Str->Option Value}{s:Shared}{l news rest:Lg}
 {E:Value->Shared->Prop}{L:Addr}{m:Str->Option Value}{env:Env}{f:Value}{vs:List Value}{Q:Value->Shared->Prop}{P:Value->Lg->Prop}{X:Addr->Int->Lg->Prop}
end
end Mine
namespace Mine
section
variable{prog:Program}{w:World}{K:Frag}{D:Nat}{g:Heap}{outer:List Env}{p:Program}{loose:List Str}{mean:ExcName->Option Value}{mg mb:Str->Option Value}{s:Shared}{R:Result->Shared->Prop}{l:Lg}
 {name qual:Str}{params:Arguments}{body:List Stmt}{scope:Scope}{dV kV doc pm cdv ct oc:Value}{an od:Option Addr}{osl:Array (Option Value)}{f:Addr}{args:Args}{binds:List (Str×Value)}
theorem enter_cells(X:K.In g)(T:Top p loose mean mg mb g)(H:Has g s.heap l)
 (ho:K.lookup f=some ⟨oc,od,.func (fnOf name qual params body scope dV kV doc pm an cdv ct),osl⟩)(hcd:codeIn K cdv qual=true)(hroom:D<recursionLimit)
 (hbind:BindsTo s (fnOf name qual params body scope dV kV doc pm an cdv ct) args binds)(hkind:(binds.all λy=>scope.names.lookup y.1==some .local||scope.names.lookup y.1==some .cell)=true)
 (hnd:((cellsFrom 0 scope.names []).map (·.1)).Nodup)
 (h:∀L h₁ tk cells,Fr g L h₁ (bindL (envOfC qual scope L f cdv).kindOf binds λ_=>none)->News g L h₁ (cells++l)->CellsAre (bindC (envOfC qual scope L f cdv).kindOf binds λ_=>none) (cellsFrom (L+1) scope.names []) cells->(ads l).Nodup->(∀q∈l,q.1<L)->
   wpAny (model prog w) ((ar D outer).deeper (envOfC qual scope L f cdv)) (execs body (envOfC qual scope L f cdv))
    (λfl s'=>R (.ok (.ret (match fl with|.ret v=>v|_=>.none))) s')
    (λe s'=>wpAny (model prog w) ((ar D outer).deeper (envOfC qual scope L f cdv)) (leaving (envOfC qual scope L f cdv) e) (λ_ s''=>R (.error e) s'') (λe' s''=>R (.error e') s'') s')
    {s with heap:=h₁,toks:=tk})
 (hco:scope.isCoroutine=false)(hgen:scope.isGenerator=false)(hk:scope.kind=.function):codeAny (model prog w) (ar D outer) (.call (.ref f) args) R s:=by
 have Xs:K.In s.heap:=X.keeps H.keep
 refine codeAny_call_function hroom (Xs _ _ ho) rfl hco hgen rfl (codeRec_of Xs hcd) (hbind _ _ _ _ ?_)
 refine wpAny_newFunctionEnv_cells hk (kindsX hkind _) λenv' he s' x=>?_
 subst he
 refine⟨(T.nolimit.keeps H.keep).keeps x.toInCall.keep,codeAny_func ?_⟩
 refine elEEA (λh₁ tk r11 _=>?_)<|x.done;subst r11
 have hk₁:=x.toInCall.keep
 refine elEA (λcells NC Y=>?_)<|Cl.news (h₀:=s.heap) (Nat.le_refl _) λn c hm=>⟨x.cell n c (lookup_of_mem_nodup (cellsFrom_names scope.names 0 (s.heap.objs.size+1) [] [] rfl▸hnd) hm),x.above n c hm⟩
 refine h s.heap.objs.size h₁ tk cells ⟨x.toInCall.ns,λb o e=>hk₁ b o (H.keep b o e),H.size⟩ (λq hq=>?_) Y H.nd (λq hq=>Heap.lt_size (H.led q hq).1)
 rcases List.mem_append.mp hq with hq|hq
 .refine mkAA ((NC q hq).1) ((NC q hq).2.1) ?_
  rcases z:g.get? q.1 with _|o
  .rfl
  .have:=H.keep _ _ z;rw[(NC q hq).2.2]at this;cases this
 .exact mkAA (hk₁ _ _ (H.led q hq).1) (Nat.ne_of_lt (Heap.lt_size (H.led q hq).1)) ((H.led q hq).2)
theorem nd_cell{L:Addr}{o:Obj}{l:Lg}(nd:(ads l).Nodup)(lt:∀q∈l,q.1<L):(ads ((L+1,o)::l)).Nodup:=nd_cons nd λq hq=>Nat.lt_succ_of_lt (lt q hq)
end
end Mine
namespace Mine
section
variable{prog:Program}{w:World}{K:Frag}{D:Nat}{P:Value->Lg->Prop}{X':Addr->Int->Lg->Prop}{l:Lg}
 {name qual:Str}{params:Arguments}{body:List Stmt}{scope:Scope}{dV kV doc pm cdv ct oc:Value}{an od:Option Addr}{osl:Array (Option Value)}{f:Addr}{vs:List Value}{binds:List (Str×Value)}
end
section
variable{M:Model}
end
section
variable{prog:Program}{w:World}{M:Model}{A:Around}{E:Value->Shared->Prop}{Q:Flow->Shared->Prop}{env:Env}{K:Frag}{D:Nat}{outer:List Env}{g h:Heap}{L:Addr}{p:Program}{loose:List Str}{mean:ExcName->Option Value}{mg mb m:Str->Option Value}{gs:Array GenState}{dr:Drawn}{tk:Nat}{os:OsState}{news:Lg}{rest:List Stmt}
 {f:Value}{func e:Expr}{args:List Expr}{pos cp:Pos}{K1:(List Value->Prop)->Prop}{x:Str}{xp:Pos}
end
section
variable{prog:Program}{w:World}{K:Frag}{D D':Nat}{g h:Heap}{outer:List Env}{p:Program}{loose:List Str}{mean:ExcName->Option Value}{mg mb:Str->Option Value}{l l₀ news:Lg}{gs:Array GenState}{dr:Drawn}{tk:Nat}{os:OsState}
 {E:Value->Shared->Prop}{L:Addr}{m:Str->Option Value}{A:Around}{env:Env}{f:Value}{vs:List Value}{Q:Value->Shared->Prop}{P:Value->Lg->Prop}{X:Addr->Int->Lg->Prop}{V:Value}{V1:Tok->Value}
end
def NFs(l:Lg):Prop:=∀q∈l,∀vs,q.2.data≠.fields vs
end Mine
namespace Mine
end Mine
namespace Mine
end Mine
namespace Mine
section
variable{prog:Program}{w:World}{A:Around}{E:Value->Shared->Prop}{s:Shared}{env:Env}
theorem owned_tup{elts:List Expr}{x1}{pos:Pos}{I l:Addr}{v:Value}{i:Nat}{Q:Unit->Shared->Prop}(hit:s.heap.IsTupleIter I l i)(hQ:Q () s):
 wpAny (model prog w) A (letOwnedTupleGo (.Tuple elts x1 pos) (.ref I) v) Q E s:=by
 cases v with
 |ref T=>
  refine elEAA (λo ho hc hd=>?_) hit;clear hit
  unfold letOwnedTupleGo
  refine wpAny_bind (wpAny_load ho ?_)
  rw[hc,hd]
  show wpAny _ A (if(["enumerate","zip","dict_itemiterator","dict_reverseitemiterator","odict_iterator","itertools.zip_longest","itertools.pairwise"].contains "tuple_iterator"&&
   (#[.ref l,.int i 0]:Array Value)[0]?==some (rawInt T))=true then _ else _) Q E s
  rw[if_neg (by
   intro h
   rw[show(["enumerate","zip","dict_itemiterator","dict_reverseitemiterator","odict_iterator","itertools.zip_longest","itertools.pairwise"].contains "tuple_iterator")=false from by decide,Bool.false_and]at h
   cases h)]
  exact wpAny_pure hQ
 |_=>exact wpAny_pure hQ
end
end Mine
namespace Mine
section
variable{prog:Program}{w:World}{A:Around}{E:Value->Shared->Prop}{s:Shared}{env:Env}{h₀:Heap}{x:Str}{body:List Stmt}{Q:Flow->Shared->Prop}
end
section
variable{prog:Program}{w:World}{A:Around}{E:Value->Shared->Prop}{s:Shared}{g:Heap}{L d:Addr}{m:Str->Option Value}{news:Lg}{Q:Value->Shared->Prop}{o:Obj}{us:List (Int×Value)}
theorem ints_of{vs:List Value}:∀{us:List (Int×Value)},vs.length=us.length->(∀(j:Nat) (v:Value),vs[j]?=some v->∃k x,us[j]?=some (k,x)/\∃t,v=.int k t)->IntsAre vs (us.map (·.1)):=by
 induction vs with
 |nil=>intro us hl _;cases us with
  |nil=>exact .nil
  |cons _ _=>cases hl
 |cons v vs ih=>intro us hl h;cases us with
  |nil=>cases hl
  |cons p us=>
   refine elEEAE (λk' x' e t r13=>?_)<|h 0 v rfl;subst r13
   cases e
   exact .cons _ _ (ih (Nat.succ.inj hl) λj v hv=>h (j+1) v hv)
theorem led_sorted(hh:A.handled=none)(F:Fr g L s.heap m)(N:News g L s.heap news)(hm:(d,o)∈news)(hd:o.IsDictOf (intKind prog w) us)(lo:(d==sysModules)=false)(hn:us.length<=60)
 (h:∀B vs ns c h' tk,Fr g L h' m->News g L h' ((B,listOf vs.toArray c)::news)->(∀p∈news,p.1<B)->IntsAre vs ns->ns.Perm (us.map (·.1))->Q (.ref B) {s with heap:=h',toks:=tk}):
 wpAny (model prog w) A (call (.builtin "sorted") [.ref d]) Q E s:=by
 obtain⟨ep,ha⟩:=KdkAt.of hd
 have hat:=ha.dictAt (N _ hm).1
 refine kdu_sorted (kdl_dict (knd:=intKind prog w) (kvs:=us) (ep:=ep) lo) hh F N hat (kdl_size (by omega)) λB h' tk vs F' N' l1 hl hv=>?_
 have hi:IntsAre vs (us.map (·.1)):=ints_of hl λj v hv'=>by
  refine elEEA (λk x e hk=>?_)<|hv j v hv'
  exact⟨k,x,e,by
   cases v<;>first|(simp[PySem.intKind,Value.isInt]at hk;done)|skip
   rename_i n t
   simp[PySem.intKind,Value.isInt]at hk
   exact⟨t,by rw[hk]⟩⟩
 have hne:∀p∈news,p.1≠B:=λp hp=>Nat.ne_of_lt (l1 p hp)
 refine ksk_lsort (s:={s with heap:=h',toks:=tk}) F' N' (news':=λo=>(B,o)::news) (λo=>.head hne) rfl (by simpa using hi) (by rw[List.length_map];omega) λvs' ns' c h2 F2 N2 hI _ hp _ _=>?_
 exact h B vs' ns' c h2 tk F2 N2 l1 hI hp
end
end Mine
namespace Mine
theorem fill_Inits:hd.heap_39=hd.heap_39/\PySem.Challenge.rw_no0258_01=PySem.Challenge.rw_no0258_01:=by k_fill;exact⟨rfl,rfl⟩
theorem nd2{a b:Addr}{x y:Obj}(h:a≠b):(ads [(a,x),(b,y)]).Nodup:=by simp[ads,h]
abbrev excB(C:Addr)(a0:Value):Obj:=⟨.ref C,none,.fields #[a0,.none,.none,.none,.bool false,.none],#[]⟩
set_option maxHeartbeats 4000000 in
theorem f77_init{prog:Program}{w:World}(e C:Addr)(hC:C=51\/C=70)(a0:Value)(x:Str)(t2:Tok):
 Spec (hd.heap_39 w.params) prog w 490 (.ref 28) [.ref e,.str x t2] [(e,excB C a0)]
  (λv l'=>v=.none/\∃d t tk,d≠e/\l'=[(e,excO C d (.ref t) .none .none),(d,dictOf [⟨PyData.keyHash w.params "text",.str "text" tk,.str x t2⟩] 1)]) (λ_ _ _=>False):=by
 rcases hC with rfl|rfl
 all_goals(
 intro g outer pg loose mean mg mb s R B X T H hok hex
 k_dflt (refine' enter (binds:=[("self",.ref e),("text",.str x t2)]) B X T H ?ho_3 ?hcd_3 ?hroom_3 ?hbind_3 ?hloc_3 ?_ ?c2_3 ?c3_3 ?c4_3 ?c5_3;(case ho_3=>k_is);(case hcd_3=>k_is);(case hroom_3=>decide);(case hbind_3=>exact BindsTo.of_eq rfl);(case c5_3=>decide);(case hloc_3=>exact locs rfl);(case c2_3=>exact rfl);(case c3_3=>exact rfl);(case c4_3=>exact rfl);k_whole)
 intro L h₁ F N ND lt
 clear H
 k_lt lt
 try dsimp only
 k_steps
 refine' method_type ?F ?X ?m ?st ?e ?h ?_;(case F=>k_asm);(case X=>k_asm);(case m=>exact meta_exc);(case st=>exact stub_exc);(case e=>k_dflt k_is);(case h=>k_handed)
 k_steps
 refine' exc_binit ?X ?F ?N ?ne ?m ?hC ?_;(case X=>k_asm);(case F=>k_asm);(case N=>k_asm);(case ne=>simp);(case m=>k_dflt k_is);(case hC=>k_dflt k_is)
 intro t h₂ F N
 k_steps
 refine' exc_set0 ?X ?F ?N ?ne ?hs ?hcd ?ho ?hna ?_;(case X=>k_asm);(case F=>k_asm);(case N=>k_asm);(case ne=>simp);(case hs=>k_dflt k_is);(case hcd=>k_dflt k_is);(case ho=>decide+kernel);(case hna=>k_dflt k_is)
 intro d h₃ tk tk' hd1 hde F N
 k_steps
 exact hok _ _ _ _ ⟨rfl,d,t,tk,hde,rfl⟩ (has_end F N (nd2 (Ne.symm hde)) (λ_ h=>h)))
set_option maxHeartbeats 4000000 in
theorem io_init{prog:Program}{w:World}(e C:Addr)(hC:C=51\/C=70)(a0:Value)(c:Int)(t1:Tok)(x:Str)(t2:Tok):
 Spec (hd.heap_39 w.params) prog w 485 (.ref 48) [.ref e,.int c t1,.str x t2] [(e,excB C a0)]
  (λv l'=>v=.none/\∃d t es n,d≠e/\getL "code" es=some (some (.int c t1))/\l'=[(d,dictOf es n),(e,excO C d (.ref t) .none .none)]) (λ_ _ _=>False):=by
 intro g outer pg loose mean mg mb s R B X T H hok hex
 k_dflt (refine' enter (binds:=[("self",.ref e),("code",.int c t1),("text",.str x t2)]) B X T H ?ho_4 ?hcd_4 ?hroom_4 ?hbind_4 ?hloc_4 ?_ ?c2_4 ?c3_4 ?c4_4 ?c5_4;(case ho_4=>k_is);(case hcd_4=>k_is);(case hroom_4=>decide);(case hbind_4=>exact BindsTo.of_eq rfl);(case c5_4=>decide);(case hloc_4=>exact locs rfl);(case c2_4=>exact rfl);(case c3_4=>exact rfl);(case c4_4=>exact rfl);k_whole)
 intro L h₁ F N ND lt
 clear H
 k_lt lt
 try dsimp only
 repeat'(first|(k_unfold;(try dsimp only))|((fail_if_success (with_reducible show wpAny _ _ (PySem.call (Value.ref _) _) _ _ _));walk1)|(dsimp only;(fail_if_success (with_reducible show wpAny _ _ (PySem.call (Value.ref _) _) _ _ _));walk1)|(leave1;(try dsimp only))|dsimp only)
 refine' use (f77_init e C hC a0 x t2) ?hA_1 ?hh_1 ?hD_1 ?hU_1 ?hf_1 ?hk_1 ?B_1 ?F_1 ?X_1 ?T_1 ?N_1 ?ND_1 [] ?hl_1 ?hnf_1 ?_ ?_
 (case hA_1=>exact rfl);(case hh_1=>exact rfl);(case hD_1=>exact Nat.le_of_ble_eq_true rfl);(case hU_1=>exact Nat.le_of_ble_eq_true rfl);(case hf_1=>exact rfl);(case hk_1=>exact rfl);(case B_1=>k_asm);(case F_1=>k_asm);(case X_1=>k_asm);(case T_1=>k_asm);(case N_1=>k_asm);(case ND_1=>k_asm);(case hl_1=>(repeat' first|exact Sel.nil|exact Sel.all|exact Pick.head|apply Pick.tail|apply Sel.cons|refine' Sel.skip ?_))
 (case hnf_1=>first|(intro _ _ _ h;exact False.elim h)|(intro _ _ _ _ q hq;(repeat(rcases List.mem_cons.mp hq with rfl|hq;(focus (first|(exact dict_nf (by assumption))|assumption|(intro vs e;cases e)))));(first|(cases hq;done)|exact hnf q hq|skip)))
 (focus exact λ_ _ _ _ _ _ h=>False.elim h)
 rintro v l' h₂ tk ⟨rfl,d,t,tk2,hde,rfl⟩ F N-
 repeat'(first|(k_unfold;(try dsimp only))|((fail_if_success (with_reducible show wpAny _ _ (PySem.call (Value.ref _) _) _ _ _));walk1)|(dsimp only;(fail_if_success (with_reducible show wpAny _ _ (PySem.call (Value.ref _) _) _ _ _));walk1)|(leave1;(try dsimp only))|dsimp only)
 have N':News g L h₂ [(d,dictOf [⟨PyData.keyHash w.params "text",.str "text" tk2,.str x t2⟩] 1),(e,excO C d (.ref t) .none .none)]:=λq hq=>N q (by simp at hq⊢;exact hq.symm)
 clear N
 rcases hC with rfl|rfl
 all_goals(
  refine' exc_set1 ?X ?F ?N ?ne ?hed ?hs ?hcd ?ho ?hna ?hl ?hz ?_;(case X=>k_asm);(case F=>k_asm);(case N=>k_asm);(case ne=>simp<;>exact Ne.symm hde);(case hed=>exact Ne.symm hde);(case hs=>k_dflt k_is);(case hcd=>k_dflt k_is);(case ho=>decide+kernel);(case hna=>k_dflt k_is);(case hl=>rfl);(case hz=>simp)
  intro h₃ tk3 tk4 F N
  repeat'(first|(k_unfold;(try dsimp only))|((fail_if_success (with_reducible show wpAny _ _ (PySem.call (Value.ref _) _) _ _ _));walk1)|(dsimp only;(fail_if_success (with_reducible show wpAny _ _ (PySem.call (Value.ref _) _) _ _ _));walk1)|(leave1;(try dsimp only))|dsimp only)
  exact hok _ _ _ _ ⟨rfl,d,t,_,_,hde,rfl,rfl⟩ (has_end F N (nd2 hde) (λ_ h=>h)))
set_option maxHeartbeats 4000000 in
theorem end_init{prog:Program}{w:World}(e:Addr)(a0:Value)(x:Str)(t2:Tok):
 Spec (hd.heap_39 w.params) prog w 480 (.ref 67) [.ref e,.str x t2] [(e,excB 70 a0)]
  (λv l'=>v=.none/\∃d t es n tk,d≠e/\getL "code" es=some (some (.int (-1) tk))/\l'=[(d,dictOf es n),(e,excO 70 d (.ref t) .none .none)]) (λ_ _ _=>False):=by
 intro g outer pg loose mean mg mb s R B X T H hok hex
 k_dflt (refine' enter (binds:=[("self",.ref e),("text",.str x t2)]) B X T H ?ho_5 ?hcd_5 ?hroom_5 ?hbind_5 ?hloc_5 ?_ ?c2_5 ?c3_5 ?c4_5 ?c5_5;(case ho_5=>k_is);(case hcd_5=>k_is);(case hroom_5=>decide);(case hbind_5=>exact BindsTo.of_eq rfl);(case c5_5=>decide);(case hloc_5=>exact locs rfl);(case c2_5=>exact rfl);(case c3_5=>exact rfl);(case c4_5=>exact rfl);k_whole)
 intro L h₁ F N ND lt
 clear H
 k_lt lt
 try dsimp only
 repeat'(first|(k_unfold;(try dsimp only))|((fail_if_success (with_reducible show wpAny _ _ (PySem.call (Value.ref _) _) _ _ _));walk1)|(dsimp only;(fail_if_success (with_reducible show wpAny _ _ (PySem.call (Value.ref _) _) _ _ _));walk1)|(leave1;(try dsimp only))|dsimp only)
 refine' use (io_init e 70 (.inr rfl) a0 (-1) _ x t2) ?hA_2 ?hh_2 ?hD_2 ?hU_2 ?hf_2 ?hk_2 ?B_2 ?F_2 ?X_2 ?T_2 ?N_2 ?ND_2 [] ?hl_2 ?hnf_2 ?_ ?_
 (case hA_2=>exact rfl);(case hh_2=>exact rfl);(case hD_2=>exact Nat.le_of_ble_eq_true rfl);(case hU_2=>exact Nat.le_of_ble_eq_true rfl);(case hf_2=>exact rfl);(case hk_2=>exact rfl);(case B_2=>k_asm);(case F_2=>k_asm);(case X_2=>k_asm);(case T_2=>k_asm);(case N_2=>k_asm);(case ND_2=>k_asm);(case hl_2=>(repeat' first|exact Sel.nil|exact Sel.all|exact Pick.head|apply Pick.tail|apply Sel.cons|refine' Sel.skip ?_))
 (case hnf_2=>first|(intro _ _ _ h;exact False.elim h)|(intro _ _ _ _ q hq;(repeat(rcases List.mem_cons.mp hq with rfl|hq;(focus (first|(exact dict_nf (by assumption))|assumption|(intro vs e;cases e)))));(first|(cases hq;done)|exact hnf q hq|skip)))
 (focus exact λ_ _ _ _ _ _ h=>False.elim h)
 rintro v l' h₂ tk ⟨rfl,d,t,es,n,hde,hc,rfl⟩ F N-
 repeat'(first|(k_unfold;(try dsimp only))|((fail_if_success (with_reducible show wpAny _ _ (PySem.call (Value.ref _) _) _ _ _));walk1)|(dsimp only;(fail_if_success (with_reducible show wpAny _ _ (PySem.call (Value.ref _) _) _ _ _));walk1)|(leave1;(try dsimp only))|dsimp only)
 exact hok _ _ _ _ ⟨rfl,d,t,_,_,_,hde,hc,rfl⟩ (has_end F N (nd2 hde) (λ_ h=>h))
section
variable{prog:Program}{w:World}{D:Nat}{g:Heap}{outer:List Env}{p:Program}{loose:List Str}{mean:ExcName->Option Value}{mg mb:Str->Option Value}{s:Shared}{news:Lg}{A A0:Around}
 {E:Value->Shared->Prop}{L:Addr}{m:Str->Option Value}{env:Env}{Q:Value->Shared->Prop}{c:Int}{x:Str}{t1 t2:Tok}{base:Heap}
theorem made_led{h h':Heap}{e C:Addr}{rest:List Value}(F:Fr g L h m)(N:News g L h news)(M:Heap.MadeExcOf h h' e (.ref C) rest):∃t,Fr g L h' m/\News g L h' ((e,excB C (.ref t))::news)/\∀q∈news,q.1≠e:=by
 refine elEAA (λt he _ _=>?_)<|M.there
 refine elEEEA (λoL es ep hL hr=>?_)<|F.ns
 refine mkEAA t ⟨⟨oL,es,ep,M.keeps L oL hL,hr⟩,λb o hb=>M.keeps b o (F.keep b o hb),F.above⟩ (λq hq=>?_) (λq hq z=>?_)
 .rcases List.mem_cons.mp hq with rfl|hq
  .refine mkAA he (λz=>?_) ?_
   .have:=M.new;simp only at z;rw[z,hL]at this;cases this
   .rcases z:g.get? e with _|o
    .rfl
    .have:=F.keep e o z;rw[M.new]at this;cases this
  .exact⟨M.keeps _ _ (N q hq).1,(N q hq).2⟩
 .have:=(N q hq).1;rw[z,M.new]at this;cases this
theorem nd_new{e:Addr}{o:Obj}(ND:(ads news).Nodup)(h:∀q∈news,q.1≠e):(ads ((e,o)::news)).Nodup:=
 List.nodup_cons.mpr ⟨λz=>by refine elEA (λq hq e'=>?_)<|List.mem_map.mp z;exact h q hq e',ND⟩
theorem io_new(hA:A.frames=some (env::outer))(hh:A.handled=none)(hD:A.depth+1<=485)(hU:A.units+20<=4850)(hf:env.frame=some L)(hk:env.scope.kind=.function)
 (B:Below A0 base outer g)(F:Fr g L s.heap m)(X:(hd.heap_39 w.params).In g)(T:Top p loose mean mg mb g)(N:News g L s.heap news)(ND:(ads news).Nodup)
 (hok:∀e d a0 es n h' tk,getL "code" es=some (some (.int c t1))->Fr g L h' m->News g L h' ((d,dictOf es n)::(e,excO 51 d a0 .none .none)::news)->(ads ((d,dictOf es n)::(e,excO 51 d a0 .none .none)::news)).Nodup->Q (.ref e) {s with heap:=h',toks:=tk}):
 wpAny (model prog w) A (call (.ref 51) [.int c t1,.str x t2]) Q E s:=by
 obtain⟨h,gg,dr,tk,os⟩:=s
 have Xs:=X.keeps F.keep
 refine' mk_call (K:=hd.heap_39 w.params) ?X ?hC ?hcB ?hcA ?hcN ?hi ?hf ?hq ?hr
 (case X=>exact Xs)
 (case hC=>exact Xs _ _ (by k_dflt k_is))
 (case hcB=>decide+kernel);(case hcA=>decide+kernel);(case hcN=>decide+kernel);(case hi=>k_dflt k_is);(case hf=>k_dflt k_is);(case hr=>show(2:Nat)<=sizeLine;rw[sizeLine_eq];decide)
 intro h' e M hs
 refine elEAA (λt F' N' hne=>?_)<|made_led F N M
 refine' use (io_init e 51 (.inl rfl) (.ref t) c t1 x t2) ?hA ?hh ?hD ?hU hf hk B F' X T N' (nd_new ND hne) news ?hl ?hnf ?hex ?hok
 (case hA=>exact hA);(case hh=>exact hh);(case hD=>exact hD)
 (case hU=>show A.units+(Code.builtin "type.__call__" ⟨[.ref 51,.int c t1,.str x t2],[]⟩).cUnits<=4850;have:(Code.builtin "type.__call__" ⟨[.ref 51,.int c t1,.str x t2],[]⟩).cUnits<=20:=by exact Nat.le_of_ble_eq_true rfl
           omega)
 (case hl=>exact .cons .head .nil);(case hnf=>exact λ_ _ _ h=>h.elim);(focus exact λ_ _ _ _ _ _ h=>False.elim h)
 rintro v l' h₂ tk ⟨rfl,d,t,es,n,hde,hc,rfl⟩ F N ND
 exact⟨rfl,hok e d _ es n _ _ hc F N ND⟩
theorem end_new(hA:A.frames=some (env::outer))(hh:A.handled=none)(hD:A.depth+1<=480)(hU:A.units+20<=4800)(hf:env.frame=some L)(hk:env.scope.kind=.function)
 (B:Below A0 base outer g)(F:Fr g L s.heap m)(X:(hd.heap_39 w.params).In g)(T:Top p loose mean mg mb g)(N:News g L s.heap news)(ND:(ads news).Nodup)
 (hok:∀e d a0 es n t1 h' tk,getL "code" es=some (some (.int (-1) t1))->Fr g L h' m->News g L h' ((d,dictOf es n)::(e,excO 70 d a0 .none .none)::news)->(ads ((d,dictOf es n)::(e,excO 70 d a0 .none .none)::news)).Nodup->Q (.ref e) {s with heap:=h',toks:=tk}):
 wpAny (model prog w) A (call (.ref 70) [.str x t2]) Q E s:=by
 obtain⟨h,gg,dr,tk,os⟩:=s
 have Xs:=X.keeps F.keep
 refine' mk_call (K:=hd.heap_39 w.params) ?X ?hC ?hcB ?hcA ?hcN ?hi ?hf ?hq ?hr
 (case X=>exact Xs)
 (case hC=>exact Xs _ _ (by k_dflt k_is))
 (case hcB=>decide+kernel);(case hcA=>decide+kernel);(case hcN=>decide+kernel);(case hi=>k_dflt k_is);(case hf=>k_dflt k_is);(case hr=>show(1:Nat)<=sizeLine;rw[sizeLine_eq];decide)
 intro h' e M hs
 refine elEAA (λt F' N' hne=>?_)<|made_led F N M
 refine' use (end_init e (.ref t) x t2) ?hA ?hh ?hD ?hU hf hk B F' X T N' (nd_new ND hne) news ?hl ?hnf ?hex ?hok
 (case hA=>exact hA);(case hh=>exact hh);(case hD=>exact hD)
 (case hU=>show A.units+(Code.builtin "type.__call__" ⟨[.ref 70,.str x t2],[]⟩).cUnits<=4800;have:(Code.builtin "type.__call__" ⟨[.ref 70,.str x t2],[]⟩).cUnits<=20:=by exact Nat.le_of_ble_eq_true rfl
           omega)
 (case hl=>exact .cons .head .nil);(case hnf=>exact λ_ _ _ h=>h.elim);(focus exact λ_ _ _ _ _ _ h=>False.elim h)
 rintro v l' h₂ tk ⟨rfl,d,t,es,n,tk1,hde,hc,rfl⟩ F N ND
 exact⟨rfl,hok e d _ es n tk1 _ _ hc F N ND⟩
theorem xin_new{h:Heap}{e C d:Addr}{a0:Value}{es:List DictEntry}{n:Nat}{c:Int}{t1:Tok}(B:Below A0 base outer g)(F:Fr g L h m)(N:News g L h ((d,dictOf es n)::(e,excO C d a0 .none .none)::news))(ND:(ads ((d,dictOf es n)::(e,excO C d a0 .none .none)::news)).Nodup)
 (hc:getL "code" es=some (some (.int c t1)))(hnf:∀q∈news,∀vs,q.2.data≠.fields vs)(hf:env.frame=some L)(hk:env.scope.kind=.function):
 XIn g L m env outer h e C c news:=by
 refine elEEEAA (λoL es' ep hL hLd hr=>?_)<|F.ns
 have n1:=N _ (.head _)
 have n2:=N _ (.tail _ (.head _))
 have BF:g.FunFrames e0 outer:=frames_e0 B.frames
 obtain⟨d1,d2⟩:=List.nodup_cons.mp ND
 obtain⟨d3,d4⟩:=List.nodup_cons.mp d2
 refine⟨d4,⟨oL,es',ep,hL,hLd,hr⟩,F.above,λb o hb=>⟨λ_=>F.keep b o hb,o.slots,F.keep b o hb⟩,λq hq=>?_,?_,BF,?_⟩
 .have:=N q (.tail _ (.tail _ hq))
  exact mkAAA this.1 this.2.2 this.2.1 (hnf q hq)
 .exact mkAA (by rw[hk];decide) ⟨L,oL,hf,e0_none L,hL,λvs q=>by rw[hLd]at q;cases q⟩ (BF.of_keeps λb o hb _=>⟨o,F.keep b o hb,rfl⟩)
 .refine mkEEEEEEEAAAAAA d (.none) a0 (.none) es n t1 n2.1 n1.1 hc (.inl rfl) n2.2.2 n1.2.2 (λhm=>?_)
  rcases List.mem_cons.mp hm with z|z
  .exact n1.2.1 z
  .exact d1 (.tail _ z)
def MyR(E:Value->Shared->Prop)(v:Value)(s₁:Shared):Prop:=
 ∃e C d a0 nm q N bs bm hdct sn sub ab col dd k0 k1 k2 k3 k5,v=.ref e/\s₁.heap.get? C=some (excClassObj nm q C N bs bm hdct sn sub ab col dd k0 k1 k2 k3 k5 eNew)/\
  (Value.ref C::bm).contains (.type "BaseException")=true/\s₁.heap.get? e=some (excO C d a0 .none .none)/\E (.ref e) s₁
theorem myR_of{s₁:Shared}{e C d:Addr}{a0:Value}{nm q:Str}{N:Addr}{bs bm:List Value}{hdct:Bool}{sn:List Str}{sub:List Value}{ab:Bool}{col:Option Bool}{dd:Option Addr}{k0 k1 k2 k3 k5:Option Value}
 (hC:s₁.heap.get? C=some (excClassObj nm q C N bs bm hdct sn sub ab col dd k0 k1 k2 k3 k5 eNew))(hB:(Value.ref C::bm).contains (.type "BaseException")=true)(he:s₁.heap.get? e=some (excO C d a0 .none .none))(hE:E (.ref e) s₁):MyR E (.ref e) s₁:=
 ⟨e,C,d,a0,nm,q,N,bs,bm,hdct,sn,sub,ab,col,dd,k0,k1,k2,k3,k5,rfl,hC,hB,he,hE⟩
theorem raise_my{M:Model}{x:Expr}{pos:Pos}{Q:Flow->Shared->Prop}(hh:A.handled=none)(h:wpAny M A (eval x env) (MyR E) E s):wpAny M A (exec (.Raise (some x) none pos) env) Q E s:=raise_stmt hh h
end
end Mine
namespace Mine.Q
theorem ff{p:Prop}(h:false=true):p:=(Bool.false_ne_true h).elim
theorem nn{α:Type}{x:α}{p:Prop}(h:none=some x):p:=(Option.some_ne_none x h.symm).elim
noncomputable def NMS:List String:=["self","text","code","kind","name","access","form","length","records","numbered","files","number","file","blank","place","words","key","default","allowed","sort","units","store","status","unit","record","size","value","count","out","at","input_records","input","makers","world","rec","control","texts","items","script","spot","limit","n","rows","book","one","found","many","_","source","fault","maker","made","taker","told","codes","other","k","j","has_form","lists","is_write","inner","laid","FORM","RECL","BLANK","FILE","ACCESS","STATUS","UNIT","FMT","REC","in","table","next_record","take","put","finish","append","extend","get","rstrip","F77Error","IoFault","EndFault","DOUBLE","COMPLEX","CHARACTER","units_of","BAD_UNIT","NOT_CONNECTED","BAD_WORD","NO_FILE","FILE_EXISTS","FILE_IN_USE","WRONG_SORT","BEHIND_END","NO_RECORD","TOO_LONG","BAD_NAME","STATUSES","ACCESSES","FORMS","BLANKS","File","Store","Unit","word_told","name_told","sort_told","check_sort","unit_of_name","found_file","open_again","open_unit","unit_of","need_access","need_form","read_record","cut_file","write_record","size_of","read_direct","write_direct","UnitSource","fit_internal","ListSource","World","next_input","INPUT_UNIT","OUTPUT_UNIT","InputSource","DirectSource","is_internal","unit_for","is_standard","deliver","source_of","BAD_RECORD","PlainOut","PlainIn","_law_sorts","_law_take","_law_world","_law_size","_law_unit","_law_put","_law_get","_law_inner","_law_written","_law_read","_law_plain","_law_same","law","len","isinstance","str","tuple","int","range","sum","sorted","list","SEQUENTIAL","DIRECT","FORMATTED","UNFORMATTED","OLD","NEW","SCRATCH","UNKNOWN","NULL","ZERO","*","internal","","F","F5","F6","F7","5","6","7","0","1","2","3","in0","in1","in2"," ","  ","   ","ab","c","defg","pqr","ab ","c  ","FORT.",".0","no such word","a name of blanks","a length of records where none belongs, or none","blanks in a file without a form","a file of another sort","the file exists","the file doesn't exist","the file is connected","no such unit","a scratch file has no name","the file is connected to another unit","the unit isn't connected","the other access","the other form","behind the end of the file","the end of the file","no such record","a record that is too long","behind the end of an internal file","the end of the records","end of the input","a record of other values"]
noncomputable def nm(i:Nat):Str:=match NMS[i]? with|some s=>Str.ofString s|none=>⟨#[i+1114112]⟩
noncomputable def enc(s:Str):Nat:=s.cps.toList.foldl (λa c=>a*1114112+c+1) 0
noncomputable def small(s:Str):Bool:=s.cps.toList.all (λc=>Nat.blt c 1114112)
theorem nms_nd:(NMS.map λs=>enc (Str.ofString s)).Nodup:=by decide+kernel
theorem nms_small:NMS.all (λs=>small (Str.ofString s))=true:=by decide+kernel
theorem nm_big{i:Nat}{s:String}(h:s∈NMS):Str.ofString s≠⟨#[i+1114112]⟩:=by
 intro e
 have h1:=List.all_eq_true.mp nms_small s h
 rw[e]at h1
 simp[small]at h1
 omega
theorem nm_inj{i j:Nat}(h:nm i=nm j):i=j:=by
 unfold nm at h
 split at h
 .rename_i s hs
  split at h
  .rename_i s' hs'
   have h1:(NMS.map λs=>enc (Str.ofString s))[i]?=some (enc (Str.ofString s)):=by rw[List.getElem?_map,hs];rfl
   have h2:(NMS.map λs=>enc (Str.ofString s))[j]?=some (enc (Str.ofString s)):=by rw[List.getElem?_map,hs',h];rfl
   obtain⟨hi,-⟩:=List.getElem?_eq_some_iff.mp h1
   exact(List.getElem?_inj hi nms_nd).mp (h1.trans h2.symm)
  .exact absurd h (nm_big (List.mem_of_getElem? hs))
 .split at h
  .rename_i s' hs'
   exact absurd h.symm (nm_big (List.mem_of_getElem? hs'))
  .injection h with h
   injection h with h
   injection h with h
   omega
theorem nm_beq(i j:Nat):(nm i==nm j)=Nat.beq i j:=by
 rw[Bool.eq_iff_iff,Nat.beq_eq]
 simp only[beq_iff_eq]
 exact⟨nm_inj,λh=>by rw[h]⟩
theorem tx_all:∀p∈txT,(nm p.1).cps.toList=p.2:=by decide+kernel
section
variable{α:Type}
theorem oe_e{k:α->Bool}:∀{o:Option α},oe o k=true->∃a,o=some a/\k a=true
 |none,h=>nomatch h
 |some a,h=>⟨a,rfl,h⟩
theorem cd_e{p:Bool}:∀{b:Bool},cd b p=true->b=true/\p=true
 |false,h=>nomatch h
 |true,h=>⟨rfl,h⟩
theorem bi_e{p q:Bool}:∀{b:Bool},bi b p q=true->(b=true/\p=true)\/(b=false/\q=true)
 |false,h=>.inr ⟨rfl,h⟩
 |true,h=>.inl ⟨rfl,h⟩
theorem bi_t{p:Bool}:∀{b:Bool},bi b p false=true->b=true/\p=true
 |false,h=>nomatch h
 |true,h=>⟨rfl,h⟩
theorem lk_cons{p:Nat×α}{l:List (Nat×α)}{i:Nat}:lk (p::l) i=bi (Nat.beq i p.1) (some p.2) (lk l i):=rfl
theorem lk_mem{i:Nat}{x:α}:∀{l:List (Nat×α)},lk l i=some x->(i,x)∈l
 |p::r,h=>by
  rw[lk_cons]at h
  cases q:Nat.beq i p.1
  .rw[q]at h;exact .tail _ (lk_mem h)
  .rw[q]at h
   have h:some p.2=some x:=h
   cases h
   rw[Nat.eq_of_beq_eq_true q];exact .head _
theorem len_eq:∀{l:List α},len l=l.length
 |[]=>rfl
 |_::r=>congrArg Nat.succ (len_eq (l:=r))
theorem app_eq{r:List α}:∀{l:List α},app l r=l++r
 |[]=>rfl
 |a::l=>congrArg (a::·) (app_eq (l:=l))
theorem nth_eq:∀{l:List α} {n:Nat},nth l n=l[n]?
 |[],n=>rfl
 |a::r,0=>rfl
 |a::r,n+1=>nth_eq (l:=r) (n:=n)
theorem mem_eq{i:Nat}:∀{l:List Nat},mem i l=true↔i∈l
 |[]=>⟨nofun,nofun⟩
 |a::r=>by
  show bi (Nat.beq i a) true (mem i r)=true↔_
  rw[List.mem_cons,←mem_eq (l:=r),←Nat.beq_eq (x:=i)]
  cases Nat.beq i a<;>simp[bi]
theorem eqZ_e{a b:Int}(h:eqZ a b=true):a=b:=by
 cases a<;>cases b<;>first|cases h|exact congrArg _ (Nat.eq_of_beq_eq_true h)
theorem eqZ_f{a b:Int}(h:eqZ a b=false):a≠b:=by
 rintro rfl
 cases a<;>exact absurd h (by show¬Nat.beq _ _=false;simp)
theorem leZ_e{a b:Int}(h:leZ a b=true):a<=b:=by
 cases a<;>cases b
 .exact Int.ofNat_le.mpr (Nat.le_of_ble_eq_true h)
 .cases h
 .exact Int.le_trans (Int.le_of_lt (Int.negSucc_lt_zero _)) (Int.natCast_nonneg _)
 .have:=Nat.le_of_ble_eq_true h
  omega
theorem onN_e{a:Int}{k:Nat->Bool}(h:onN a k=true):∃n:Nat,a=(n:Int)/\k n=true:=by cases a<;>first|cases h|exact⟨_,rfl,h⟩
theorem eqN_e:∀{a b:List Nat},eqN a b=true->a=b
 |[],[],_=>rfl
 |[],_::_,h=>nomatch h
 |_::_,[],h=>nomatch h
 |x::r,y::s,h=>by
  obtain⟨h1,h2⟩:=bi_t (b:=Nat.beq x y) (p:=eqN r s) h
  rw[Nat.eq_of_beq_eq_true h1,eqN_e h2]
theorem pre_e:∀{a b:List Nat},pre a b=true->∃c,b=a++c
 |[],b,_=>⟨b,rfl⟩
 |_::_,[],h=>nomatch h
 |x::r,y::s,h=>by
  obtain⟨h1,h2⟩:=bi_t (b:=Nat.beq x y) (p:=pre r s) h
  obtain⟨c,e⟩:=pre_e h2
  exact⟨c,by rw[Nat.eq_of_beq_eq_true h1,e];rfl⟩
end
structure Rho where
 c:List (Nat×Obj)
 X:Nat->Value
 T:Nat->Str
 L:Nat->List Value
 D:Nat->List (Int×Value×Value)
 g:Heap
noncomputable def Rho.num(ρ:Rho)(i:Nat):Nat:=((ρ.c[i]?).getD (0,default)).1
noncomputable def Rho.obj(ρ:Rho)(i:Nat):Obj:=((ρ.c[i]?).getD (0,default)).2
noncomputable abbrev Rho.n(ρ:Rho):Nat:=ρ.c.length
noncomputable def lns(ρ:Rho)(as:List Nat):Int:=((as.map λa=>(ρ.L a).length).sum:Nat)
noncomputable def iv(ρ:Rho):V->Value
 |.non=>.none|.boo b=>.bool b|.int as c t=>.int (lns ρ as+c) (ρ.num t)|.str i t=>.str (nm i) (ρ.num t)|.ref n=>.ref (ρ.num n)|.opq i=>ρ.X i|.sat i t=>.str (ρ.T i) (ρ.num t)|.gr a=>.ref a
noncomputable def V.sc(N:Nat):V->Prop
 |.int _ _ t=>t<N|.sat _ t=>t<N|.str _ t=>t<N|.ref n=>n<N|_=>True
noncomputable def ivs(ρ:Rho)(vs:List V):List Value:=vs.map (iv ρ)
noncomputable def scs(N:Nat)(vs:List V):Prop:=∀v∈vs,v.sc N
noncomputable def sv(ρ:Rho):Sg->List Value
 |.it v=>[iv ρ v]|.sg i=>ρ.L i
noncomputable def sgs(ρ:Rho)(ss:List Sg):List Value:=ss.flatMap (sv ρ)
noncomputable def Sg.sc(N:Nat):Sg->Prop
 |.it v=>v.sc N|.sg _=>True
noncomputable def entry(w:World)(ρ:Rho)(e:Nat×Nat×V):DictEntry:=⟨PyData.keyHash w.params (nm e.1),.str (nm e.1) (ρ.num e.2.1),iv ρ e.2.2⟩
abbrev tupo(vs:List Value)(n:Nat):Obj:={cls:=.type "tuple",data:=.seq vs.toArray n}
noncomputable def io(w:World)(ρ:Rho):O->Obj
 |.list ss n=>listOf (sgs ρ ss).toArray (ρ.num n)
 |.tup vs n=>tupo (ivs ρ vs) (ρ.num n)
 |.inst C d=>instObj C (ρ.num d)
 |.attrs es n=>dictOf (es.map (entry w ρ)) (ρ.num n)
 |.dS o _=>ρ.obj o|.dI o _=>ρ.obj o|.dK o _=>ρ.obj o|.dT o _ _ _ _=>ρ.obj o|.scr o=>ρ.obj o|.spt o _=>ρ.obj o|.cel o _=>ρ.obj o
 |.flt o _=>ρ.obj o|.fld o _ _=>ρ.obj o
noncomputable def AlkV(v w:Value):Prop:=(v=w/\handedIn v=true)\/∃x t t',v=.str x t/\w=.str x t'
noncomputable def bsT(ρ:Rho)(b:Nat)(sd:Bool):List (Int×Value):=(ρ.D b).map λe=>(e.1,bi sd e.2.1 e.2.2)
noncomputable def tabT(ρ:Rho)(b:Nat)(sd:Bool)(ops:List (Nat×V)):List (Int×Value):=ops.foldr (λp l=>stored l (p.1:Int) (iv ρ p.2)) (bsT ρ b sd)
noncomputable def okO(prog:Program)(w:World)(ρ:Rho)(a:Addr):O->Prop
 |.dS o kvs=>(∃l:List (Str×Value),(ρ.obj o).IsDictOf (PySem.strKind prog w) l/\l.length<=kvs.length/\∀j,valueAt l (nm j)=(lk kvs j).map (iv ρ))/\(a==sysModules)=false
 |.dI o kvs=>(ρ.obj o).IsDictOf (PySem.intKind prog w) (kvs.map λp=>((p.1:Int),iv ρ p.2))/\(a==sysModules)=false
 |.dK o kn=>(∃l:List (Int×Value),(ρ.obj o).IsDictOf (PySem.intKind prog w) l/\∀p∈kn,valueAt l (p.1:Int)=p.2.map (iv ρ))/\(a==sysModules)=false
 |.dT o b sd ops kn=>(ρ.obj o).IsDictOf (PySem.intKind prog w) (tabT ρ b sd ops)/\(∀p∈kn,valueAt (bsT ρ b sd) (p.1:Int)=p.2.map (iv ρ))/\(a==sysModules)=false
 |.scr o=>∃vs ns vn,ρ.obj o=listOf (List.toArray vs) vn/\IntsAre vs ns/\vs.length<=60
 |.spt o b=>∃i t n,ρ.obj o=listOf #[.int i t] n/\0<=i
 |.cel o v=>(ρ.obj o).data=.cell (v.map (iv ρ))
 |.flt o d=>∃C a0 tb vs2,ρ.obj o=excO C (ρ.num d) a0 tb vs2/\(C=51\/C=70)
 |.fld o c t=>∃es nn,ρ.obj o=dictOf es nn/\getL "code" es=some (some (.int c (ρ.num t)))
 |_=>True
noncomputable def O.sc(N:Nat):O->Prop
 |.list ss n=>(∀s∈ss,s.sc N)/\n<N
 |.tup vs n=>scs N vs/\n<N
 |.inst _ d=>d<N
 |.attrs es n=>(∀e∈es,e.2.1<N/\e.2.2.sc N)/\n<N
 |.dS o kvs=>(∀p∈kvs,p.2.sc N)/\o<N
 |.dI o kvs=>(∀p∈kvs,p.2.sc N)/\o<N
 |.dK o kn=>(∀p∈kn,∀v∈p.2,v.sc N)/\o<N
 |.dT o _ _ ops kn=>(∀p∈ops,p.2.sc N)/\(∀p∈kn,∀v∈p.2,v.sc N)/\o<N
 |.scr o=>o<N|.spt o _=>o<N
 |.cel o v=>(∀x∈v,x.sc N)/\o<N
 |.flt o d=>o<N/\d<N|.fld o _ t=>o<N/\t<N
noncomputable def led(w:World)(ρ:Rho)(hp:Hp):Lg:=hp.map λp=>(ρ.num p.1,io w ρ p.2)
noncomputable def Pre(ρ ρ':Rho):Prop:=(∃B,ρ'.c=ρ.c++B)/\ρ'.X=ρ.X/\ρ'.T=ρ.T/\ρ'.L=ρ.L/\ρ'.D=ρ.D
structure Ok(prog:Program)(w:World)(ρ:Rho)(σ:S):Prop where
 ln:ρ.n=σ.nx
 ok:∀p∈σ.hp,okO prog w ρ (ρ.num p.1) p.2
 so:∀p∈σ.hp,p.1<ρ.n/\p.2.sc ρ.n
 sv:∀p∈σ.vs,p.2.sc ρ.n
 hx:∀i,handedIn (ρ.X i)=true
 ll:∀i,(ρ.L i).length<=90
 lh:∀i,∀v∈ρ.L i,handedIn v=true
 dd:∀i,(ρ.D i).length<=90/\∀e∈ρ.D i,AlkV e.2.1 e.2.2
section
variable{prog:Program}{w:World}{ρ ρ':Rho}{σ σ':S}{v:V}{n:Nat}{a:Addr}{o o':O}
theorem Pre.refl:Pre ρ ρ:=mkAAAA ⟨[],(List.append_nil _).symm⟩ rfl rfl rfl rfl
theorem Pre.trans{ρ'':Rho}(h:Pre ρ ρ')(h':Pre ρ' ρ''):Pre ρ ρ'':=by
 refine elAAAA (λn14 x y l d=>?_) h;obtain⟨B,e⟩:=n14;clear h;refine elAAAA (λn15 x' y' l' d'=>?_) h';obtain⟨B',e'⟩:=n15;clear h'
 exact mkAAAA ⟨B++B',by rw[e',e,List.append_assoc]⟩ (x'.trans x) (y'.trans y) (l'.trans l) (d'.trans d)
theorem Pre.le(h:Pre ρ ρ'):ρ.n<=ρ'.n:=by obtain⟨⟨B,e⟩,-⟩:=h;show _<=ρ'.c.length;rw[e,List.length_append];exact Nat.le_add_right ..
theorem Pre.get(h:Pre ρ ρ'){i:Nat}(hi:i<ρ.n):ρ'.c[i]?=ρ.c[i]?:=by
 obtain⟨⟨B,e⟩,-⟩:=h
 rw[e,List.getElem?_append_left hi]
theorem Pre.num(h:Pre ρ ρ'){i:Nat}(hi:i<ρ.n):ρ'.num i=ρ.num i:=by unfold Rho.num;rw[h.get hi]
theorem Pre.obj(h:Pre ρ ρ'){i:Nat}(hi:i<ρ.n):ρ'.obj i=ρ.obj i:=by unfold Rho.obj;rw[h.get hi]
theorem Pre.lns(h:Pre ρ ρ'){as:List Nat}:Mine.Q.lns ρ' as=Mine.Q.lns ρ as:=by unfold Mine.Q.lns;rw[h.2.2.2.1]
theorem Pre.iv(h:Pre ρ ρ')(hs:v.sc ρ.n):Mine.Q.iv ρ' v=Mine.Q.iv ρ v:=by
 cases v
 case int as c t=>show Value.int _ _=Value.int _ _;rw[h.lns,h.num hs]
 case str i t=>exact congrArg (Value.str (nm i)) (h.num hs)
 case ref n=>exact congrArg Value.ref (h.num hs)
 case opq i=>show ρ'.X i=ρ.X i;rw[h.2.1]
 case sat i t=>show Value.str _ _=Value.str _ _;rw[h.2.2.1,h.num hs]
 all_goals rfl
theorem Pre.tab(h:Pre ρ ρ'){b:Nat}{sd:Bool}:∀{ops:List (Nat×V)},(∀p∈ops,p.2.sc ρ.n)->tabT ρ' b sd ops=tabT ρ b sd ops
 |[],_=>by show bsT ρ' b sd=bsT ρ b sd;unfold bsT;rw[h.2.2.2.2]
 |p::ops,hs=>by
  show stored (tabT ρ' b sd ops) _ _=stored (tabT ρ b sd ops) _ _
  rw[Pre.tab h λq hq=>hs q (.tail _ hq),h.iv (hs p (.head _))]
theorem V.sc.up{N M:Nat}(h:v.sc N)(l:N<=M):v.sc M:=by cases v<;>first|trivial|exact Nat.lt_of_lt_of_le h l
theorem Pre.ivs(h:Pre ρ ρ'){vs:List V}(hs:scs ρ.n vs):Mine.Q.ivs ρ' vs=Mine.Q.ivs ρ vs:=List.map_congr_left λv hv=>h.iv (hs v hv)
theorem scs.up{N M:Nat}{vs:List V}(h:scs N vs)(l:N<=M):scs M vs:=λv hv=>(h v hv).up l
theorem Sg.sc.up{N M:Nat}{s:Sg}(h:s.sc N)(l:N<=M):s.sc M:=by cases s<;>first|trivial|exact V.sc.up h l
theorem Pre.sv(h:Pre ρ ρ'){s:Sg}(hs:s.sc ρ.n):Mine.Q.sv ρ' s=Mine.Q.sv ρ s:=by
 cases s
 .exact congrArg (λx=>[x]) (h.iv hs)
 .exact congrFun h.2.2.2.1 _
theorem Pre.sgs(h:Pre ρ ρ'):∀{ss:List Sg},(∀s∈ss,s.sc ρ.n)->Mine.Q.sgs ρ' ss=Mine.Q.sgs ρ ss
 |[],_=>rfl
 |s::r,hs=>by
  show Mine.Q.sv ρ' s++Mine.Q.sgs ρ' r=Mine.Q.sv ρ s++Mine.Q.sgs ρ r
  rw[h.sv (hs s (.head _)),h.sgs λx hx=>hs x (.tail _ hx)]
theorem O.sc.up{N M:Nat}(h:o.sc N)(l:N<=M):o.sc M:=by
 have lt:∀{x},x<N->x<M:=λq=>Nat.lt_of_lt_of_le q l
 cases o
 case list=>exact⟨λs hs=>(h.1 s hs).up l,lt h.2⟩
 case tup=>exact⟨h.1.up l,lt h.2⟩
 case attrs=>exact⟨λe he=>⟨lt (h.1 e he).1,(h.1 e he).2.up l⟩,lt h.2⟩
 case dS=>exact⟨λp hp=>(h.1 p hp).up l,lt h.2⟩
 case dI=>exact⟨λp hp=>(h.1 p hp).up l,lt h.2⟩
 case dK=>exact⟨λp hp v hv=>(h.1 p hp v hv).up l,lt h.2⟩
 case dT=>exact mkAA (λp hp=>(h.1 p hp).up l) (λp hp v hv=>(h.2.1 p hp v hv).up l) (lt h.2.2)
 case cel=>exact⟨λx hx=>(h.1 x hx).up l,lt h.2⟩
 case flt=>exact⟨lt h.1,lt h.2⟩
 case fld=>exact⟨lt h.1,lt h.2⟩
 all_goals exact lt h
theorem Pre.io(h:Pre ρ ρ')(hs:o.sc ρ.n):Mine.Q.io w ρ' o=Mine.Q.io w ρ o:=by
 cases o
 case list=>show listOf _ _=listOf _ _;rw[h.sgs hs.1,h.num hs.2]
 case tup=>show tupo _ _=tupo _ _;rw[h.ivs hs.1,h.num hs.2]
 case inst=>show instObj _ _=instObj _ _;rw[h.num hs]
 case attrs=>
  show dictOf _ _=dictOf _ _
  rw[h.num hs.2,show List.map (entry w ρ') _=List.map (entry w ρ) _ from List.map_congr_left λe he=>by unfold entry;rw[h.num (hs.1 e he).1,h.iv (hs.1 e he).2]]
 case dS=>exact h.obj hs.2
 case dI=>exact h.obj hs.2
 case dK=>exact h.obj hs.2
 case dT=>exact h.obj hs.2.2
 case cel=>exact h.obj hs.2
 case flt=>exact h.obj hs.1
 case fld=>exact h.obj hs.1
 all_goals exact h.obj hs
theorem Pre.okO(h:Pre ρ ρ')(hs:o.sc ρ.n)(k:okO prog w ρ a o):okO prog w ρ' a o:=by
 cases o
 case dS o kvs=>
  obtain⟨⟨l,k1,k2,k3⟩,k4⟩:=k
  refine⟨⟨l,by rw[h.obj hs.2];exact k1,k2,λj=>?_⟩,k4⟩
  rw[k3]
  cases q:lk kvs j
  .rfl
  .exact congrArg some (h.iv (hs.1 _ (lk_mem q))).symm
 case dI=>
  refine⟨?_,k.2⟩
  rw[h.obj hs.2,show List.map (λp=>((p.1:Int),Mine.Q.iv ρ' p.2)) _=List.map (λp=>((p.1:Int),Mine.Q.iv ρ p.2)) _ from List.map_congr_left λp hp=>congrArg (Prod.mk _) (h.iv (hs.1 p hp))]
  exact k.1
 case dK=>
  obtain⟨⟨l,k1,k2⟩,k3⟩:=k
  refine⟨⟨l,by rw[h.obj hs.2];exact k1,λp hp=>?_⟩,k3⟩
  rw[k2 p hp]
  obtain⟨i,x⟩:=p
  cases x
  .rfl
  .exact congrArg some (h.iv (hs.1 _ hp _ rfl)).symm
 case dT o b sd ops kn=>
  refine elAA (λk1 k2 k3=>?_) k;clear k
  have eb:bsT ρ' b sd=bsT ρ b sd:=by unfold bsT;rw[h.2.2.2.2]
  refine mkAA (by rw[h.obj hs.2.2,h.tab hs.1];exact k1) (λp hp=>?_) k3
  rw[eb,k2 p hp]
  obtain⟨i,x⟩:=p
  cases x
  .rfl
  .exact congrArg some (h.iv (hs.2.1 _ hp _ rfl)).symm
 case scr=>show∃_ _ _,_;rw[h.obj hs];exact k
 case spt=>show∃_ _ _,_;rw[h.obj hs];exact k
 case cel o x=>
  show(ρ'.obj o).data=_
  rw[h.obj hs.2]
  refine k.trans ?_
  cases x
  .rfl
  .exact congrArg (λz=>Data.cell (some z)) (h.iv (hs.1 _ rfl)).symm
 case flt=>show∃_ _ _ _,_;rw[h.obj hs.1,h.num hs.2];exact k
 case fld=>show∃_ _,_;rw[h.obj hs.1,h.num hs.2];exact k
 all_goals trivial
theorem Pre.led(h:Pre ρ ρ'){hp:Hp}(hs:∀p∈hp,p.1<ρ.n/\p.2.sc ρ.n):Mine.Q.led w ρ' hp=Mine.Q.led w ρ hp:=
 List.map_congr_left λp hp=>by rw[h.num (hs p hp).1,h.io (hs p hp).2]
theorem Ok.up(h:Pre ρ ρ'){hp:Hp}{vs:List (Nat×V)}{nx:Nat}(R:Ok prog w ρ ⟨hp,vs,nx⟩):Ok prog w ρ' ⟨hp,vs,ρ'.n⟩:=
 ⟨rfl,λp hq=>by
   show Mine.Q.okO prog w ρ' (ρ'.num p.1) p.2
   rw[h.num (R.so p hq).1];exact h.okO (R.so p hq).2 (R.ok p hq),λp hq=>⟨Nat.lt_of_lt_of_le (R.so p hq).1 h.le,(R.so p hq).2.up h.le⟩,λp hq=>(R.sv p hq).up h.le,λi=>by rw[h.2.1];exact R.hx i,λi=>by rw[h.2.2.2.1];exact R.ll i,λi=>by rw[h.2.2.2.1];exact R.lh i,λi=>by rw[h.2.2.2.2];exact R.dd i⟩
noncomputable def Rho.push(ρ:Rho)(x:Nat)(o:Obj):Rho:={ρ with c:=ρ.c++[(x,o)]}
theorem push_pre{x:Nat}{ob:Obj}:Pre ρ (ρ.push x ob):=mkAAAA ⟨_,rfl⟩ rfl rfl rfl rfl
theorem push_n{x:Nat}{ob:Obj}:(ρ.push x ob).n=ρ.n+1:=List.length_append
theorem push_lt{x:Nat}{ob:Obj}:ρ.n<(ρ.push x ob).n:=by rw[push_n];exact Nat.lt_succ_self _
theorem push_num{x:Nat}{ob:Obj}:(ρ.push x ob).num ρ.n=x:=by unfold Rho.num Rho.push;rw[List.getElem?_concat_length];rfl
theorem push_obj{x:Nat}{ob:Obj}:(ρ.push x ob).obj ρ.n=ob:=by unfold Rho.obj Rho.push;rw[List.getElem?_concat_length];rfl
theorem led_mem{hp:Hp}(h:lk hp n=some o):(ρ.num n,io w ρ o)∈led w ρ hp:=List.mem_map.mpr ⟨(n,o),lk_mem h,rfl⟩
theorem hset_e{k:Hp->Bool}:∀{hp:Hp},hset hp n o k=true->∃A o₀ B,hp=A++(n,o₀)::B/\lk hp n=some o₀/\k (A++(n,o)::B)=true:=by
 intro hp
 induction hp generalizing k with
 |nil=>intro h;cases h
 |cons p r ih=>
  intro h
  obtain⟨i,q⟩:=p
  have h:bi (Nat.beq n i) (k ((n,o)::r)) (hset r n o λr'=>k ((i,q)::r'))=true:=h
  rcases bi_e h with⟨e,h1⟩|⟨e,h1⟩
  .have:=Nat.eq_of_beq_eq_true e
   subst this
   exact mkEEEAA [] q r rfl (by rw[lk_cons,e];rfl) h1
  .refine elEEEAA (λA o₀ B r16 hl hk=>?_)<|ih h1;subst r16
   exact mkEEEAA ((i,q)::A) o₀ B rfl (by rw[lk_cons,e];exact hl) hk
theorem updS_mid{x y:Obj}{l r:Lg}:UpdS a x y (l++(a,x)::r) (l++(a,y)::r):=by
 induction l with
 |nil=>exact .head
 |cons p l ih=>exact .tail ih
end
end Mine.Q
namespace Mine.Q
noncomputable abbrev KF(w:World):Frag:=hd.heap_39 w.params
structure Fx(prog:Program)(w:World) where
 (A:Around)(env fenv:Env)(L:Addr)(outer:List Env)(base:Heap)(p:Program)(loose:List Str)(mean:ExcName->Option Value)(mg mb:Str->Option Value)
 (gs:Array GenState)(dr:Drawn)(os:OsState)(D:Nat)(rest its:Lg)(tn hc:Bool)(ci:List (Nat×Nat))(cov:(Str->Option Value)->Rho->S->Prop)
 fr:A.frames=some (fenv::outer)
 hd:hc=false->A.handled=none
 dp:A.depth<=D
 dl:D<=900
 un:A.units<=10*D
 lf:fenv.frame=some L
 kd:fenv.scope.kind=.function
 ct:tn=true->(KF w).In base/\Top p loose mean mg mb base
 nf:NFs rest
 cx:∀m ρ ρ' σ σ',Pre ρ ρ'->(∀p∈σ.vs,p.2.sc ρ.n)->σ'.vs=σ.vs->cov m ρ σ->cov m ρ' σ'
section
variable{prog:Program}{w:World}(Γ:Fx prog w)
abbrev Fx.sh(h:Heap)(tk:Nat):Shared:=⟨h,Γ.gs,Γ.dr,tk,Γ.os⟩
abbrev Fx.wp{α:Type}(c:Sem α)(Q:α->Shared->Prop)(E:Value->Shared->Prop)(h:Heap)(tk:Nat):Prop:=wpAny (model prog w) Γ.A c Q E ⟨h,Γ.gs,Γ.dr,tk,Γ.os⟩
noncomputable abbrev Fx.lg(ρ:Rho)(σ:S):Lg:=led w ρ σ.hp++(Γ.rest++Γ.its)
structure Gd(ρ:Rho):Prop where
 kn:(KF w).In ρ.g
 tp:Top Γ.p Γ.loose Γ.mean Γ.mg Γ.mb ρ.g
 bl:Below (ar Γ.D Γ.outer) Γ.base Γ.outer ρ.g
 kt:Γ.tn=true->KtsDicts (frs Γ.outer) ρ.g
structure Rl(ρ:Rho)(σ:S)(h:Heap):Prop extends Ok prog w ρ σ,Gd Γ ρ where
 fr:∃m,Fr ρ.g Γ.L h m/\Γ.cov m ρ σ
 nw:News ρ.g Γ.L h (Γ.lg ρ σ)
 nd:(ads (Γ.lg ρ σ)).Nodup
noncomputable def Fx.Ext(ρ ρ':Rho):Prop:=Pre ρ ρ'/\KtsTurn (frs Γ.outer) ρ.g ρ'.g/\(Γ.tn=false->ρ'.g=ρ.g)
structure XR(ρ:Rho)(σ:S)(h:Heap)(e C:Addr)(c:Int):Prop extends Ok prog w ρ σ,Gd Γ ρ where
 x:∃m,XIn ρ.g Γ.L m Γ.fenv Γ.outer h e C c (led w ρ σ.hp++Γ.rest)/\Γ.cov m ρ σ
 kp:∀q∈Γ.its,Kept ρ.g Γ.L h e C (led w ρ σ.hp++Γ.rest) q
abbrev KX:=Nat->Int->S->Bool
noncomputable def EX(x:KX)(ρ:Rho)(E:Value->Shared->Prop):Prop:=∀e C c ρ' σ' h' tk',Γ.Ext ρ ρ'->XR Γ ρ' σ' h' e C c->x C c σ'=true->E (.ref e) (Γ.sh h' tk')
noncomputable def KK{α β:Type}(I:Rho->β->α)(sc:Nat->β->Prop)(ρ:Rho)(k:β->S->Bool)(Q:α->Shared->Prop):Prop:=
 ∀v ρ' σ' h' tk',Γ.Ext ρ ρ'->sc ρ'.n v->Rl Γ ρ' σ' h'->k v σ'=true->Q (I ρ' v) (Γ.sh h' tk')
noncomputable abbrev KQ(ρ:Rho)(k:KV)(Q:Value->Shared->Prop):Prop:=KK Γ iv (λN v=>V.sc N v) ρ k Q
noncomputable def HH{α β:Type}(x:KX)(I:Rho->β->α)(sc:Nat->β->Prop)(c:Sem α)(σ:S)(vc:(β->S->Bool)->Bool):Prop:=
 ∀k ρ h tk Q E,vc k=true->Rl Γ ρ σ h->KK Γ I sc ρ k Q->EX Γ x ρ E->Γ.wp c Q E h tk
variable{Γ}{ρ ρ':Rho}{σ:S}{h h':Heap}{tk:Nat}{n:Nat}{o o₀:O}{m:Str->Option Value}{hp:Hp}{vs:List (Nat×V)}{nx:Nat}
theorem Fx.Ext.refl:Γ.Ext ρ ρ:=mkAA (.refl) (.refl) (λ_=>rfl)
theorem Fx.Ext.trans{ρ'':Rho}(a:Γ.Ext ρ ρ')(b:Γ.Ext ρ' ρ''):Γ.Ext ρ ρ'':=mkAA (a.1.trans b.1) (a.2.1.trans b.2.1) (λt=>(b.2.2 t).trans (a.2.2 t))
theorem Fx.Ext.of(x:Pre ρ ρ')(e:ρ'.g=ρ.g):Γ.Ext ρ ρ':=mkAA x (e▸.refl) (λ_=>e)
theorem EX.up{x:KX}{E:Value->Shared->Prop}(h:EX Γ x ρ E)(e:Γ.Ext ρ ρ'):EX Γ x ρ' E:=λa C c ρ2 σ' h' tk' e2=>h a C c ρ2 σ' h' tk' (e.trans e2)
theorem KK.up{α β:Type}{I:Rho->β->α}{sc:Nat->β->Prop}{k:β->S->Bool}{Q:α->Shared->Prop}(h:KK Γ I sc ρ k Q)(e:Γ.Ext ρ ρ'):KK Γ I sc ρ' k Q:=λv ρ2 σ' h' tk' e2=>h v ρ2 σ' h' tk' (e.trans e2)
theorem Gd.up(G:Gd Γ ρ)(e:ρ'.g=ρ.g):Gd Γ ρ':=by
 obtain⟨a,b,c,d⟩:=G
 rw[←e]at a b c d
 exact⟨a,b,c,d⟩
theorem Rl.up(x:Pre ρ ρ')(e:ρ'.g=ρ.g)(R:Rl Γ ρ ⟨hp,vs,nx⟩ h):Rl Γ ρ' ⟨hp,vs,ρ'.n⟩ h:=by
 have le:led w ρ' hp=led w ρ hp:=x.led R.so
 refine elEA (λm F c=>?_)<|R.fr
 refine⟨R.toOk.up x,R.toGd.up e,⟨m,by rw[e];exact F,Γ.cx _ _ _ _ _ x R.sv rfl c⟩,?_,?_⟩
 .show News ρ'.g Γ.L h (led w ρ' hp++_);rw[e,le];exact R.nw
 .show(ads (led w ρ' hp++_)).Nodup;rw[le];exact R.nd
theorem Rl.add(R:Rl Γ ρ ⟨hp,vs,nx⟩ h)(hn:n<ρ.n)(hs:o.sc ρ.n)(k:okO prog w ρ (ρ.num n) o)(F:Fr ρ.g Γ.L h' m)(c:Γ.cov m ρ ⟨hp,vs,nx⟩)(N:News ρ.g Γ.L h' ((ρ.num n,io w ρ o)::(led w ρ hp++(Γ.rest++Γ.its))))(ne:∀p∈led w ρ hp++(Γ.rest++Γ.its),p.1≠ρ.num n):
 Rl Γ ρ ⟨(n,o)::hp,vs,nx⟩ h':=by
 refine⟨⟨R.ln,λp hp=>?_,λp hp=>?_,R.sv,R.hx,R.ll,R.lh,R.dd⟩,R.toGd,⟨m,F,Γ.cx _ _ _ _ _ .refl R.sv rfl c⟩,N,?_⟩
 .rcases List.mem_cons.mp hp with rfl|hp
  .exact k
  .exact R.ok p hp
 .rcases List.mem_cons.mp hp with rfl|hp
  .exact⟨hn,hs⟩
  .exact R.so p hp
 .exact List.nodup_cons.mpr ⟨λhm=>by
   refine elEA (λp hp e=>?_)<|List.mem_map.mp hm
   exact ne p hp e,R.nd⟩
theorem led_put{A B:Hp}{rest:Lg}:UpdS (ρ.num n) (io w ρ o₀) (io w ρ o) (led w ρ (A++(n,o₀)::B)++rest) (led w ρ (A++(n,o)::B)++rest):=by
 unfold led
 rw[List.map_append,List.map_append,List.append_assoc,List.append_assoc]
 exact updS_mid
theorem Rl.set{A B:Hp}(R:Rl Γ ρ ⟨A++(n,o₀)::B,vs,nx⟩ h)(hs:o.sc ρ.n)(k:okO prog w ρ (ρ.num n) o)(F:Fr ρ.g Γ.L h' m)(c:Γ.cov m ρ ⟨A++(n,o₀)::B,vs,nx⟩)(N:News ρ.g Γ.L h' (led w ρ (A++(n,o)::B)++(Γ.rest++Γ.its))):
 Rl Γ ρ ⟨A++(n,o)::B,vs,nx⟩ h':=by
 have hn:n<ρ.n:=(R.so (n,o₀) (List.mem_append_right _ (.head _))).1
 refine⟨⟨R.ln,λp hp=>?_,λp hp=>?_,R.sv,R.hx,R.ll,R.lh,R.dd⟩,R.toGd,⟨m,F,Γ.cx _ _ _ _ _ .refl R.sv rfl c⟩,N,?_⟩
 .rcases List.mem_append.mp hp with hp|hp
  .exact R.ok p (List.mem_append_left _ hp)
  .rcases List.mem_cons.mp hp with rfl|hp
   .exact k
   .exact R.ok p (List.mem_append_right _ (.tail _ hp))
 .rcases List.mem_append.mp hp with hp|hp
  .exact R.so p (List.mem_append_left _ hp)
  .rcases List.mem_cons.mp hp with rfl|hp
   .exact⟨hn,hs⟩
   .exact R.so p (List.mem_append_right _ (.tail _ hp))
 .rw[(led_put (rest:=Γ.rest++Γ.its)).ads];exact R.nd
theorem Rl.hn(R:Rl Γ ρ σ h):σ.nx=ρ.n:=R.ln.symm
theorem Rl.push(R:Rl Γ ρ σ h)(x:Nat)(ob:Obj):Rl Γ (ρ.push x ob) ⟨σ.hp,σ.vs,Nat.succ σ.nx⟩ h:=by
 have:=Rl.up (ρ':=ρ.push x ob) (hp:=σ.hp) (vs:=σ.vs) (nx:=σ.nx) push_pre rfl R
 rw[push_n,←R.ln.symm]at this
 exact this
theorem tok_ok{k:Nat->S->Bool}{G:Prop}(R:Rl Γ ρ σ h)(g:tokK σ k=true)(t:Nat)(ob:Obj)
 (hq:∀σ',Γ.Ext ρ (ρ.push t ob)->ρ.n<(ρ.push t ob).n->Rl Γ (ρ.push t ob) σ' h->σ'.hp=σ.hp->σ'.vs=σ.vs->k ρ.n σ'=true->G):G:=by
 have g:k σ.nx ⟨σ.hp,σ.vs,Nat.succ σ.nx⟩=true:=g
 rw[show k σ.nx=k ρ.n by rw[R.hn]]at g
 exact hq _ (.of push_pre rfl) (by rw[push_n];exact Nat.lt_succ_self _) (R.push t ob) rfl rfl g
theorem Rl.mem(R:Rl Γ ρ σ h)(e:lk σ.hp n=some o):(ρ.num n,io w ρ o)∈Γ.lg ρ σ:=List.mem_append_left _ (led_mem e)
theorem Rl.sco(R:Rl Γ ρ σ h)(e:lk σ.hp n=some o):n<ρ.n/\o.sc ρ.n:=R.so _ (lk_mem e)
theorem Rl.oko(R:Rl Γ ρ σ h)(e:lk σ.hp n=some o):okO prog w ρ (ρ.num n) o:=R.ok _ (lk_mem e)
noncomputable abbrev Rho.p2(ρ:Rho)(a x:Nat)(ox:Obj):Rho:=(ρ.push a default).push x ox
theorem p2_pre{a x:Nat}{ox:Obj}:Pre ρ (ρ.p2 a x ox):=push_pre.trans push_pre
theorem p2_n{a x:Nat}{ox:Obj}:(ρ.p2 a x ox).n=ρ.n+2:=by rw[push_n,push_n]
theorem p2_num{a x:Nat}{ox:Obj}:(ρ.p2 a x ox).num ρ.n=a:=(push_pre.num (by rw[push_n];exact Nat.lt_succ_self _)).trans push_num
theorem p2_cnt{a x:Nat}{ox:Obj}:(ρ.p2 a x ox).num (Nat.succ ρ.n)=x:=by rw[←Nat.add_one,←push_n (x:=a) (ob:=default)];exact push_num
theorem p2_obj{a x:Nat}{ox:Obj}:(ρ.p2 a x ox).obj (Nat.succ ρ.n)=ox:=by rw[←Nat.add_one,←push_n (x:=a) (ob:=default)];exact push_obj
theorem new_neX{k:KV}{f:Nat->O}{a:Nat}{ob:Obj}{G:Prop}(R:Rl Γ ρ σ h)(g:newK σ f k=true)(x:Nat)(ox:Obj)
 (F:Fr ρ.g Γ.L h' m)(c:Γ.cov m ρ σ)(N:News ρ.g Γ.L h' ((a,ob)::Γ.lg ρ σ))(ne:∀p∈Γ.lg ρ σ,p.1≠a)
 (e:io w (ρ.p2 a x ox) (f (Nat.succ ρ.n))=ob)(hs:(f (Nat.succ ρ.n)).sc (ρ.p2 a x ox).n)(hk:okO prog w (ρ.p2 a x ox) a (f (Nat.succ ρ.n)))
 (hq:∀ρ' σ',Γ.Ext ρ ρ'->(V.ref ρ.n).sc ρ'.n->Rl Γ ρ' σ' h'->k (.ref ρ.n) σ'=true->iv ρ' (.ref ρ.n)=.ref a->Γ.lg ρ' σ'=(a,ob)::Γ.lg ρ σ->Γ.cov m ρ' σ'->ρ'.g=ρ.g->G):G:=by
 have g:k (.ref σ.nx) ⟨(σ.nx,f (Nat.succ σ.nx))::σ.hp,σ.vs,Nat.succ (Nat.succ σ.nx)⟩=true:=g
 rw[R.hn]at g
 have lt2:ρ.n<(ρ.p2 a x ox).n:=by rw[p2_n];omega
 have R2:=(R.push a default).push x ox
 rw[R.hn]at R2
 have el:led w (ρ.p2 a x ox) σ.hp=led w ρ σ.hp:=p2_pre.led R.so
 refine hq (ρ.p2 a x ox) _ (.of p2_pre rfl) lt2 (Rl.add R2 (n:=ρ.n) (o:=f (Nat.succ ρ.n)) (m:=m) lt2 hs ?_ F ?_ ?_ ?_) g (congrArg Value.ref p2_num) ?_ ?_ rfl
 .rw[p2_num];exact hk
 .exact Γ.cx _ _ _ _ _ p2_pre R.sv rfl c
 .rw[p2_num,e,el];exact N
 .rw[p2_num,el];exact ne
 .show(_,io w _ _)::(led w (ρ.p2 a x ox) σ.hp++_)=_
  rw[p2_num,e,el]
 .exact Γ.cx _ _ _ _ _ p2_pre R.sv rfl c
theorem new_okX{k:KV}{f:Nat->O}{a:Nat}{ob:Obj}{G:Prop}(R:Rl Γ ρ σ h)(g:newK σ f k=true)(x:Nat)(ox:Obj)
 (F:Fr ρ.g Γ.L h' m)(c:Γ.cov m ρ σ)(N:News ρ.g Γ.L h' ((a,ob)::Γ.lg ρ σ))(lt:∀p∈Γ.lg ρ σ,p.1<a)
 (e:io w (ρ.p2 a x ox) (f (Nat.succ ρ.n))=ob)(hs:(f (Nat.succ ρ.n)).sc (ρ.p2 a x ox).n)(hk:okO prog w (ρ.p2 a x ox) a (f (Nat.succ ρ.n)))
 (hq:∀ρ' σ',Γ.Ext ρ ρ'->(V.ref ρ.n).sc ρ'.n->Rl Γ ρ' σ' h'->k (.ref ρ.n) σ'=true->iv ρ' (.ref ρ.n)=.ref a->Γ.lg ρ' σ'=(a,ob)::Γ.lg ρ σ->Γ.cov m ρ' σ'->ρ'.g=ρ.g->G):G:=
 new_neX R g x ox F c N (λp hp=>Nat.ne_of_lt (lt p hp)) e hs hk hq
theorem new_ok{k:KV}{f:Nat->O}{a:Nat}{ob:Obj}{G:Prop}(R:Rl Γ ρ σ h)(g:newK σ f k=true)(x:Nat)(ox:Obj)
 (F:Fr ρ.g Γ.L h' m)(c:Γ.cov m ρ σ)(N:News ρ.g Γ.L h' ((a,ob)::Γ.lg ρ σ))(lt:∀p∈Γ.lg ρ σ,p.1<a)
 (e:io w (ρ.p2 a x ox) (f (Nat.succ ρ.n))=ob)(hs:(f (Nat.succ ρ.n)).sc (ρ.p2 a x ox).n)(hk:okO prog w (ρ.p2 a x ox) a (f (Nat.succ ρ.n)))
 (hq:∀ρ' σ',Γ.Ext ρ ρ'->(V.ref ρ.n).sc ρ'.n->Rl Γ ρ' σ' h'->k (.ref ρ.n) σ'=true->iv ρ' (.ref ρ.n)=.ref a->G):G:=
 new_okX R g x ox F c N lt e hs hk λρ' σ' a b c d e _ _ _=>hq ρ' σ' a b c d e
theorem put_ok{k:S->Bool}{f:Nat->O}(R:Rl Γ ρ σ h)(g:putK σ n f k=true):
 ∃A o₀ B,lk σ.hp n=some o₀/\Γ.lg ρ σ=A++(ρ.num n,io w ρ o₀)::B/\∀x ox,(f ρ.n).sc (ρ.push x ox).n->okO prog w (ρ.push x ox) (ρ.num n) (f ρ.n)->
  ∀h' m,Fr ρ.g Γ.L h' m->Γ.cov m ρ σ->News ρ.g Γ.L h' (A++(ρ.num n,io w (ρ.push x ox) (f ρ.n))::B)->
   ∃σ',Γ.Ext ρ (ρ.push x ox)/\Rl Γ (ρ.push x ox) σ' h'/\k σ'=true/\σ'.vs=σ.vs:=by
 have g:hset σ.hp n (f σ.nx) (λhp'=>k ⟨hp',σ.vs,Nat.succ σ.nx⟩)=true:=g
 refine elEEEAA (λA o₀ B eh hl hk=>?_)<|hset_e g
 rw[R.hn]at hk
 have el:Γ.lg ρ σ=led w ρ A++(ρ.num n,io w ρ o₀)::(led w ρ B++(Γ.rest++Γ.its)):=by
  show led w ρ σ.hp++_=_
  rw[eh];unfold led;rw[List.map_append,List.append_assoc];rfl
 refine mkEEEAA (led w ρ A) o₀ (led w ρ B++(Γ.rest++Γ.its)) hl el (λx ox hs ho h' m F c N=>?_)
 have R1:=R.push x ox
 rw[eh,R.hn]at R1
 have hn:=(R.sco hl).1
 have en:(ρ.push x ox).num n=ρ.num n:=push_pre.num hn
 have so:=R.so
 rw[eh]at so
 refine mkEAAA _ (.of push_pre rfl) (Rl.set R1 hs (by rw[en];exact ho) F (Γ.cx _ _ _ _ _ push_pre R.sv rfl c) ?_) hk rfl
 have e2:led w (ρ.push x ox) (A++(n,f ρ.n)::B)++(Γ.rest++Γ.its)=led w ρ A++(ρ.num n,io w (ρ.push x ox) (f ρ.n))::(led w ρ B++(Γ.rest++Γ.its)):=by
  rw[←(push_pre (x:=x) (ob:=ox)).led (hp:=A) λp hp=>so p (List.mem_append_left _ hp),←(push_pre (x:=x) (ob:=ox)).led (hp:=B) λp hp=>so p (List.mem_append_right _ (.tail _ hp)),←en]
  unfold led;rw[List.map_append,List.append_assoc];rfl
 rw[e2];exact N
theorem updF_mid{a:Addr}{x:Obj}{l r:Lg}:UpdFS a x (l++(a,x)::r) (λz=>l++(a,z)::r):=by
 induction l with
 |nil=>exact .head
 |cons p l ih=>exact .tail ih
theorem drf_e{v:V}{σ:S}{k:Nat->O->Bool}(g:drf v σ k=true)(ρ:Rho):∃n o,v=.ref n/\iv ρ v=.ref (ρ.num n)/\lk σ.hp n=some o/\k n o=true:=by
 cases v<;>first|exact ff g|skip
 refine elEA (λo ho hk=>?_)<|oe_e (o:=lk σ.hp _) g
 exact⟨_,o,rfl,rfl,ho,hk⟩
theorem at_e{n:Nat}{σ:S}{k:O->Bool}(g:atK σ n k=true):∃o,lk σ.hp n=some o/\k o=true:=oe_e (o:=lk σ.hp n) g
theorem ref_e{v:V}{k:Nat->Bool}(g:refK v k=true):∃n,v=.ref n/\k n=true:=by cases v<;>first|exact ff g|exact⟨_,rfl,g⟩
theorem int_e{v:V}{k:List Nat->Int->Bool}(g:intK v k=true):∃as c t,v=.int as c t/\k as c=true:=by cases v<;>first|exact ff g|exact mkEEEA _ _ _ rfl g
theorem str_e{v:V}{k:Nat->Bool}(g:strK v k=true):∃i t,v=.str i t/\k i=true:=by cases v<;>first|exact ff g|exact mkEEA _ _ rfl g
theorem lit_e{v:V}{k:Nat->Bool}(g:litK v k=true):∃(n t:Nat),v=.int [] (n:Int) t/\k n=true:=by
 refine elEEEA (λas c t r17 g18=>?_)<|int_e g;subst r17;revert g18;intro g
 cases as
 .refine elEA (λn r19 g20=>?_)<|onN_e (a:=c) (k:=k) g;subst r19;revert g20;intro g
  exact mkEEA n t rfl g
 .exact ff g
theorem lns_nil{ρ:Rho}:lns ρ []=0:=rfl
theorem lns_cons{ρ:Rho}{a:Nat}{as:List Nat}:lns ρ (a::as)=(ρ.L a).length+lns ρ as:=by simp[lns]
theorem lns_app{ρ:Rho}{as bs:List Nat}:lns ρ (as++bs)=lns ρ as+lns ρ bs:=by simp[lns]
theorem lns_nn{ρ:Rho}{as:List Nat}:0<=lns ρ as:=Int.natCast_nonneg _
theorem iv_lit{ρ:Rho}{c:Int}{t:Nat}:iv ρ (.int [] c t)=.int c (ρ.num t):=by show Value.int (0+c) _=_;rw[Int.zero_add]
end
end Mine.Q
namespace Mine.Q
theorem fill_QTab:hd.heap_39=hd.heap_39/\PySem.Challenge.rw_no0258_01=PySem.Challenge.rw_no0258_01:=by k_fill;exact⟨rfl,rfl⟩
structure ClsOk(w:World)(C:Addr)(r:ClsRow):Prop where
 keep:keepIn (KF w) (.ref C)=true
 makes:makesIn (KF w) C=true
 init:findIn (KF w) (.ref C) "__init__"=some (some (.ref r.init))
 initF:isFn (KF w) (.ref r.init)=true
 pg:∀name,plainGet (KF w) C name=true
 hd:hasDictIn (KF w) C=true
 sa:findIn (KF w) (.ref C) "__setattr__"=some (some (.builtin "object.__setattr__"))
 po:plainOver (KF w) C=true
 at_:∀i∈r.attrs,(∃a,findIn (KF w) (.ref C) (nm i)=some a/\noGet (KF w) a=true)/\takerIn (KF w) C (nm i)=some none
 me:∀p∈r.meths,findIn (KF w) (.ref C) (nm p.1)=some (some (.ref p.2))/\isFn (KF w) (.ref p.2)=true/\keepIn (KF w) (.ref p.2)=true
section
variable{w:World}
theorem gv_DOUBLE:nsIn (hd.heap_39 w.params) mainGlobals "DOUBLE"=some (some (.int 2 270)):=by k_dflt k_is
theorem gv_COMPLEX:nsIn (hd.heap_39 w.params) mainGlobals "COMPLEX"=some (some (.int 3 272)):=by k_dflt k_is
theorem gv_CHARACTER:nsIn (hd.heap_39 w.params) mainGlobals "CHARACTER"=some (some (.int 5 274)):=by k_dflt k_is
theorem gv_units_of:nsIn (hd.heap_39 w.params) mainGlobals "units_of"=some (some (.ref 79)):=by k_dflt k_is
theorem gv_BAD_UNIT:nsIn (hd.heap_39 w.params) mainGlobals "BAD_UNIT"=some (some (.int 10 285)):=by k_dflt k_is
theorem gv_NOT_CONNECTED:nsIn (hd.heap_39 w.params) mainGlobals "NOT_CONNECTED"=some (some (.int 11 287)):=by k_dflt k_is
theorem gv_BAD_WORD:nsIn (hd.heap_39 w.params) mainGlobals "BAD_WORD"=some (some (.int 12 289)):=by k_dflt k_is
theorem gv_NO_FILE:nsIn (hd.heap_39 w.params) mainGlobals "NO_FILE"=some (some (.int 13 291)):=by k_dflt k_is
theorem gv_FILE_EXISTS:nsIn (hd.heap_39 w.params) mainGlobals "FILE_EXISTS"=some (some (.int 14 293)):=by k_dflt k_is
theorem gv_FILE_IN_USE:nsIn (hd.heap_39 w.params) mainGlobals "FILE_IN_USE"=some (some (.int 15 295)):=by k_dflt k_is
theorem gv_WRONG_SORT:nsIn (hd.heap_39 w.params) mainGlobals "WRONG_SORT"=some (some (.int 16 297)):=by k_dflt k_is
theorem gv_BEHIND_END:nsIn (hd.heap_39 w.params) mainGlobals "BEHIND_END"=some (some (.int 17 299)):=by k_dflt k_is
theorem gv_NO_RECORD:nsIn (hd.heap_39 w.params) mainGlobals "NO_RECORD"=some (some (.int 18 301)):=by k_dflt k_is
theorem gv_TOO_LONG:nsIn (hd.heap_39 w.params) mainGlobals "TOO_LONG"=some (some (.int 19 303)):=by k_dflt k_is
theorem gv_BAD_NAME:nsIn (hd.heap_39 w.params) mainGlobals "BAD_NAME"=some (some (.int 20 305)):=by k_dflt k_is
theorem gv_STATUSES:nsIn (hd.heap_39 w.params) mainGlobals "STATUSES"=some (some (.ref 80)):=by k_dflt k_is
theorem gv_ACCESSES:nsIn (hd.heap_39 w.params) mainGlobals "ACCESSES"=some (some (.ref 81)):=by k_dflt k_is
theorem gv_FORMS:nsIn (hd.heap_39 w.params) mainGlobals "FORMS"=some (some (.ref 82)):=by k_dflt k_is
theorem gv_BLANKS:nsIn (hd.heap_39 w.params) mainGlobals "BLANKS"=some (some (.ref 83)):=by k_dflt k_is
theorem gv_File:nsIn (hd.heap_39 w.params) mainGlobals "File"=some (some (.ref 100)):=by k_dflt k_is
theorem gv_Store:nsIn (hd.heap_39 w.params) mainGlobals "Store"=some (some (.ref 121)):=by k_dflt k_is
theorem gv_Unit:nsIn (hd.heap_39 w.params) mainGlobals "Unit"=some (some (.ref 142)):=by k_dflt k_is
theorem gv_word_told:nsIn (hd.heap_39 w.params) mainGlobals "word_told"=some (some (.ref 153)):=by k_dflt k_is
theorem gv_name_told:nsIn (hd.heap_39 w.params) mainGlobals "name_told"=some (some (.ref 160)):=by k_dflt k_is
theorem gv_sort_told:nsIn (hd.heap_39 w.params) mainGlobals "sort_told"=some (some (.ref 167)):=by k_dflt k_is
theorem gv_check_sort:nsIn (hd.heap_39 w.params) mainGlobals "check_sort"=some (some (.ref 174)):=by k_dflt k_is
theorem gv_unit_of_name:nsIn (hd.heap_39 w.params) mainGlobals "unit_of_name"=some (some (.ref 181)):=by k_dflt k_is
theorem gv_found_file:nsIn (hd.heap_39 w.params) mainGlobals "found_file"=some (some (.ref 188)):=by k_dflt k_is
theorem gv_open_again:nsIn (hd.heap_39 w.params) mainGlobals "open_again"=some (some (.ref 195)):=by k_dflt k_is
theorem gv_open_unit:nsIn (hd.heap_39 w.params) mainGlobals "open_unit"=some (some (.ref 202)):=by k_dflt k_is
theorem gv_unit_of:nsIn (hd.heap_39 w.params) mainGlobals "unit_of"=some (some (.ref 209)):=by k_dflt k_is
theorem gv_need_access:nsIn (hd.heap_39 w.params) mainGlobals "need_access"=some (some (.ref 216)):=by k_dflt k_is
theorem gv_need_form:nsIn (hd.heap_39 w.params) mainGlobals "need_form"=some (some (.ref 223)):=by k_dflt k_is
theorem gv_read_record:nsIn (hd.heap_39 w.params) mainGlobals "read_record"=some (some (.ref 230)):=by k_dflt k_is
theorem gv_cut_file:nsIn (hd.heap_39 w.params) mainGlobals "cut_file"=some (some (.ref 237)):=by k_dflt k_is
theorem gv_write_record:nsIn (hd.heap_39 w.params) mainGlobals "write_record"=some (some (.ref 244)):=by k_dflt k_is
theorem gv_size_of:nsIn (hd.heap_39 w.params) mainGlobals "size_of"=some (some (.ref 251)):=by k_dflt k_is
theorem gv_read_direct:nsIn (hd.heap_39 w.params) mainGlobals "read_direct"=some (some (.ref 258)):=by k_dflt k_is
theorem gv_write_direct:nsIn (hd.heap_39 w.params) mainGlobals "write_direct"=some (some (.ref 265)):=by k_dflt k_is
theorem gv_UnitSource:nsIn (hd.heap_39 w.params) mainGlobals "UnitSource"=some (some (.ref 289)):=by k_dflt k_is
theorem gv_fit_internal:nsIn (hd.heap_39 w.params) mainGlobals "fit_internal"=some (some (.ref 300)):=by k_dflt k_is
theorem gv_ListSource:nsIn (hd.heap_39 w.params) mainGlobals "ListSource"=some (some (.ref 324)):=by k_dflt k_is
theorem gv_World:nsIn (hd.heap_39 w.params) mainGlobals "World"=some (some (.ref 345)):=by k_dflt k_is
theorem gv_next_input:nsIn (hd.heap_39 w.params) mainGlobals "next_input"=some (some (.ref 356)):=by k_dflt k_is
theorem gv_INPUT_UNIT:nsIn (hd.heap_39 w.params) mainGlobals "INPUT_UNIT"=some (some (.int 5 708)):=by k_dflt k_is
theorem gv_OUTPUT_UNIT:nsIn (hd.heap_39 w.params) mainGlobals "OUTPUT_UNIT"=some (some (.int 6 710)):=by k_dflt k_is
theorem gv_InputSource:nsIn (hd.heap_39 w.params) mainGlobals "InputSource"=some (some (.ref 380)):=by k_dflt k_is
theorem gv_DirectSource:nsIn (hd.heap_39 w.params) mainGlobals "DirectSource"=some (some (.ref 408)):=by k_dflt k_is
theorem gv_is_internal:nsIn (hd.heap_39 w.params) mainGlobals "is_internal"=some (some (.ref 419)):=by k_dflt k_is
theorem gv_unit_for:nsIn (hd.heap_39 w.params) mainGlobals "unit_for"=some (some (.ref 426)):=by k_dflt k_is
theorem gv_is_standard:nsIn (hd.heap_39 w.params) mainGlobals "is_standard"=some (some (.ref 433)):=by k_dflt k_is
theorem gv_deliver:nsIn (hd.heap_39 w.params) mainGlobals "deliver"=some (some (.ref 440)):=by k_dflt k_is
theorem gv_source_of:nsIn (hd.heap_39 w.params) mainGlobals "source_of"=some (some (.ref 447)):=by k_dflt k_is
theorem gv_BAD_RECORD:nsIn (hd.heap_39 w.params) mainGlobals "BAD_RECORD"=some (some (.int 7 836)):=by k_dflt k_is
theorem gv_PlainOut:nsIn (hd.heap_39 w.params) mainGlobals "PlainOut"=some (some (.ref 478)):=by k_dflt k_is
theorem gv_PlainIn:nsIn (hd.heap_39 w.params) mainGlobals "PlainIn"=some (some (.ref 513)):=by k_dflt k_is
theorem gv_law_sorts:nsIn (hd.heap_39 w.params) mainGlobals "_law_sorts"=some (some (.ref 524)):=by k_dflt k_is
theorem gv_law_take:nsIn (hd.heap_39 w.params) mainGlobals "_law_take"=some (some (.ref 531)):=by k_dflt k_is
theorem gv_law_world:nsIn (hd.heap_39 w.params) mainGlobals "_law_world"=some (some (.ref 536)):=by k_dflt k_is
theorem gv_law_size:nsIn (hd.heap_39 w.params) mainGlobals "_law_size"=some (some (.ref 541)):=by k_dflt k_is
theorem gv_law_unit:nsIn (hd.heap_39 w.params) mainGlobals "_law_unit"=some (some (.ref 548)):=by k_dflt k_is
theorem gv_law_put:nsIn (hd.heap_39 w.params) mainGlobals "_law_put"=some (some (.ref 555)):=by k_dflt k_is
theorem gv_law_get:nsIn (hd.heap_39 w.params) mainGlobals "_law_get"=some (some (.ref 562)):=by k_dflt k_is
theorem gv_law_inner:nsIn (hd.heap_39 w.params) mainGlobals "_law_inner"=some (some (.ref 567)):=by k_dflt k_is
theorem gv_law_written:nsIn (hd.heap_39 w.params) mainGlobals "_law_written"=some (some (.ref 574)):=by k_dflt k_is
theorem gv_law_read:nsIn (hd.heap_39 w.params) mainGlobals "_law_read"=some (some (.ref 581)):=by k_dflt k_is
theorem gv_law_plain:nsIn (hd.heap_39 w.params) mainGlobals "_law_plain"=some (some (.ref 586)):=by k_dflt k_is
theorem gv_law_same:nsIn (hd.heap_39 w.params) mainGlobals "_law_same"=some (some (.ref 593)):=by k_dflt k_is
theorem gv_law:nsIn (hd.heap_39 w.params) mainGlobals "law"=some (some (.ref 598)):=by k_dflt k_is
end
noncomputable def gvT:List (Nat×Value):=[(85,.int 2 270),(86,.int 3 272),(87,.int 5 274),(88,.ref 79),(89,.int 10 285),(90,.int 11 287),(91,.int 12 289),(92,.int 13 291),(93,.int 14 293),(94,.int 15 295),(95,.int 16 297),(96,.int 17 299),(97,.int 18 301),(98,.int 19 303),(99,.int 20 305),(100,.ref 80),(101,.ref 81),(102,.ref 82),(103,.ref 83),(104,.ref 100),(105,.ref 121),(106,.ref 142),(107,.ref 153),(108,.ref 160),(109,.ref 167),(110,.ref 174),(111,.ref 181),(112,.ref 188),(113,.ref 195),(114,.ref 202),(115,.ref 209),(116,.ref 216),(117,.ref 223),(118,.ref 230),(119,.ref 237),(120,.ref 244),(121,.ref 251),(122,.ref 258),(123,.ref 265),(124,.ref 289),(125,.ref 300),(126,.ref 324),(127,.ref 345),(128,.ref 356),(129,.int 5 708),(130,.int 6 710),(131,.ref 380),(132,.ref 408),(133,.ref 419),(134,.ref 426),(135,.ref 433),(136,.ref 440),(137,.ref 447),(138,.int 7 836),(139,.ref 478),(140,.ref 513),(141,.ref 524),(142,.ref 531),(143,.ref 536),(144,.ref 541),(145,.ref 548),(146,.ref 555),(147,.ref 562),(148,.ref 567),(149,.ref 574),(150,.ref 581),(151,.ref 586),(152,.ref 593),(153,.ref 598)]
theorem gv_all{w:World}:∀p∈gvT,nsIn (hd.heap_39 w.params) mainGlobals (nm p.1)=some (some p.2):=by
 unfold gvT
 refine fc gv_DOUBLE<|fc gv_COMPLEX<|fc gv_CHARACTER<|fc gv_units_of<|fc gv_BAD_UNIT<|fc gv_NOT_CONNECTED<|fc gv_BAD_WORD<|fc gv_NO_FILE<|fc gv_FILE_EXISTS<|fc gv_FILE_IN_USE<|fc gv_WRONG_SORT<|fc gv_BEHIND_END<|fc gv_NO_RECORD<|fc gv_TOO_LONG<|fc gv_BAD_NAME<|fc gv_STATUSES<|fc gv_ACCESSES<|fc gv_FORMS<|fc gv_BLANKS<|fc gv_File<|fc gv_Store<|fc gv_Unit<|fc gv_word_told<|fc gv_name_told<|fc gv_sort_told<|fc gv_check_sort<|fc gv_unit_of_name<|fc gv_found_file<|fc gv_open_again<|fc gv_open_unit<|fc gv_unit_of<|fc gv_need_access<|fc gv_need_form<|fc gv_read_record<|fc gv_cut_file<|fc gv_write_record<|fc gv_size_of<|fc gv_read_direct<|fc gv_write_direct<|fc gv_UnitSource<|fc gv_fit_internal<|fc gv_ListSource<|fc gv_World<|fc gv_next_input<|fc gv_INPUT_UNIT<|fc gv_OUTPUT_UNIT<|fc gv_InputSource<|fc gv_DirectSource<|fc gv_is_internal<|fc gv_unit_for<|fc gv_is_standard<|fc gv_deliver<|fc gv_source_of<|fc gv_BAD_RECORD<|fc gv_PlainOut<|fc gv_PlainIn<|fc gv_law_sorts<|fc gv_law_take<|fc gv_law_world<|fc gv_law_size<|fc gv_law_unit<|fc gv_law_put<|fc gv_law_get<|fc gv_law_inner<|fc gv_law_written<|fc gv_law_read<|fc gv_law_plain<|fc gv_law_same<|fc gv_law fz
section
variable{w:World}
theorem c100_1:keepIn (hd.heap_39 w.params) (.ref 100)=true:=by k_dflt k_is
theorem c100_2:makesIn (hd.heap_39 w.params) 100=true:=by k_dflt k_is
theorem c100_3:findIn (hd.heap_39 w.params) (.ref 100) "__init__"=some (some (.ref 97)):=by k_dflt k_is
theorem c100_4:isFn (hd.heap_39 w.params) (.ref 97)=true:=by k_dflt k_is
theorem c100_5:plainGet (hd.heap_39 w.params) 100 "x"=true:=by k_dflt k_is
theorem c100_6:hasDictIn (hd.heap_39 w.params) 100=true:=by k_dflt k_is
theorem c100_7:findIn (hd.heap_39 w.params) (.ref 100) "__setattr__"=some (some (.builtin "object.__setattr__")):=by k_dflt k_is
theorem c100_8:plainOver (hd.heap_39 w.params) 100=true:=by k_dflt k_is
theorem c100_a4:findIn (hd.heap_39 w.params) (.ref 100) "name"=some none:=by k_dflt k_is
theorem c100_t4:takerIn (hd.heap_39 w.params) 100 "name"=some none:=by k_dflt k_is
theorem c100_a5:findIn (hd.heap_39 w.params) (.ref 100) "access"=some none:=by k_dflt k_is
theorem c100_t5:takerIn (hd.heap_39 w.params) 100 "access"=some none:=by k_dflt k_is
theorem c100_a6:findIn (hd.heap_39 w.params) (.ref 100) "form"=some none:=by k_dflt k_is
theorem c100_t6:takerIn (hd.heap_39 w.params) 100 "form"=some none:=by k_dflt k_is
theorem c100_a7:findIn (hd.heap_39 w.params) (.ref 100) "length"=some none:=by k_dflt k_is
theorem c100_t7:takerIn (hd.heap_39 w.params) 100 "length"=some none:=by k_dflt k_is
theorem c100_a8:findIn (hd.heap_39 w.params) (.ref 100) "records"=some none:=by k_dflt k_is
theorem c100_t8:takerIn (hd.heap_39 w.params) 100 "records"=some none:=by k_dflt k_is
theorem c100_a9:findIn (hd.heap_39 w.params) (.ref 100) "numbered"=some none:=by k_dflt k_is
theorem c100_t9:takerIn (hd.heap_39 w.params) 100 "numbered"=some none:=by k_dflt k_is
theorem c100_ok:ClsOk w 100 ⟨97,[],[4,5,6,7,8,9]⟩:=
 ⟨c100_1,c100_2,c100_3,c100_4,λ_=>c100_5,c100_6,c100_7,c100_8,(fc ⟨⟨none,c100_a4,rfl⟩,c100_t4⟩<|fc ⟨⟨none,c100_a5,rfl⟩,c100_t5⟩<|fc ⟨⟨none,c100_a6,rfl⟩,c100_t6⟩<|fc ⟨⟨none,c100_a7,rfl⟩,c100_t7⟩<|fc ⟨⟨none,c100_a8,rfl⟩,c100_t8⟩<|fc ⟨⟨none,c100_a9,rfl⟩,c100_t9⟩ fz),λ_ h=>nomatch h⟩
end
section
variable{w:World}
theorem c121_1:keepIn (hd.heap_39 w.params) (.ref 121)=true:=by k_dflt k_is
theorem c121_2:makesIn (hd.heap_39 w.params) 121=true:=by k_dflt k_is
theorem c121_3:findIn (hd.heap_39 w.params) (.ref 121) "__init__"=some (some (.ref 118)):=by k_dflt k_is
theorem c121_4:isFn (hd.heap_39 w.params) (.ref 118)=true:=by k_dflt k_is
theorem c121_5:plainGet (hd.heap_39 w.params) 121 "x"=true:=by k_dflt k_is
theorem c121_6:hasDictIn (hd.heap_39 w.params) 121=true:=by k_dflt k_is
theorem c121_7:findIn (hd.heap_39 w.params) (.ref 121) "__setattr__"=some (some (.builtin "object.__setattr__")):=by k_dflt k_is
theorem c121_8:plainOver (hd.heap_39 w.params) 121=true:=by k_dflt k_is
theorem c121_a10:findIn (hd.heap_39 w.params) (.ref 121) "files"=some none:=by k_dflt k_is
theorem c121_t10:takerIn (hd.heap_39 w.params) 121 "files"=some none:=by k_dflt k_is
theorem c121_ok:ClsOk w 121 ⟨118,[],[10]⟩:=
 ⟨c121_1,c121_2,c121_3,c121_4,λ_=>c121_5,c121_6,c121_7,c121_8,(fc ⟨⟨none,c121_a10,rfl⟩,c121_t10⟩ fz),λ_ h=>nomatch h⟩
end
section
variable{w:World}
theorem c142_1:keepIn (hd.heap_39 w.params) (.ref 142)=true:=by k_dflt k_is
theorem c142_2:makesIn (hd.heap_39 w.params) 142=true:=by k_dflt k_is
theorem c142_3:findIn (hd.heap_39 w.params) (.ref 142) "__init__"=some (some (.ref 139)):=by k_dflt k_is
theorem c142_4:isFn (hd.heap_39 w.params) (.ref 139)=true:=by k_dflt k_is
theorem c142_5:plainGet (hd.heap_39 w.params) 142 "x"=true:=by k_dflt k_is
theorem c142_6:hasDictIn (hd.heap_39 w.params) 142=true:=by k_dflt k_is
theorem c142_7:findIn (hd.heap_39 w.params) (.ref 142) "__setattr__"=some (some (.builtin "object.__setattr__")):=by k_dflt k_is
theorem c142_8:plainOver (hd.heap_39 w.params) 142=true:=by k_dflt k_is
theorem c142_a11:findIn (hd.heap_39 w.params) (.ref 142) "number"=some none:=by k_dflt k_is
theorem c142_t11:takerIn (hd.heap_39 w.params) 142 "number"=some none:=by k_dflt k_is
theorem c142_a12:findIn (hd.heap_39 w.params) (.ref 142) "file"=some none:=by k_dflt k_is
theorem c142_t12:takerIn (hd.heap_39 w.params) 142 "file"=some none:=by k_dflt k_is
theorem c142_a13:findIn (hd.heap_39 w.params) (.ref 142) "blank"=some none:=by k_dflt k_is
theorem c142_t13:takerIn (hd.heap_39 w.params) 142 "blank"=some none:=by k_dflt k_is
theorem c142_a14:findIn (hd.heap_39 w.params) (.ref 142) "place"=some none:=by k_dflt k_is
theorem c142_t14:takerIn (hd.heap_39 w.params) 142 "place"=some none:=by k_dflt k_is
theorem c142_ok:ClsOk w 142 ⟨139,[],[11,12,13,14]⟩:=
 ⟨c142_1,c142_2,c142_3,c142_4,λ_=>c142_5,c142_6,c142_7,c142_8,(fc ⟨⟨none,c142_a11,rfl⟩,c142_t11⟩<|fc ⟨⟨none,c142_a12,rfl⟩,c142_t12⟩<|fc ⟨⟨none,c142_a13,rfl⟩,c142_t13⟩<|fc ⟨⟨none,c142_a14,rfl⟩,c142_t14⟩ fz),λ_ h=>nomatch h⟩
end
section
variable{w:World}
theorem c289_1:keepIn (hd.heap_39 w.params) (.ref 289)=true:=by k_dflt k_is
theorem c289_2:makesIn (hd.heap_39 w.params) 289=true:=by k_dflt k_is
theorem c289_3:findIn (hd.heap_39 w.params) (.ref 289) "__init__"=some (some (.ref 279)):=by k_dflt k_is
theorem c289_4:isFn (hd.heap_39 w.params) (.ref 279)=true:=by k_dflt k_is
theorem c289_5:plainGet (hd.heap_39 w.params) 289 "x"=true:=by k_dflt k_is
theorem c289_6:hasDictIn (hd.heap_39 w.params) 289=true:=by k_dflt k_is
theorem c289_7:findIn (hd.heap_39 w.params) (.ref 289) "__setattr__"=some (some (.builtin "object.__setattr__")):=by k_dflt k_is
theorem c289_8:plainOver (hd.heap_39 w.params) 289=true:=by k_dflt k_is
theorem c289_a23:findIn (hd.heap_39 w.params) (.ref 289) "unit"=some none:=by k_dflt k_is
theorem c289_t23:takerIn (hd.heap_39 w.params) 289 "unit"=some none:=by k_dflt k_is
theorem c289_m74:findIn (hd.heap_39 w.params) (.ref 289) "next_record"=some (some (.ref 286))/\isFn (hd.heap_39 w.params) (.ref 286)=true/\keepIn (hd.heap_39 w.params) (.ref 286)=true:=⟨by k_dflt k_is,by k_dflt k_is,by k_dflt k_is⟩
theorem c289_ok:ClsOk w 289 ⟨279,[(74,286)],[23]⟩:=
 ⟨c289_1,c289_2,c289_3,c289_4,λ_=>c289_5,c289_6,c289_7,c289_8,(fc ⟨⟨none,c289_a23,rfl⟩,c289_t23⟩ fz),fc c289_m74 fz⟩
end
section
variable{w:World}
theorem c324_1:keepIn (hd.heap_39 w.params) (.ref 324)=true:=by k_dflt k_is
theorem c324_2:makesIn (hd.heap_39 w.params) 324=true:=by k_dflt k_is
theorem c324_3:findIn (hd.heap_39 w.params) (.ref 324) "__init__"=some (some (.ref 314)):=by k_dflt k_is
theorem c324_4:isFn (hd.heap_39 w.params) (.ref 314)=true:=by k_dflt k_is
theorem c324_5:plainGet (hd.heap_39 w.params) 324 "x"=true:=by k_dflt k_is
theorem c324_6:hasDictIn (hd.heap_39 w.params) 324=true:=by k_dflt k_is
theorem c324_7:findIn (hd.heap_39 w.params) (.ref 324) "__setattr__"=some (some (.builtin "object.__setattr__")):=by k_dflt k_is
theorem c324_8:plainOver (hd.heap_39 w.params) 324=true:=by k_dflt k_is
theorem c324_a8:findIn (hd.heap_39 w.params) (.ref 324) "records"=some none:=by k_dflt k_is
theorem c324_t8:takerIn (hd.heap_39 w.params) 324 "records"=some none:=by k_dflt k_is
theorem c324_a29:findIn (hd.heap_39 w.params) (.ref 324) "at"=some none:=by k_dflt k_is
theorem c324_t29:takerIn (hd.heap_39 w.params) 324 "at"=some none:=by k_dflt k_is
theorem c324_m74:findIn (hd.heap_39 w.params) (.ref 324) "next_record"=some (some (.ref 321))/\isFn (hd.heap_39 w.params) (.ref 321)=true/\keepIn (hd.heap_39 w.params) (.ref 321)=true:=⟨by k_dflt k_is,by k_dflt k_is,by k_dflt k_is⟩
theorem c324_ok:ClsOk w 324 ⟨314,[(74,321)],[8,29]⟩:=
 ⟨c324_1,c324_2,c324_3,c324_4,λ_=>c324_5,c324_6,c324_7,c324_8,(fc ⟨⟨none,c324_a8,rfl⟩,c324_t8⟩<|fc ⟨⟨none,c324_a29,rfl⟩,c324_t29⟩ fz),fc c324_m74 fz⟩
end
section
variable{w:World}
theorem c345_1:keepIn (hd.heap_39 w.params) (.ref 345)=true:=by k_dflt k_is
theorem c345_2:makesIn (hd.heap_39 w.params) 345=true:=by k_dflt k_is
theorem c345_3:findIn (hd.heap_39 w.params) (.ref 345) "__init__"=some (some (.ref 342)):=by k_dflt k_is
theorem c345_4:isFn (hd.heap_39 w.params) (.ref 342)=true:=by k_dflt k_is
theorem c345_5:plainGet (hd.heap_39 w.params) 345 "x"=true:=by k_dflt k_is
theorem c345_6:hasDictIn (hd.heap_39 w.params) 345=true:=by k_dflt k_is
theorem c345_7:findIn (hd.heap_39 w.params) (.ref 345) "__setattr__"=some (some (.builtin "object.__setattr__")):=by k_dflt k_is
theorem c345_8:plainOver (hd.heap_39 w.params) 345=true:=by k_dflt k_is
theorem c345_a31:findIn (hd.heap_39 w.params) (.ref 345) "input"=some none:=by k_dflt k_is
theorem c345_t31:takerIn (hd.heap_39 w.params) 345 "input"=some none:=by k_dflt k_is
theorem c345_a29:findIn (hd.heap_39 w.params) (.ref 345) "at"=some none:=by k_dflt k_is
theorem c345_t29:takerIn (hd.heap_39 w.params) 345 "at"=some none:=by k_dflt k_is
theorem c345_a28:findIn (hd.heap_39 w.params) (.ref 345) "out"=some none:=by k_dflt k_is
theorem c345_t28:takerIn (hd.heap_39 w.params) 345 "out"=some none:=by k_dflt k_is
theorem c345_a21:findIn (hd.heap_39 w.params) (.ref 345) "store"=some none:=by k_dflt k_is
theorem c345_t21:takerIn (hd.heap_39 w.params) 345 "store"=some none:=by k_dflt k_is
theorem c345_a20:findIn (hd.heap_39 w.params) (.ref 345) "units"=some none:=by k_dflt k_is
theorem c345_t20:takerIn (hd.heap_39 w.params) 345 "units"=some none:=by k_dflt k_is
theorem c345_a32:findIn (hd.heap_39 w.params) (.ref 345) "makers"=some none:=by k_dflt k_is
theorem c345_t32:takerIn (hd.heap_39 w.params) 345 "makers"=some none:=by k_dflt k_is
theorem c345_ok:ClsOk w 345 ⟨342,[],[31,29,28,21,20,32]⟩:=
 ⟨c345_1,c345_2,c345_3,c345_4,λ_=>c345_5,c345_6,c345_7,c345_8,(fc ⟨⟨none,c345_a31,rfl⟩,c345_t31⟩<|fc ⟨⟨none,c345_a29,rfl⟩,c345_t29⟩<|fc ⟨⟨none,c345_a28,rfl⟩,c345_t28⟩<|fc ⟨⟨none,c345_a21,rfl⟩,c345_t21⟩<|fc ⟨⟨none,c345_a20,rfl⟩,c345_t20⟩<|fc ⟨⟨none,c345_a32,rfl⟩,c345_t32⟩ fz),λ_ h=>nomatch h⟩
end
section
variable{w:World}
theorem c380_1:keepIn (hd.heap_39 w.params) (.ref 380)=true:=by k_dflt k_is
theorem c380_2:makesIn (hd.heap_39 w.params) 380=true:=by k_dflt k_is
theorem c380_3:findIn (hd.heap_39 w.params) (.ref 380) "__init__"=some (some (.ref 370)):=by k_dflt k_is
theorem c380_4:isFn (hd.heap_39 w.params) (.ref 370)=true:=by k_dflt k_is
theorem c380_5:plainGet (hd.heap_39 w.params) 380 "x"=true:=by k_dflt k_is
theorem c380_6:hasDictIn (hd.heap_39 w.params) 380=true:=by k_dflt k_is
theorem c380_7:findIn (hd.heap_39 w.params) (.ref 380) "__setattr__"=some (some (.builtin "object.__setattr__")):=by k_dflt k_is
theorem c380_8:plainOver (hd.heap_39 w.params) 380=true:=by k_dflt k_is
theorem c380_a33:findIn (hd.heap_39 w.params) (.ref 380) "world"=some none:=by k_dflt k_is
theorem c380_t33:takerIn (hd.heap_39 w.params) 380 "world"=some none:=by k_dflt k_is
theorem c380_m74:findIn (hd.heap_39 w.params) (.ref 380) "next_record"=some (some (.ref 377))/\isFn (hd.heap_39 w.params) (.ref 377)=true/\keepIn (hd.heap_39 w.params) (.ref 377)=true:=⟨by k_dflt k_is,by k_dflt k_is,by k_dflt k_is⟩
theorem c380_ok:ClsOk w 380 ⟨370,[(74,377)],[33]⟩:=
 ⟨c380_1,c380_2,c380_3,c380_4,λ_=>c380_5,c380_6,c380_7,c380_8,(fc ⟨⟨none,c380_a33,rfl⟩,c380_t33⟩ fz),fc c380_m74 fz⟩
end
section
variable{w:World}
theorem c408_1:keepIn (hd.heap_39 w.params) (.ref 408)=true:=by k_dflt k_is
theorem c408_2:makesIn (hd.heap_39 w.params) 408=true:=by k_dflt k_is
theorem c408_3:findIn (hd.heap_39 w.params) (.ref 408) "__init__"=some (some (.ref 398)):=by k_dflt k_is
theorem c408_4:isFn (hd.heap_39 w.params) (.ref 398)=true:=by k_dflt k_is
theorem c408_5:plainGet (hd.heap_39 w.params) 408 "x"=true:=by k_dflt k_is
theorem c408_6:hasDictIn (hd.heap_39 w.params) 408=true:=by k_dflt k_is
theorem c408_7:findIn (hd.heap_39 w.params) (.ref 408) "__setattr__"=some (some (.builtin "object.__setattr__")):=by k_dflt k_is
theorem c408_8:plainOver (hd.heap_39 w.params) 408=true:=by k_dflt k_is
theorem c408_a23:findIn (hd.heap_39 w.params) (.ref 408) "unit"=some none:=by k_dflt k_is
theorem c408_t23:takerIn (hd.heap_39 w.params) 408 "unit"=some none:=by k_dflt k_is
theorem c408_a34:findIn (hd.heap_39 w.params) (.ref 408) "rec"=some none:=by k_dflt k_is
theorem c408_t34:takerIn (hd.heap_39 w.params) 408 "rec"=some none:=by k_dflt k_is
theorem c408_m74:findIn (hd.heap_39 w.params) (.ref 408) "next_record"=some (some (.ref 405))/\isFn (hd.heap_39 w.params) (.ref 405)=true/\keepIn (hd.heap_39 w.params) (.ref 405)=true:=⟨by k_dflt k_is,by k_dflt k_is,by k_dflt k_is⟩
theorem c408_ok:ClsOk w 408 ⟨398,[(74,405)],[23,34]⟩:=
 ⟨c408_1,c408_2,c408_3,c408_4,λ_=>c408_5,c408_6,c408_7,c408_8,(fc ⟨⟨none,c408_a23,rfl⟩,c408_t23⟩<|fc ⟨⟨none,c408_a34,rfl⟩,c408_t34⟩ fz),fc c408_m74 fz⟩
end
section
variable{w:World}
theorem c478_1:keepIn (hd.heap_39 w.params) (.ref 478)=true:=by k_dflt k_is
theorem c478_2:makesIn (hd.heap_39 w.params) 478=true:=by k_dflt k_is
theorem c478_3:findIn (hd.heap_39 w.params) (.ref 478) "__init__"=some (some (.ref 461)):=by k_dflt k_is
theorem c478_4:isFn (hd.heap_39 w.params) (.ref 461)=true:=by k_dflt k_is
theorem c478_5:plainGet (hd.heap_39 w.params) 478 "x"=true:=by k_dflt k_is
theorem c478_6:hasDictIn (hd.heap_39 w.params) 478=true:=by k_dflt k_is
theorem c478_7:findIn (hd.heap_39 w.params) (.ref 478) "__setattr__"=some (some (.builtin "object.__setattr__")):=by k_dflt k_is
theorem c478_8:plainOver (hd.heap_39 w.params) 478=true:=by k_dflt k_is
theorem c478_a37:findIn (hd.heap_39 w.params) (.ref 478) "items"=some none:=by k_dflt k_is
theorem c478_t37:takerIn (hd.heap_39 w.params) 478 "items"=some none:=by k_dflt k_is
theorem c478_m76:findIn (hd.heap_39 w.params) (.ref 478) "put"=some (some (.ref 468))/\isFn (hd.heap_39 w.params) (.ref 468)=true/\keepIn (hd.heap_39 w.params) (.ref 468)=true:=⟨by k_dflt k_is,by k_dflt k_is,by k_dflt k_is⟩
theorem c478_m77:findIn (hd.heap_39 w.params) (.ref 478) "finish"=some (some (.ref 475))/\isFn (hd.heap_39 w.params) (.ref 475)=true/\keepIn (hd.heap_39 w.params) (.ref 475)=true:=⟨by k_dflt k_is,by k_dflt k_is,by k_dflt k_is⟩
theorem c478_ok:ClsOk w 478 ⟨461,[(76,468),(77,475)],[37]⟩:=
 ⟨c478_1,c478_2,c478_3,c478_4,λ_=>c478_5,c478_6,c478_7,c478_8,(fc ⟨⟨none,c478_a37,rfl⟩,c478_t37⟩ fz),fc c478_m76<|fc c478_m77 fz⟩
end
section
variable{w:World}
theorem c513_1:keepIn (hd.heap_39 w.params) (.ref 513)=true:=by k_dflt k_is
theorem c513_2:makesIn (hd.heap_39 w.params) 513=true:=by k_dflt k_is
theorem c513_3:findIn (hd.heap_39 w.params) (.ref 513) "__init__"=some (some (.ref 496)):=by k_dflt k_is
theorem c513_4:isFn (hd.heap_39 w.params) (.ref 496)=true:=by k_dflt k_is
theorem c513_5:plainGet (hd.heap_39 w.params) 513 "x"=true:=by k_dflt k_is
theorem c513_6:hasDictIn (hd.heap_39 w.params) 513=true:=by k_dflt k_is
theorem c513_7:findIn (hd.heap_39 w.params) (.ref 513) "__setattr__"=some (some (.builtin "object.__setattr__")):=by k_dflt k_is
theorem c513_8:plainOver (hd.heap_39 w.params) 513=true:=by k_dflt k_is
theorem c513_a24:findIn (hd.heap_39 w.params) (.ref 513) "record"=some none:=by k_dflt k_is
theorem c513_t24:takerIn (hd.heap_39 w.params) 513 "record"=some none:=by k_dflt k_is
theorem c513_a29:findIn (hd.heap_39 w.params) (.ref 513) "at"=some none:=by k_dflt k_is
theorem c513_t29:takerIn (hd.heap_39 w.params) 513 "at"=some none:=by k_dflt k_is
theorem c513_m75:findIn (hd.heap_39 w.params) (.ref 513) "take"=some (some (.ref 503))/\isFn (hd.heap_39 w.params) (.ref 503)=true/\keepIn (hd.heap_39 w.params) (.ref 503)=true:=⟨by k_dflt k_is,by k_dflt k_is,by k_dflt k_is⟩
theorem c513_m77:findIn (hd.heap_39 w.params) (.ref 513) "finish"=some (some (.ref 510))/\isFn (hd.heap_39 w.params) (.ref 510)=true/\keepIn (hd.heap_39 w.params) (.ref 510)=true:=⟨by k_dflt k_is,by k_dflt k_is,by k_dflt k_is⟩
theorem c513_ok:ClsOk w 513 ⟨496,[(75,503),(77,510)],[24,29]⟩:=
 ⟨c513_1,c513_2,c513_3,c513_4,λ_=>c513_5,c513_6,c513_7,c513_8,(fc ⟨⟨none,c513_a24,rfl⟩,c513_t24⟩<|fc ⟨⟨none,c513_a29,rfl⟩,c513_t29⟩ fz),fc c513_m75<|fc c513_m77 fz⟩
end
theorem cl_all{w:World}:∀p∈clT,ClsOk w p.1 p.2:=by
 unfold clT
 exact fc c100_ok<|fc c121_ok<|fc c142_ok<|fc c289_ok<|fc c324_ok<|fc c345_ok<|fc c380_ok<|fc c408_ok<|fc c478_ok<|fc c513_ok fz
noncomputable def TupS(w:World)(a:Addr)(is:List Nat):Prop:=∃(od:Option Addr) (osl:Array (Option Value)) (items:Array Value) (n:Nat),(hd.heap_39 w.params).lookup a=some ⟨.type "tuple",od,.seq items n,osl⟩/\StrsAre items.toList (is.map nm)
theorem tupS_of{w:World}{a:Addr}{is:List Nat}{od:Option Addr}{osl:Array (Option Value)}{items:Array Value}{n:Nat}(h:(hd.heap_39 w.params).lookup a=some ⟨.type "tuple",od,.seq items n,osl⟩)(i:StrsAre items.toList (is.map nm)):TupS w a is:=⟨od,osl,items,n,h,i⟩
section
variable{w:World}
theorem tup80:TupS w 80 [167,168,169,170]:=by k_dflt (refine' tupS_of ?h ?i;(case h=>k_is);(case i=>exact .cons _ _ (.cons _ _ (.cons _ _ (.cons _ _ (.nil))))))
theorem tup81:TupS w 81 [163,164]:=by k_dflt (refine' tupS_of ?h ?i;(case h=>k_is);(case i=>exact .cons _ _ (.cons _ _ (.nil))))
theorem tup82:TupS w 82 [165,166]:=by k_dflt (refine' tupS_of ?h ?i;(case h=>k_is);(case i=>exact .cons _ _ (.cons _ _ (.nil))))
theorem tup83:TupS w 83 [171,172]:=by k_dflt (refine' tupS_of ?h ?i;(case h=>k_is);(case i=>exact .cons _ _ (.cons _ _ (.nil))))
theorem tup_all:∀p∈tupW,TupS w p.1 p.2:=fc tup80<|fc tup81<|fc tup82<|fc tup83 fz
theorem tup_is{d:Addr}{is:List Nat}{h:Heap}(e:lk tupW d=some is)(k:(KF w).In h):∃items,IsTup h d items/\StrsAre items.toList (is.map nm):=by
 obtain⟨od,osl,items,n,hl,hi⟩:=tup_all (w:=w) _ (lk_mem e)
 exact⟨items,⟨_,k _ _ hl,rfl,n,rfl⟩,hi⟩
theorem bn_len:nsIn (hd.heap_39 w.params) mainGlobals "len"=some none:=by k_dflt k_is
theorem bn_isinstance:nsIn (hd.heap_39 w.params) mainGlobals "isinstance"=some none:=by k_dflt k_is
theorem bn_str:nsIn (hd.heap_39 w.params) mainGlobals "str"=some none:=by k_dflt k_is
theorem bn_tuple:nsIn (hd.heap_39 w.params) mainGlobals "tuple"=some none:=by k_dflt k_is
theorem bn_int:nsIn (hd.heap_39 w.params) mainGlobals "int"=some none:=by k_dflt k_is
theorem bn_range:nsIn (hd.heap_39 w.params) mainGlobals "range"=some none:=by k_dflt k_is
theorem bn_sum:nsIn (hd.heap_39 w.params) mainGlobals "sum"=some none:=by k_dflt k_is
theorem bn_sorted:nsIn (hd.heap_39 w.params) mainGlobals "sorted"=some none:=by k_dflt k_is
theorem bn_list:nsIn (hd.heap_39 w.params) mainGlobals "list"=some none:=by k_dflt k_is
theorem bb_len:bootBuiltins "len"=some (.builtin "len"):=by decide+kernel
theorem bb_isinstance:bootBuiltins "isinstance"=some (.builtin "isinstance"):=by decide+kernel
theorem bb_sum:bootBuiltins "sum"=some (.builtin "sum"):=by decide+kernel
theorem bb_sorted:bootBuiltins "sorted"=some (.builtin "sorted"):=by decide+kernel
theorem bb_str:bootBuiltins "str"=some (.type "str"):=by decide+kernel
theorem bb_tuple:bootBuiltins "tuple"=some (.type "tuple"):=by decide+kernel
theorem bb_int:bootBuiltins "int"=some (.type "int"):=by decide+kernel
theorem bb_range:bootBuiltins "range"=some (.type "range"):=by decide+kernel
theorem bb_list:bootBuiltins "list"=some (.type "list"):=by decide+kernel
theorem gn_51:nsIn (hd.heap_39 w.params) mainGlobals "IoFault"=some (some (.ref 51)):=by k_dflt k_is
theorem ke_51:keepIn (hd.heap_39 w.params) (.ref 51)=true:=by k_dflt k_is
theorem gn_70:nsIn (hd.heap_39 w.params) mainGlobals "EndFault"=some (some (.ref 70)):=by k_dflt k_is
theorem ke_70:keepIn (hd.heap_39 w.params) (.ref 70)=true:=by k_dflt k_is
structure ExcOk(w:World)(C:Addr):Prop where
 cd:∃cd,clsIn (hd.heap_39 w.params) C=some cd/\cd.hasDict=true
 code:findIn (hd.heap_39 w.params) (.ref C) "code"=some none
 mro:mroIn (hd.heap_39 w.params) C (.type "BaseException")=some true
 ga:findIn (hd.heap_39 w.params) (.ref C) "__getattribute__"=some (some (.builtin "BaseException.__getattribute__"))
 gt:findIn (hd.heap_39 w.params) (.ref C) "__getattr__"=some none
 ex:exmOne (hd.heap_39 w.params) (.ref C) (.ref 51)=some true
theorem cd_of{C:Addr}{cd:ClassData}(h:clsIn (hd.heap_39 w.params) C=some cd)(h2:cd.hasDict=true):∃cd,clsIn (hd.heap_39 w.params) C=some cd/\cd.hasDict=true:=⟨cd,h,h2⟩
theorem exc51:ExcOk w 51:=⟨by k_dflt (refine' cd_of ?h ?h2;(case h=>k_is);(case h2=>exact rfl)),by k_dflt k_is,by k_dflt k_is,by k_dflt k_is,by k_dflt k_is,exmOne_of (by k_dflt k_is) (by k_dflt k_is) (by k_dflt k_is) (by k_dflt k_is)⟩
theorem exc70:ExcOk w 70:=⟨by k_dflt (refine' cd_of ?h ?h2;(case h=>k_is);(case h2=>exact rfl)),by k_dflt k_is,by k_dflt k_is,by k_dflt k_is,by k_dflt k_is,exmOne_of (by k_dflt k_is) (by k_dflt k_is) (by k_dflt k_is) (by k_dflt k_is)⟩
theorem fk79:keepIn (hd.heap_39 w.params) (.ref 79)=true:=by k_dflt k_is
theorem fk153:keepIn (hd.heap_39 w.params) (.ref 153)=true:=by k_dflt k_is
theorem fk160:keepIn (hd.heap_39 w.params) (.ref 160)=true:=by k_dflt k_is
theorem fk167:keepIn (hd.heap_39 w.params) (.ref 167)=true:=by k_dflt k_is
theorem fk174:keepIn (hd.heap_39 w.params) (.ref 174)=true:=by k_dflt k_is
theorem fk181:keepIn (hd.heap_39 w.params) (.ref 181)=true:=by k_dflt k_is
theorem fk188:keepIn (hd.heap_39 w.params) (.ref 188)=true:=by k_dflt k_is
theorem fk195:keepIn (hd.heap_39 w.params) (.ref 195)=true:=by k_dflt k_is
theorem fk202:keepIn (hd.heap_39 w.params) (.ref 202)=true:=by k_dflt k_is
theorem fk209:keepIn (hd.heap_39 w.params) (.ref 209)=true:=by k_dflt k_is
theorem fk216:keepIn (hd.heap_39 w.params) (.ref 216)=true:=by k_dflt k_is
theorem fk223:keepIn (hd.heap_39 w.params) (.ref 223)=true:=by k_dflt k_is
theorem fk230:keepIn (hd.heap_39 w.params) (.ref 230)=true:=by k_dflt k_is
theorem fk237:keepIn (hd.heap_39 w.params) (.ref 237)=true:=by k_dflt k_is
theorem fk244:keepIn (hd.heap_39 w.params) (.ref 244)=true:=by k_dflt k_is
theorem fk251:keepIn (hd.heap_39 w.params) (.ref 251)=true:=by k_dflt k_is
theorem fk258:keepIn (hd.heap_39 w.params) (.ref 258)=true:=by k_dflt k_is
theorem fk265:keepIn (hd.heap_39 w.params) (.ref 265)=true:=by k_dflt k_is
theorem fk300:keepIn (hd.heap_39 w.params) (.ref 300)=true:=by k_dflt k_is
theorem fk356:keepIn (hd.heap_39 w.params) (.ref 356)=true:=by k_dflt k_is
theorem fk419:keepIn (hd.heap_39 w.params) (.ref 419)=true:=by k_dflt k_is
theorem fk426:keepIn (hd.heap_39 w.params) (.ref 426)=true:=by k_dflt k_is
theorem fk433:keepIn (hd.heap_39 w.params) (.ref 433)=true:=by k_dflt k_is
theorem fk440:keepIn (hd.heap_39 w.params) (.ref 440)=true:=by k_dflt k_is
theorem fk447:keepIn (hd.heap_39 w.params) (.ref 447)=true:=by k_dflt k_is
theorem fk524:keepIn (hd.heap_39 w.params) (.ref 524)=true:=by k_dflt k_is
theorem fk531:keepIn (hd.heap_39 w.params) (.ref 531)=true:=by k_dflt k_is
theorem fk536:keepIn (hd.heap_39 w.params) (.ref 536)=true:=by k_dflt k_is
theorem fk541:keepIn (hd.heap_39 w.params) (.ref 541)=true:=by k_dflt k_is
theorem fk548:keepIn (hd.heap_39 w.params) (.ref 548)=true:=by k_dflt k_is
theorem fk555:keepIn (hd.heap_39 w.params) (.ref 555)=true:=by k_dflt k_is
theorem fk562:keepIn (hd.heap_39 w.params) (.ref 562)=true:=by k_dflt k_is
theorem fk567:keepIn (hd.heap_39 w.params) (.ref 567)=true:=by k_dflt k_is
theorem fk574:keepIn (hd.heap_39 w.params) (.ref 574)=true:=by k_dflt k_is
theorem fk581:keepIn (hd.heap_39 w.params) (.ref 581)=true:=by k_dflt k_is
theorem fk586:keepIn (hd.heap_39 w.params) (.ref 586)=true:=by k_dflt k_is
theorem fk593:keepIn (hd.heap_39 w.params) (.ref 593)=true:=by k_dflt k_is
noncomputable def fnK:List Nat:=[79,153,160,167,174,181,188,195,202,209,216,223,230,237,244,251,258,265,300,356,419,426,433,440,447,524,531,536,541,548,555,562,567,574,581,586,593]
theorem fk_all:∀a∈fnK,keepIn (hd.heap_39 w.params) (.ref a)=true:=by
 unfold fnK
 exact fc fk79<|fc fk153<|fc fk160<|fc fk167<|fc fk174<|fc fk181<|fc fk188<|fc fk195<|fc fk202<|fc fk209<|fc fk216<|fc fk223<|fc fk230<|fc fk237<|fc fk244<|fc fk251<|fc fk258<|fc fk265<|fc fk300<|fc fk356<|fc fk419<|fc fk426<|fc fk433<|fc fk440<|fc fk447<|fc fk524<|fc fk531<|fc fk536<|fc fk541<|fc fk548<|fc fk555<|fc fk562<|fc fk567<|fc fk574<|fc fk581<|fc fk586<|fc fk593 fz
end
end Mine.Q
namespace Mine.Q
section
variable{prog:Program}{w:World}{Γ:Fx prog w}{ρ ρ':Rho}{σ:S}{h h':Heap}{tk n d:Nat}{o:O}{v:V}{k:KV}{E:Value->Shared->Prop}
theorem isStr_nm{i j:Nat}{t:Tok}:(Value.str (nm i) t).isStr (nm j)=Nat.beq i j:=nm_beq i j
theorem beq_comm'(i j:Nat):Nat.beq i j=Nat.beq j i:=by rw[Bool.eq_iff_iff,Nat.beq_eq,Nat.beq_eq];exact eq_comm
theorem getL_entry{i:Nat}:∀{es:List (Nat×Nat×V)},getL (nm i) (es.map (entry w ρ))=some ((lk es i).map λe=>iv ρ e.2):=by
 intro es
 have hr:(es.map (entry w ρ)).any (λx=>x.refKey)=false:=by
  rw[List.any_map]
  exact List.any_eq_false.mpr λe _=>by simp[entry,DictEntry.refKey]
 have hf:(es.map (entry w ρ)).find? (λx=>x.key.isStr (nm i))=((es.find? λe=>Nat.beq i e.1).map (entry w ρ)):=by
  rw[List.find?_map]
  congr 2
  funext e
  show(Value.str (nm e.1) (ρ.num e.2.1)).isStr (nm i)=_
  rw[isStr_nm,beq_comm']
 have hl:∀es:List (Nat×Nat×V),lk es i=(es.find? λe=>Nat.beq i e.1).map (·.2):=by
  intro es
  induction es with
  |nil=>rfl
  |cons e r ih=>
   rw[lk_cons,List.find?_cons]
   cases q:Nat.beq i e.1
   .exact ih
   .rfl
 unfold getL
 rw[hf,hl]
 cases q:es.find? (λe=>Nat.beq i e.1)with
 |none=>simp[hr]
 |some e=>simp[entry]
theorem handed_iv(R:Rl Γ ρ σ h):handedIn (iv ρ v)=true:=by cases v<;>first|rfl|exact R.hx _
theorem Rl.inst{C m:Nat}{es:List (Nat×Nat×V)}(R:Rl Γ ρ σ h)(hp:lk σ.hp n=some (.inst C d))(hd:lk σ.hp d=some (.attrs es m)):InstAt h (ρ.num n) (instObj C (ρ.num d)) C (some (dictOf (es.map (entry w ρ)) (ρ.num m))):=
 InstAt.of_news R.nw (R.mem hp) (R.mem hd)
theorem cls_ok{C:Nat}{r:ClsRow}(e:lk clT C=some r):ClsOk w C r:=cl_all _ (lk_mem e)
theorem gAttr_i{i:Nat}{C:Nat}{Q:Value->Shared->Prop}{b:Bool}(R:Rl Γ ρ σ h)(hp:lk σ.hp n=some (.inst C d)){r:ClsRow}(hr:lk clT C=some r)(hi:mem i r.attrs=true){es:List (Nat×Nat×V)}{m:Nat}(hd:lk σ.hp d=some (.attrs es m)){e:Nat×V}(he:lk es i=some e)
 (hq:e.2.sc ρ.n->∀tk',Q (iv ρ e.2) (Γ.sh h tk')):Γ.wp (getAttr (.ref (ρ.num n)) (nm i) b) Q E h tk:=by
 refine elEA (λm0 F z21=>?_)<|R.fr;clear z21
 have CO:=cls_ok (w:=w) hr
 obtain⟨⟨at',ha,hn⟩,-⟩:=CO.at_ i (mem_eq.mp hi)
 have hsc:e.2.sc ρ.n:=((R.sco hd).2.1 _ (lk_mem he)).2
 exact get_own F R.kn (R.inst hp hd) (CO.pg _) CO.hd ha hn (by rw[getL_entry,he];rfl) (handed_iv R) (hq hsc _)
noncomputable def Alike(A:Around)(s:Shared)(l r:List Value):Prop:=l.length=r.length/\∀p∈l.zip r,SeqAt.EqAt A s p.1 p.2 true
theorem Alike.at{A:Around}{s:Shared}{l r:List Value}(h:Alike A s l r):∀j (h1:j<l.toArray.size) (h2:j<r.toArray.size),SeqAt.EqAt A s l.toArray[j] r.toArray[j] ((λ_=>true) j):=by
 intro j h1 h2
 refine h.2 (l[j]'(by simpa using h1),r[j]'(by simpa using h2)) ?_
 rw[List.mem_iff_getElem]
 exact⟨j,by simp at h1 h2⊢;omega,by simp⟩
theorem Alike.cons{A:Around}{s:Shared}{x y:Value}{l r:List Value}(h1:SeqAt.EqAt A s x y true)(h:Alike A s l r):Alike A s (x::l) (y::r):=
 ⟨congrArg (·+1) h.1,λp hp=>by
   rcases List.mem_cons.mp hp with rfl|hp
   .exact h1
   .exact h.2 p hp⟩
theorem Alike.self{A:Around}{s:Shared}{x l r:List Value}(h:Alike A s l r):Alike A s (x++l) (x++r):=by
 induction x with
 |nil=>exact h
 |cons a x ih=>exact ih.cons (.same a)
theorem Alike.nil{A:Around}{s:Shared}:Alike A s [] []:=⟨rfl,λ_ h=>nomatch h⟩
theorem eqSs_ok{A:Around}{s:Shared}{f:V->V->Bool}:∀{a b:List Sg},(∀x y,Sg.it x∈a->Sg.it y∈b->f x y=true->SeqAt.EqAt A s (iv ρ x) (iv ρ y) true)->eqSs f a b=true->Alike A s (sgs ρ a) (sgs ρ b)
 |[],[],_,_=>.nil
 |[],_::_,_,h=>nomatch h
 |_::_,[],_,h=>nomatch h
 |.it x::r,.it y::t,hf,h=>by
  obtain⟨h1,h2⟩:=bi_t (b:=f x y) (p:=eqSs f r t) h
  exact(eqSs_ok (λx y hx hy=>hf x y (.tail _ hx) (.tail _ hy)) h2).cons (hf x y (.head _) (.head _) h1)
 |.sg i::r,.sg j::t,hf,h=>by
  obtain⟨h1,h2⟩:=bi_t (b:=Nat.beq i j) (p:=eqSs f r t) h
  have:=Nat.eq_of_beq_eq_true h1
  subst this
  exact(eqSs_ok (λx y hx hy=>hf x y (.tail _ hx) (.tail _ hy)) h2).self
 |.it _::_,.sg _::_,_,h=>nomatch h
 |.sg _::_,.it _::_,_,h=>nomatch h
theorem eqVs_ok{A:Around}{s:Shared}{f:V->V->Bool}:∀{a b:List V},(∀x y,x∈a->y∈b->f x y=true->SeqAt.EqAt A s (iv ρ x) (iv ρ y) true)->eqVs f a b=true->Alike A s (ivs ρ a) (ivs ρ b)
 |[],[],_,_=>.nil
 |[],_::_,_,h=>nomatch h
 |_::_,[],_,h=>nomatch h
 |x::r,y::t,hf,h=>by
  obtain⟨h1,h2⟩:=bi_t (b:=f x y) (p:=eqVs f r t) h
  exact(eqVs_ok (λx y hx hy=>hf x y (.tail _ hx) (.tail _ hy)) h2).cons (hf x y (.head _) (.head _) h1)
theorem all_tr{n:Nat}:(List.range n).all (λ_=>true)=true:=List.all_eq_true.mpr λ_ _=>rfl
theorem Rl.isList{ss:List Sg}{m:Nat}(R:Rl Γ ρ σ h)(hp:lk σ.hp n=some (.list ss m)):h.IsList (ρ.num n) (sgs ρ ss).toArray:=⟨_,(R.nw _ (R.mem hp)).1,rfl,_,rfl⟩
theorem Rl.isTup{vs:List V}{m:Nat}(R:Rl Γ ρ σ h)(hp:lk σ.hp n=some (.tup vs m)):h.IsTuple (ρ.num n) (ivs ρ vs).toArray:=⟨_,(R.nw _ (R.mem hp)).1,rfl,_,rfl⟩
theorem eqO_ok{A:Around}{f:V->V->Bool}{m:Nat}{o o2:O}(R:Rl Γ ρ σ h)(hm:lk σ.hp m=some o)(hn:lk σ.hp n=some o2)(hu:A.units<cLine)
 (hf:∀x y,f x y=true->SeqAt.EqAt A.in1 (Γ.sh h tk) (iv ρ x) (iv ρ y) true)(g:eqO f o o2=true):SeqAt.RcAt A (Γ.sh h tk) (.ref (ρ.num m)) (.ref (ρ.num n)) true/\SeqAt.RcNeAt A (Γ.sh h tk) (.ref (ρ.num m)) (.ref (ρ.num n)) false:=by
 cases o<;>first|exact ff g|(cases o2<;>first|exact ff g|skip)
 .have H:=eqSs_ok (ρ:=ρ) (A:=A.in1) (s:=Γ.sh h tk) (λx y _ _=>hf x y) g
  have e1:=SeqAt.RcAt.lists (A:=A) (s:=Γ.sh h tk) (e:=λ_=>true) (R.isList hm) (R.isList hn) (by simpa using H.1) hu H.at
  have e2:=SeqAt.RcNeAt.lists (A:=A) (s:=Γ.sh h tk) (e:=λ_=>true) (R.isList hm) (R.isList hn) (by simpa using H.1) hu H.at
  rw[all_tr]at e1 e2
  exact⟨e1,e2⟩
 .have H:=eqVs_ok (ρ:=ρ) (A:=A.in1) (s:=Γ.sh h tk) (λx y _ _=>hf x y) g
  have e1:=SeqAt.RcAt.tuples (A:=A) (s:=Γ.sh h tk) (e:=λ_=>true) (R.isTup hm) (R.isTup hn) hu H.at
  have e2:=SeqAt.RcNeAt.tuples (A:=A) (s:=Γ.sh h tk) (e:=λ_=>true) (R.isTup hm) (R.isTup hn) hu H.at
  have es:((ivs ρ _).toArray.size==(ivs ρ _).toArray.size)=true:=beq_iff_eq.mpr (by simpa using H.1)
  rw[all_tr,es]at e1 e2
  exact⟨e1,e2⟩
theorem eqV_ok(R:Rl Γ ρ σ h):∀(f:Nat) (A:Around) (a b:V),A.units+f<cLine->eqV σ.hp f a b=true->SeqAt.EqAt A (Γ.sh h tk) (iv ρ a) (iv ρ b) true:=by
 intro f
 induction f with
 |zero=>intro A a b _ g;exact ff g
 |succ f ih=>
  intro A a b hu g
  cases a<;>first|exact ff g|(cases b<;>first|exact ff g|skip)
  .exact .same _
  .rename_i x y
   have:=SeqAt.EqAt.bool_bool (A:=A) (s:=Γ.sh h tk) x y
   rw[show(x==y)=true by cases x<;>cases y<;>first|rfl|cases g]at this
   exact this
  .rename_i as c t bs e u
   obtain⟨h1,h2⟩:=bi_t (b:=eqN as bs) (p:=eqZ c e) g
   rw[eqN_e h1,eqZ_e h2]
   have:=SeqAt.EqAt.int_int (A:=A) (s:=Γ.sh h tk) (lns ρ bs+e) (ρ.num t) (lns ρ bs+e) (ρ.num u)
   rw[beq_self_eq_true]at this
   exact this
  .rename_i i t j u
   have:=Nat.eq_of_beq_eq_true g
   subst this
   have:=SeqAt.EqAt.str_str (A:=A) (s:=Γ.sh h tk) (nm i) (ρ.num t) (nm i) (ρ.num u)
   rw[beq_self_eq_true]at this
   exact this
  .rename_i m n
   rcases bi_e (b:=Nat.beq m n) (p:=true) g with⟨e,-⟩|⟨-,g⟩
   .have:=Nat.eq_of_beq_eq_true e
    subst this
    exact .same _
   .refine elEA (λo1 h1 g=>?_)<|oe_e (o:=lk σ.hp m) g
    refine elEA (λo2 h2 g=>?_)<|oe_e (o:=lk σ.hp n) g
    by_cases e:ρ.num m=ρ.num n
    .show SeqAt.EqAt A _ (.ref (ρ.num m)) (.ref (ρ.num n)) true
     rw[e];exact .same _
    .exact .of_refs e (eqO_ok R h1 h2 (by omega) (λx y=>ih A.in1 x y (by show A.units+1+f<_;omega)) g).1
  .have:=Nat.eq_of_beq_eq_true g
   subst this
   exact .same _
  .rename_i i t j u
   have:=Nat.eq_of_beq_eq_true g
   subst this
   have:=SeqAt.EqAt.str_str (A:=A) (s:=Γ.sh h tk) (ρ.T i) (ρ.num t) (ρ.T i) (ρ.num u)
   rw[beq_self_eq_true]at this
   exact this
theorem Fx.room(Γ:Fx prog w):Γ.A.units+8<cLine:=by
 have:=Γ.un;have:=Γ.dl
 rw[cLine_is];omega
theorem empty_e{ss:List Sg}{k:Bool->Bool}(g:emptyS ss k=true):(ss=[]/\k true=true)\/(∃v r,ss=.it v::r/\k false=true):=by
 rcases ss with _|⟨s,r⟩
 .exact .inl ⟨rfl,g⟩
 .cases s<;>first|exact ff g|exact .inr ⟨_,_,rfl,g⟩
theorem sgs_pos{v:V}{r:List Sg}:0<(sgs ρ (.it v::r)).length:=Nat.succ_pos _
theorem valueAt_cons{K:Type}[DecidableEq K]{p:K×Value}{l:List (K×Value)}{k:K}:valueAt (p::l) k=if p.1=k then some p.2 else valueAt l k:=by
 unfold valueAt
 by_cases q:p.1=k
 .rw[List.find?_cons_of_pos (by simpa using q),if_pos q];rfl
 .rw[List.find?_cons_of_neg (by simpa using q),if_neg q]
theorem valueAt_app{K:Type}[DecidableEq K]{p:K×Value}{k:K}(hk:p.1≠k):∀{l:List (K×Value)},valueAt (l++[p]) k=valueAt l k
 |[]=>by rw[List.nil_append,valueAt_cons,if_neg hk]
 |q::l=>by rw[List.cons_append,valueAt_cons,valueAt_cons,valueAt_app hk (l:=l)]
theorem valueAt_map{K:Type}[DecidableEq K]{k k':K}{v:Value}(hk:k≠k'):∀{l:List (K×Value)},valueAt (l.map λe=>if e.1=k then(e.1,v)else e) k'=valueAt l k'
 |[]=>rfl
 |q::l=>by
  rw[List.map_cons,valueAt_cons,valueAt_cons,valueAt_map hk (l:=l)]
  by_cases e:q.1=k
  .rw[if_pos e,if_neg (show¬(q.1,v).1=k' from λz=>hk (e.symm.trans z)),if_neg (λz=>hk (e.symm.trans z))]
  .rw[if_neg e]
theorem stored_eq{K:Type}[DecidableEq K]{l:List (K×Value)}{k k':K}{v:Value}:valueAt (stored l k v) k'=if k=k' then some v else valueAt l k':=by
 by_cases e:k=k'
 .subst e;rw[if_pos rfl];exact look_eq
 .rw[if_neg e]
  unfold stored
  split
  .exact valueAt_map e
  .exact valueAt_app e
theorem stored_len{K:Type}[DecidableEq K]{l:List (K×Value)}{k:K}{v:Value}:(stored l k v).length=if(valueAt l k).isSome then l.length else l.length+1:=by
 have e:l.any (λe=>decide (e.1=k))=(valueAt l k).isSome:=by
  induction l with
  |nil=>rfl
  |cons p l ih=>
   rw[List.any_cons,ih,valueAt_cons]
   by_cases q:p.1=k
   .rw[if_pos q,decide_eq_true q];rfl
   .rw[if_neg q,decide_eq_false q];rfl
 unfold stored
 rw[e]
 split
 .rw[List.length_map]
 .rw[List.length_append];rfl
theorem valueAt_T{b:Nat}{sd:Bool}{c:Nat}:∀{ops:List (Nat×V)},valueAt (tabT ρ b sd ops) (c:Int)=Option.rec (motive:=λ_=>Option Value) (valueAt (bsT ρ b sd) (c:Int)) (λv=>some (iv ρ v)) (lk ops c)
 |[]=>rfl
 |p::ops=>by
  show valueAt (stored (tabT ρ b sd ops) (p.1:Int) (iv ρ p.2)) (c:Int)=_
  rw[stored_eq,lk_cons]
  by_cases q:p.1=c
  .subst q;rw[if_pos rfl,Nat.beq_refl];rfl
  .rw[if_neg λe:(p.1:Int)=(c:Int)=>q (Int.ofNat.inj e),show Nat.beq c p.1=false by rw[Bool.eq_false_iff,Ne,Nat.beq_eq];exact Ne.symm q]
   exact valueAt_T
theorem tab_len{b:Nat}{sd:Bool}(K:Ok prog w ρ σ):∀{ops:List (Nat×V)},(tabT ρ b sd ops).length<=90+ops.length
 |[]=>by
  show((ρ.D b).map _).length<=_
  rw[List.length_map];exact(K.dd b).1
 |p::ops=>by
  have:=tab_len (b:=b) (sd:=sd) K (ops:=ops)
  show(stored (tabT ρ b sd ops) _ _).length<=90+(ops.length+1)
  rw[stored_len]
  split<;>omega
theorem alk_eq{A:Around}{s:Shared}{v u:Value}(h:AlkV v u):SeqAt.EqAt A s v u true:=by
 rcases h with⟨rfl,-⟩|⟨x,t,t',rfl,rfl⟩
 .exact .same _
 .have:=SeqAt.EqAt.str_str (A:=A) (s:=s) x t x t'
  rwa[beq_self_eq_true]at this
theorem valueAt_nd{l:List (Int×Value)}(nd:(l.map (·.1)).Nodup):∀p∈l,valueAt l p.1=some p.2:=by
 induction l with
 |nil=>exact λ_ h=>nomatch h
 |cons q l ih=>
  intro p hp
  obtain⟨n1,n2⟩:=List.nodup_cons.mp nd
  rw[valueAt_cons]
  rcases List.mem_cons.mp hp with rfl|hp
  .exact if_pos rfl
  .rw[if_neg λe:q.1=p.1=>n1 (by show q.1∈_;rw[e];exact List.mem_map_of_mem (f:=λx:Int×Value=>x.1) hp)]
   exact ih n2 p hp
theorem hits_T{A:Around}{s:Shared}{all:List (Int×Value)}:∀{d:List (Int×Value×Value)},(∀e∈d,AlkV e.2.1 e.2.2)->(∀e∈d,valueAt all e.1=some e.2.2)->KeqHits A s all (d.map λe=>(e.1,e.2.1)) true
 |[],_,_=>.nil
 |e::d,ha,hv=>by
  have:=KeqHits.hit (hv e (.head _)) (alk_eq (A:=A) (s:=s) (ha e (.head _))) (hits_T (d:=d) (λx hx=>ha x (.tail _ hx)) λx hx=>hv x (.tail _ hx))
  rw[Bool.and_self]at this
  exact this
theorem valueAt_I{j:Nat}(kvs:List (Nat×V)):valueAt (kvs.map λp=>((p.1:Int),iv ρ p.2)) (j:Int)=(lk kvs j).map (iv ρ):=by
 unfold valueAt
 induction kvs with
 |nil=>rfl
 |cons p r ih=>
  rw[List.map_cons,List.find?_cons,lk_cons]
  by_cases q:j=p.1
  .subst q;simp[bi]
  .have:¬((p.1:Int)=(j:Int)):=λe=>q (Int.ofNat.inj e).symm
   rw[show Nat.beq j p.1=false by rw[Bool.eq_false_iff,Ne,Nat.beq_eq];exact q]
   simp only[this,decide_false]
   exact ih
theorem valueAt_S{j:Nat}(kvs:List (Nat×V)):valueAt (kvs.map λp=>(nm p.1,iv ρ p.2)) (nm j)=(lk kvs j).map (iv ρ):=by
 unfold valueAt
 induction kvs with
 |nil=>rfl
 |cons p r ih=>
  rw[List.map_cons,List.find?_cons,lk_cons]
  by_cases q:j=p.1
  .subst q;simp[bi]
  .have:¬nm p.1=nm j:=λe=>q (nm_inj e).symm
   rw[show Nat.beq j p.1=false by rw[Bool.eq_false_iff,Ne,Nat.beq_eq];exact q]
   simp only[this,decide_false]
   exact ih
theorem eqKs_ok{A:Around}{s:Shared}{f:V->V->Bool}{all:List (Nat×V)}(hf:∀x y,f x y=true->SeqAt.EqAt A s (iv ρ x) (iv ρ y) true):∀{a b:List (Nat×V)},(∀p∈b,lk all p.1=some p.2)->eqKs f a b=true->
 a.length=b.length/\KeqHits A s (all.map λp=>((p.1:Int),iv ρ p.2)) (a.map λp=>((p.1:Int),iv ρ p.2)) true
 |[],[],_,_=>⟨rfl,.nil⟩
 |[],_::_,_,h=>nomatch h
 |_::_,[],_,h=>nomatch h
 |(i,x)::r,(j,y)::t,ha,h=>by
  obtain⟨h1,h2⟩:=bi_t (b:=bi (Nat.beq i j) (f x y) false) (p:=eqKs f r t) h
  obtain⟨h0,h3⟩:=bi_t h1
  obtain⟨l,k⟩:=eqKs_ok (all:=all) hf (λp hp=>ha p (.tail _ hp)) h2
  have:=Nat.eq_of_beq_eq_true h0
  subst this
  have hv:valueAt (all.map λp=>((p.1:Int),iv ρ p.2)) (i:Int)=some (iv ρ y):=by rw[valueAt_I,ha _ (.head _)];rfl
  have:=KeqHits.hit hv (hf x y h3) k
  rw[Bool.and_self]at this
  exact⟨congrArg (·+1) l,this⟩
theorem lk_self{l:List (Nat×V)}(nd:(l.map (·.1)).Nodup)(p)(hp:p∈l):lk l p.1=some p.2:=by
 induction l with
 |nil=>exact absurd hp List.not_mem_nil
 |cons q r ih=>
  rw[lk_cons]
  rcases List.mem_cons.mp hp with rfl|hp
  .rw[Nat.beq_refl];rfl
  .have:p.1≠q.1:=λe=>(List.nodup_cons.mp nd).1 (by show q.1∈_;rw[←e];exact List.mem_map_of_mem (f:=(·.1)) hp)
   rw[show Nat.beq p.1 q.1=false by rw[Bool.eq_false_iff,Ne,Nat.beq_eq];exact this]
   exact ih (List.nodup_cons.mp nd).2 hp
theorem nodup_I{l:List (Nat×V)}(nd:((l.map λp=>((p.1:Int),iv ρ p.2)).map (·.1)).Nodup):(l.map (·.1)).Nodup:=by
 rw[List.map_map]at nd
 have:(l.map (·.1)).map (λn:Nat=>(n:Int))=l.map ((λx:Int×Value=>x.1)∘λp=>((p.1:Int),iv ρ p.2)):=by rw[List.map_map];rfl
 rw[←this]at nd
 exact List.Pairwise.of_map (λn:Nat=>(n:Int)) (λa b h e=>h (congrArg _ e)) nd
end
end Mine.Q
namespace Mine.Q
section
variable{prog:Program}{w:World}{Γ:Fx prog w}{ρ ρ':Rho}{σ:S}{h h':Heap}{tk n d:Nat}{o:O}{v:V}{k:KV}{E:Value->Shared->Prop}
theorem eqRef_ok{m n:Nat}{k:Bool->Bool}(R:Rl Γ ρ σ h)(g:eqRef m n σ k=true):
 ∃c,k c=true/\(∀Q:Value->Shared->Prop,Q (.bool c) (Γ.sh h tk)->Γ.wp (compareOp .Eq (.ref (ρ.num m)) (.ref (ρ.num n))) Q E h tk)/\(∀Q:Value->Shared->Prop,Q (.bool (!c)) (Γ.sh h tk)->Γ.wp (compareOp .NotEq (.ref (ρ.num m)) (.ref (ρ.num n))) Q E h tk):=by
 have hu:=Γ.room
 replace g:=oe_e (o:=lk σ.hp m) g
 refine elEA (λo1 h1 g22=>?_) g;revert g22;clear g;intro g
 replace g:=oe_e (o:=lk σ.hp n) g
 refine elEA (λo2 h2 g23=>?_) g;revert g23;clear g;intro g
 replace g:=bi_e (b:=eqO (eqV σ.hp 6) o1 o2) g
 rcases g with⟨e,g⟩|⟨-,g⟩
 .obtain⟨a,b⟩:=eqO_ok (tk:=tk) (A:=Γ.A) R h1 h2 (by omega) (λx y=>eqV_ok R 6 Γ.A.in1 x y (by show Γ.A.units+1+6<_;omega)) e
  exact mkEAA true g (λQ hq=>a prog w E Q hq) (λQ hq=>b prog w E Q hq)
 .cases o1<;>first|exact ff g|(cases o2<;>first|exact ff g|skip)
  .rename_i ss c ss2 c2
   replace g:=empty_e (ss:=ss) g
   rcases g with⟨rfl,g⟩|⟨v,r,rfl,g⟩<;>replace g:=empty_e (ss:=ss2) g<;>rcases g with⟨rfl,g⟩|⟨v2,r2,rfl,g⟩<;>first|exact ff g|skip
   .have hs:((sgs ρ []).toArray.size !=(sgs ρ (.it v2::r2)).toArray.size)=true:=by have:=sgs_pos (ρ:=ρ) (v:=v2) (r:=r2);simp[bne_iff_ne];exact Ne.symm (Nat.ne_of_gt this)
    exact mkEAA false g (λQ hq=>SeqAt.RcAt.lists_lengths (A:=Γ.A) (R.isList h1) (R.isList h2) hs (by omega) prog w E Q hq) (λQ hq=>SeqAt.RcNeAt.lists_lengths (A:=Γ.A) (R.isList h1) (R.isList h2) hs (by omega) prog w E Q hq)
   .have hs:((sgs ρ (.it v::r)).toArray.size !=(sgs ρ []).toArray.size)=true:=by have:=sgs_pos (ρ:=ρ) (v:=v) (r:=r);simp[bne_iff_ne];exact Nat.ne_of_gt this
    exact mkEAA false g (λQ hq=>SeqAt.RcAt.lists_lengths (A:=Γ.A) (R.isList h1) (R.isList h2) hs (by omega) prog w E Q hq) (λQ hq=>SeqAt.RcNeAt.lists_lengths (A:=Γ.A) (R.isList h1) (R.isList h2) hs (by omega) prog w E Q hq)
  .rename_i o1 ks o2 ls
   replace g:=bi_t (b:=eqKs (eqV σ.hp 6) ks ls) g
   obtain⟨e,g⟩:=g
   have k1:=R.oko h1
   have k2:=R.oko h2
   refine elEEAAAA (λ_ _ _ _ _ _ nd=>?_)<|id k2.1
   obtain⟨l,H⟩:=eqKs_ok (ρ:=ρ) (A:=Γ.A.in1) (s:=Γ.sh h tk) (all:=ls) (λx y=>eqV_ok R 6 Γ.A.in1 x y (by show Γ.A.units+1+6<_;omega)) (lk_self (nodup_I (ρ:=ρ) nd)) e
   have hl:((List.map (λp=>((p.1:Int),iv ρ p.2)) ks).length==(List.map (λp=>((p.1:Int),iv ρ p.2)) ls).length)=true:=beq_iff_eq.mpr (by simpa using l)
   refine mkEAA true g (λQ hq=>keq_eq (r:=true) k1.2 k2.2 (Heap.dictOf_iff.mpr ⟨_,(R.nw _ (R.mem h1)).1,k1.1⟩) (Heap.dictOf_iff.mpr ⟨_,(R.nw _ (R.mem h2)).1,k2.1⟩) (by omega) (λ_=>H) ?_) (λQ hq=>keq_ne (r:=true) k1.2 k2.2 (Heap.dictOf_iff.mpr ⟨_,(R.nw _ (R.mem h1)).1,k1.1⟩) (Heap.dictOf_iff.mpr ⟨_,(R.nw _ (R.mem h2)).1,k2.1⟩) (by omega) (λ_=>H) ?_)
   .rw[hl];exact hq
   .rw[hl];exact hq
  .rename_i o1 b sd ops kn o2 b2 sd2 ops2 kn2
   replace g:=cd_e g
   obtain⟨e,g⟩:=g
   have:=Nat.eq_of_beq_eq_true e
   subst this
   replace g:=cd_e g
   obtain⟨rfl,g⟩:=g
   replace g:=bi_e (b:=sd2) g
   rcases g with⟨-,g⟩|⟨rfl,g⟩
   .exact ff g
   cases ops<;>first|exact ff g|skip
   cases ops2<;>first|exact ff g|skip
   have k1:=R.oko h1
   have k2:=R.oko h2
   refine elEEAAAA (λ_ _ _ _ _ _ nd=>?_)<|id k2.1
   have H:=hits_T (A:=Γ.A.in1) (s:=Γ.sh h tk) (all:=bsT ρ b false) (R.dd b).2 λe he=>valueAt_nd (l:=bsT ρ b false) nd (e.1,bi false e.2.1 e.2.2) (List.mem_map_of_mem (f:=λe=>(e.1,bi false e.2.1 e.2.2)) he)
   have hl:((bsT ρ b true).length==(bsT ρ b false).length)=true:=beq_iff_eq.mpr ((List.length_map ..).trans (List.length_map ..).symm)
   refine mkEAA true g (λQ hq=>keq_eq (r:=true) k1.2.2 k2.2.2 (Heap.dictOf_iff.mpr ⟨_,(R.nw _ (R.mem h1)).1,k1.1⟩) (Heap.dictOf_iff.mpr ⟨_,(R.nw _ (R.mem h2)).1,k2.1⟩) (by omega) (λ_=>H) ?_) (λQ hq=>keq_ne (r:=true) k1.2.2 k2.2.2 (Heap.dictOf_iff.mpr ⟨_,(R.nw _ (R.mem h1)).1,k1.1⟩) (Heap.dictOf_iff.mpr ⟨_,(R.nw _ (R.mem h2)).1,k2.1⟩) (by omega) (λ_=>H) ?_)
   .show Q (.bool ((bsT ρ b true).length==(bsT ρ b false).length&&true)) _
    rw[hl];exact hq
   .show Q (.bool (!((bsT ρ b true).length==(bsT ρ b false).length&&true))) _
    rw[hl];exact hq
theorem neg_eq{b:Bool}:neg b=!b:=by cases b<;>rfl
theorem eqK_ok{a b:V}{k:Bool->Bool}(R:Rl Γ ρ σ h)(g:eqK a b σ k=true):
 ∃c,k c=true/\(∀Q:Value->Shared->Prop,(∀tk',Q (.bool c) (Γ.sh h tk'))->Γ.wp (compareOp .Eq (iv ρ a) (iv ρ b)) Q E h tk)/\(∀Q:Value->Shared->Prop,(∀tk',Q (.bool (!c)) (Γ.sh h tk'))->Γ.wp (compareOp .NotEq (iv ρ a) (iv ρ b)) Q E h tk):=by
 cases a<;>first|exact ff g|(cases b<;>first|exact ff g|skip)
 .rename_i x y
  have e:bi x y (bi y false true)=(x==y):=by cases x<;>cases y<;>rfl
  have g:k (bi x y (bi y false true))=true:=g
  rw[e]at g
  exact mkEAA _ g (λQ hq=>eq_bool (hq _)) (λQ hq=>ne_bool (by have:=hq tk;rwa[show(!(x==y))=(x !=y)from rfl]at this))
 .rename_i as c t bs e u
  replace g:=bi_t (b:=eqN as bs) (p:=k (eqZ c e)) g
  obtain⟨h1,g⟩:=g
  have:=eqN_e h1
  subst this
  have e1:((lns ρ as+c)==(lns ρ as+e))=eqZ c e:=by
   cases q:eqZ c e
   .have:=eqZ_f q
    rw[beq_eq_false_iff_ne];omega
   .rw[eqZ_e q];exact beq_self_eq_true _
  exact mkEAA _ g (λQ hq=>eq_int (by rw[e1];exact hq _)) (λQ hq=>ne_int (by rw[bne,e1];exact hq _))
 .exact mkEAA _ g (λQ hq=>EqMixed.eq_int_str (hq _)) (λQ hq=>SeqAt.RcNeAt.int_str (A:=Γ.A) (s:=Γ.sh h tk) _ _ _ _ prog w E Q (hq _))
 .exact mkEAA _ g (λQ hq=>EqMixed.eq_str_int (hq _)) (λQ hq=>SeqAt.RcNeAt.str_int (A:=Γ.A) (s:=Γ.sh h tk) _ _ _ _ prog w E Q (hq _))
 .rename_i i t j u
  have g:k (Nat.beq i j)=true:=g
  rw[←nm_beq]at g
  exact mkEAA _ g (λQ hq=>eq_str (hq _)) (λQ hq=>ne_str (hq _))
 .replace g:=eqRef_ok (tk:=tk) (E:=E) R g
  refine elEAA (λc g24 a b=>?_) g;revert g24;clear g;intro g
  exact mkEAA c g (λQ hq=>a Q (hq _)) (λQ hq=>b Q (hq _))
theorem isSome_map{α β:Type}{f:α->β}{o:Option α}:(o.map f).isSome=Option.rec (motive:=λ_=>Bool) false (λ_=>true) o:=by cases o<;>rfl
theorem inK_ok{a b:V}{k:Bool->Bool}(R:Rl Γ ρ σ h)(g:inK a b σ k=true):
 ∃c,k c=true/\(∀Q:Value->Shared->Prop,(∀tk',Q (.bool c) (Γ.sh h tk'))->Γ.wp (compareOp .In (iv ρ a) (iv ρ b)) Q E h tk)/\(∀Q:Value->Shared->Prop,(∀tk',Q (.bool (!c)) (Γ.sh h tk'))->Γ.wp (compareOp .NotIn (iv ρ a) (iv ρ b)) Q E h tk):=by
 cases b<;>first|exact ff g|skip
 .rename_i n
  replace g:=at_e g
  refine elEA (λo hl g25=>?_) g;revert g25;clear g;intro g
  have ok:=R.oko hl
  cases o<;>first|exact ff g|skip
  .rename_i oi kvs
   replace g:=str_e g
   refine elEEA (λj t r26 g27=>?_) g;revert g27;clear g;intro g;subst r26
   refine elEAA (λl d z28 hv=>?_)<|ok.1;clear z28
   have e:(valueAt l (nm j)).isSome=Option.rec (motive:=λ_=>Bool) false (λ_=>true) (lk kvs j):=by rw[hv,isSome_map]
   exact mkEAA _ g (λQ hq=>kda_in (knd:=PySem.strKind _ _) R.nw (R.mem hl) d ok.2 (strKind_is _ _ (nm j) _) _ e (hq _)) (λQ hq=>kdg_notin (knd:=PySem.strKind _ _) R.nw (R.mem hl) d ok.2 (strKind_is _ _ (nm j) _) _ e (hq _))
  .rename_i oi kvs
   replace g:=lit_e g
   refine elEEA (λj t r29 g30=>?_) g;revert g30;clear g;intro g;subst r29
   rw[iv_lit]
   have e:(valueAt (kvs.map λp=>((p.1:Int),iv ρ p.2)) (j:Int)).isSome=Option.rec (motive:=λ_=>Bool) false (λ_=>true) (lk kvs j):=by rw[valueAt_I,isSome_map]
   exact mkEAA _ g (λQ hq=>kda_in (knd:=PySem.intKind _ _) R.nw (R.mem hl) ok.1 ok.2 (intKind_is _ _ (j:Int) _) _ e (hq _)) (λQ hq=>kdg_notin (knd:=PySem.intKind _ _) R.nw (R.mem hl) ok.1 ok.2 (intKind_is _ _ (j:Int) _) _ e (hq _))
  .rename_i oi kn
   replace g:=lit_e g
   refine elEEA (λj t r31 g32=>?_) g;revert g32;clear g;intro g;subst r31
   replace g:=oe_e g
   refine elEA (λx hx g33=>?_) g;revert g33;clear g;intro g
   refine elEA (λl d hv=>?_)<|ok.1
   rw[iv_lit]
   have e:(valueAt l (j:Int)).isSome=Option.rec (motive:=λ_=>Bool) false (λ_=>true) x:=by rw[hv _ (lk_mem hx),isSome_map]
   exact mkEAA _ g (λQ hq=>kda_in (knd:=PySem.intKind _ _) R.nw (R.mem hl) d ok.2 (intKind_is _ _ (j:Int) _) _ e (hq _)) (λQ hq=>kdg_notin (knd:=PySem.intKind _ _) R.nw (R.mem hl) d ok.2 (intKind_is _ _ (j:Int) _) _ e (hq _))
  .rename_i oi b sd ops kn
   replace g:=lit_e g
   refine elEEA (λj t r34 g35=>?_) g;revert g35;clear g;intro g;subst r34
   refine elAA (λd hv lo=>?_) ok;clear ok
   rw[iv_lit]
   have H:∃c,k c=true/\(valueAt (tabT ρ b sd ops) (j:Int)).isSome=c:=by
    rw[valueAt_T]
    rcases q:lk ops j with _|v
    .rw[q]at g
     refine elEA (λx hx g=>?_)<|oe_e (o:=lk kn j) g
     exact⟨_,g,by show(valueAt (bsT ρ b sd) (j:Int)).isSome=_;rw[hv _ (lk_mem hx),isSome_map]⟩
    .rw[q]at g;exact⟨_,g,rfl⟩
   refine elEA (λc g e=>?_) H;clear H
   exact mkEAA c g (λQ hq=>kda_in (knd:=PySem.intKind _ _) R.nw (R.mem hl) d lo (intKind_is _ _ (j:Int) _) _ e (hq _)) (λQ hq=>kdg_notin (knd:=PySem.intKind _ _) R.nw (R.mem hl) d lo (intKind_is _ _ (j:Int) _) _ e (hq _))
 .rename_i d
  replace g:=str_e g
  refine elEEA (λj t r36 g37=>?_) g;revert g37;clear g;intro g;subst r36
  replace g:=oe_e g
  refine elEA (λws hw g38=>?_) g;revert g38;clear g;intro g
  refine elEA (λitems h1 h2=>?_)<|tup_is hw (show(KF w).In h from by obtain⟨m,F,-⟩:=R.fr;exact R.kn.keeps F.keep)
  have e:(ws.map nm).any (·==nm j)=mem j ws:=by
   rw[Bool.eq_iff_iff,mem_eq,List.any_eq_true]
   constructor
   .rintro⟨x,hx,q⟩
    refine elEA (λi hi r39=>?_)<|List.mem_map.mp hx;subst r39
    rw[nm_inj (eq_of_beq q)]at hi;exact hi
   .exact λhm=>⟨_,List.mem_map_of_mem hm,beq_self_eq_true _⟩
  exact mkEAA _ g (λQ hq=>in_tuple_strs h1 h2 (by rw[e];exact hq _)) (λQ hq=>notin_tuple_strs h1 h2 (by rw[e];exact hq _))
theorem ltK_e{as bs:List Nat}{c d:Int}{k:Bool->Bool}(g:ltK as c bs d k=true)(ρ:Rho):∃b,k b=true/\decide (lns ρ as+c<lns ρ bs+d)=b:=by
 replace g:=bi_e (b:=bi (pre as bs) (leZ (Int.add c 1) d) false) g
 rcases g with⟨e,g⟩|⟨-,g⟩
 .obtain⟨h1,h2⟩:=bi_t e
  obtain⟨r,rfl⟩:=pre_e h1
  have h2:c+1<=d:=leZ_e h2
  have:=lns_nn (ρ:=ρ) (as:=r)
  exact⟨_,g,decide_eq_true (by rw[lns_app];omega)⟩
 .replace g:=bi_t (b:=bi (pre bs as) (leZ d c) false) g
  obtain⟨e,g⟩:=g
  obtain⟨h1,h2⟩:=bi_t e
  obtain⟨r,rfl⟩:=pre_e h1
  have h2:=leZ_e h2
  have:=lns_nn (ρ:=ρ) (as:=r)
  exact⟨_,g,decide_eq_false (by rw[lns_app];omega)⟩
theorem isN_e{v:V}{k:Bool->Bool}(g:isN v k=true):∃c,k c=true/\(∀Q:Value->Shared->Prop,Q (.bool c) (Γ.sh h tk)->Γ.wp (compareOp .Is (iv ρ v) .none) Q E h tk)/\(∀Q:Value->Shared->Prop,Q (.bool (!c)) (Γ.sh h tk)->Γ.wp (compareOp .IsNot (iv ρ v) .none) Q E h tk):=by
 cases v<;>first|exact ff g|skip
 .exact mkEAA _ g (λQ hq=>is_none_none hq) (λQ hq=>isnot_none_none hq)
 .exact mkEAA _ g (λQ hq=>is_int_none hq) (λQ hq=>isnot_int_none hq)
 .exact mkEAA _ g (λQ hq=>is_str_none hq) (λQ hq=>isnot_str_none hq)
 .exact mkEAA _ g (λQ hq=>is_ref_none hq) (λQ hq=>isnot_ref_none hq)
theorem gCmp_ok{op:CmpOp}{a b:V}{k:KB}{Q:Value->Shared->Prop}(R:Rl Γ ρ σ h)(g:gCmp op a b σ k=true)
 (hq:∀c tk',k c σ=true->Q (.bool c) (Γ.sh h tk')):Γ.wp (compareOp op (iv ρ a) (iv ρ b)) Q E h tk:=by
 cases op
 case Eq=>refine elEAA (λc g a z40=>?_)<|eqK_ok (a:=a) (b:=b) (k:=λc=>k c σ) (tk:=tk) (E:=E) R g;clear z40;exact a Q λtk'=>hq c tk' g
 case NotEq=>refine elEAA (λc g z41 b=>?_)<|eqK_ok (a:=a) (b:=b) (k:=λc=>k (neg c) σ) (tk:=tk) (E:=E) R g;clear z41;exact b Q λtk'=>hq (!c) tk' (by rw[←neg_eq];exact g)
 case In=>refine elEAA (λc g a z42=>?_)<|inK_ok (a:=a) (b:=b) (k:=λc=>k c σ) (tk:=tk) (E:=E) R g;clear z42;exact a Q λtk'=>hq c tk' g
 case NotIn=>refine elEAA (λc g z43 b=>?_)<|inK_ok (a:=a) (b:=b) (k:=λc=>k (neg c) σ) (tk:=tk) (E:=E) R g;clear z43;exact b Q λtk'=>hq (!c) tk' (by rw[←neg_eq];exact g)
 case Is=>
  cases b<;>first|exact ff g|skip
  refine elEAA (λc g a z44=>?_)<|isN_e (v:=a) (k:=λc=>k c σ) (Γ:=Γ) (ρ:=ρ) (h:=h) (tk:=tk) (E:=E) g;clear z44;exact a Q (hq c tk g)
 case IsNot=>
  cases b<;>first|exact ff g|skip
  refine elEAA (λc g z45 b=>?_)<|isN_e (v:=a) (k:=λc=>k (neg c) σ) (Γ:=Γ) (ρ:=ρ) (h:=h) (tk:=tk) (E:=E) g;clear z45;exact b Q (hq (!c) tk (by rw[←neg_eq];exact g))
 all_goals
  replace g:=int_e (v:=a) g
  refine elEEEA (λas c t r46 g47=>?_) g;revert g47;clear g;intro g;subst r46
  replace g:=int_e (v:=b) g
  refine elEEEA (λbs d u r48 g49=>?_) g;revert g49;clear g;intro g;subst r48
  replace g:=ltK_e g ρ
  refine elEA (λx g50 e=>?_) g;revert g50;clear g;intro g
 .exact PyProof.Rows.lt_int (by rw[e];exact hq _ _ g)
 .refine PyProof.Rows.le_int ?_
  rw[show decide (lns ρ as+c<=lns ρ bs+d)=!x by rw[←e,←decide_not];exact decide_eq_decide.mpr (by omega)]
  exact hq _ _ (by rw[←neg_eq];exact g)
 .exact PyProof.Rows.gt_int (by rw[e];exact hq _ _ g)
 .refine PyProof.Rows.ge_int ?_
  rw[show decide (lns ρ bs+d<=lns ρ as+c)=!x by rw[←e,←decide_not];exact decide_eq_decide.mpr (by omega)]
  exact hq _ _ (by rw[←neg_eq];exact g)
theorem sz_le(hl:∀i,(ρ.L i).length<=90):∀ss:List Sg,(sgs ρ ss).length<=szS ss
 |[]=>Nat.le_refl 0
 |.it v::r=>Nat.succ_le_succ (sz_le hl r)
 |.sg i::r=>by
  show(ρ.L i++sgs ρ r).length<=Nat.add 90 (szS r)
  rw[List.length_append]
  exact Nat.add_le_add (hl i) (sz_le hl r)
theorem sz_e{ss:List Sg}{n:Nat}{p:Bool}(g:szK ss n p=true)(hl:∀i,(ρ.L i).length<=90):(sgs ρ ss).length<=n/\p=true:=
 ⟨Nat.le_trans (sz_le hl ss) (Nat.le_of_ble_eq_true (cd_e g).1),(cd_e g).2⟩
theorem sz9{ss:List Sg}{p:Bool}(g:szK ss (nat_lit 900) p=true)(hl:∀i,(ρ.L i).length<=90):(sgs ρ ss).length<=900/\p=true:=sz_e g hl
theorem sz90{ss:List Sg}{p:Bool}(g:szK ss (nat_lit 90) p=true)(hl:∀i,(ρ.L i).length<=90):(sgs ρ ss).length<=90/\p=true:=sz_e g hl
theorem gTruth_ok{v:V}{k:KB}{Q:Bool->Shared->Prop}(R:Rl Γ ρ σ h)(g:gTruth v σ k=true)(hq:∀c tk',k c σ=true->Q c (Γ.sh h tk')):Γ.wp (truthy (iv ρ v)) Q E h tk:=by
 cases v<;>first|exact ff g|skip
 .exact wpAny_truthy_bool (hq _ _ g)
 .replace g:=at_e g
  refine elEA (λo hl g51=>?_) g;revert g51;clear g;intro g
  cases o<;>first|exact ff g|skip
  rename_i ss m
  replace g:=sz9 g R.ll
  obtain⟨hz,g⟩:=g
  have hf:(sgs ρ ss).toArray.size<=900:=by simpa using hz
  replace g:=empty_e (ss:=ss) g
  rcases g with⟨rfl,g⟩|⟨v,r,rfl,g⟩
  .exact wpAny_truthy_list (s:=Γ.sh h tk) (R.isList hl) (by omega) (hq _ _ g)
  .exact wpAny_truthy_list (s:=Γ.sh h tk) (R.isList hl) (by omega) (hq _ _ g)
end
end Mine.Q
namespace Mine.Q
section
variable{prog:Program}{w:World}{Γ:Fx prog w}{ρ ρ':Rho}{σ:S}{h h':Heap}{tk n d:Nat}{o:O}{v:V}{k:KV}{E:Value->Shared->Prop}
theorem sgs_app{a b:List Sg}:sgs ρ (a++b)=sgs ρ a++sgs ρ b:=List.flatMap_append
theorem sgs_of{vs:List V}:sgs ρ (ofV vs)=ivs ρ vs:=by
 induction vs with
 |nil=>rfl
 |cons v r ih=>exact congrArg (iv ρ v::·) ih
theorem ofV_sc{N:Nat}{vs:List V}(h:scs N vs):∀s∈ofV vs,s.sc N:=by
 induction vs with
 |nil=>exact λ_ h=>nomatch h
 |cons v r ih=>
  intro s hs
  rcases List.mem_cons.mp (show s∈Sg.it v::ofV r from hs)with rfl|hs
  .exact h v (.head _)
  .exact ih (λx hx=>h x (.tail _ hx)) s hs
theorem its_e{k:List V->Bool}:∀{ss:List Sg},itsS ss k=true->∃vs,ss=ofV vs/\k vs=true:=by
 intro ss
 induction ss generalizing k with
 |nil=>exact λg=>⟨[],rfl,g⟩
 |cons s r ih=>
  intro g
  rcases s with v|i
  .refine elEA (λvs e g1=>?_)<|ih g
   exact⟨v::vs,by rw[e];rfl,g1⟩
  .first|exact ff g|exact nn g|cases g
theorem len_e{k:List Nat->Nat->Bool}:∀{ss:List Sg},lenS ss k=true->∃as c,k as c=true/\∀ρ:Rho,((sgs ρ ss).length:Int)=lns ρ as+c:=by
 intro ss
 induction ss generalizing k with
 |nil=>exact λg=>mkEEA [] 0 g (λ_=>rfl)
 |cons s r ih=>
  intro g
  rcases s with v|i
  .refine elEEA (λas c g e=>?_)<|ih g
   refine mkEEA as (Nat.succ c) g (λρ=>?_)
   show(((sgs ρ r).length+1:Nat):Int)=_
   have:=e ρ
   omega
  .refine elEEA (λas c g e=>?_)<|ih g
   refine mkEEA (i::as) c g (λρ=>?_)
   show((ρ.L i++sgs ρ r).length:Int)=_
   rw[List.length_append,lns_cons]
   have:=e ρ
   omega
theorem tn1{x:Int}{m:Nat}(h:0<=x):(x+(m+1:Nat)).toNat=(x+m).toNat+1:=by omega
theorem tn2{x:Int}{a c:Nat}(h:0<=x):((a:Int)+x+c).toNat=a+(x+c).toNat:=by omega
theorem nth_sg{v:V}(ρ:Rho):∀{ss:List Sg} {as:List Nat} {c:Nat},nthS ss as c=some v->(sgs ρ ss)[(lns ρ as+c).toNat]?=some (iv ρ v)/\Sg.it v∈ss:=by
 intro ss
 induction ss with
 |nil=>intro as c g;first|exact ff g|exact nn g|cases g
 |cons s r ih=>
  intro as c g
  rcases s with x|i
  .rcases c with _|m
   .rcases as with _|⟨_,_⟩
    .have g:some x=some v:=g
     first|exact ff g|exact nn g|cases g
     exact⟨rfl,.head _⟩
    .first|exact ff g|exact nn g|cases g
   .obtain⟨e,hm⟩:=ih (as:=as) (c:=m) g
    refine⟨?_,.tail _ hm⟩
    have:=lns_nn (ρ:=ρ) (as:=as)
    rw[tn1 (m:=m) this]
    exact e
  .rcases as with _|⟨a,as⟩
   .first|exact ff g|exact nn g|cases g
   .have g:bi (Nat.beq i a) (nthS r as c) none=some v:=g
    rcases q:Nat.beq i a with _|_
    .rw[q]at g;first|exact ff g|exact nn g|cases g
    .rw[q]at g
     obtain⟨e,hm⟩:=ih (as:=as) (c:=c) (show nthS r as c=some v from g)
     have:=Nat.eq_of_beq_eq_true q
     subst this
     refine⟨?_,.tail _ hm⟩
     have:=lns_nn (ρ:=ρ) (as:=as)
     show(ρ.L i++sgs ρ r)[_]?=_
     rw[lns_cons,tn2 this,List.getElem?_append_right (Nat.le_add_right ..),Nat.add_sub_cancel_left]
     exact e
theorem tak_e{k:List Sg->Bool}:∀{ss:List Sg} {as:List Nat} {c:Nat},takS ss as c k=true->∃r,k r=true/\(∀s∈r,s∈ss)/\∀ρ:Rho,(sgs ρ ss).take (lns ρ as+c).toNat=sgs ρ r:=by
 intro ss
 induction ss generalizing k with
 |nil=>
  intro as c g
  rcases as with _|⟨_,_⟩
  .refine mkEAA [] ?_ (λ_ h=>nomatch h) (λ_=>List.take_nil)
   cases c<;>exact g
  .first|exact ff g|exact nn g|cases g
 |cons s r ih=>
  intro as c g
  rcases s with x|i
  .rcases c with _|m
   .rcases as with _|⟨_,_⟩
    .exact mkEAA [] g (λ_ h=>nomatch h) (λ_=>rfl)
    .first|exact ff g|exact nn g|cases g
   .refine elEAA (λt g hm e=>?_)<|ih (k:=λr=>k (.it x::r)) (as:=as) (c:=m) g
    refine mkEAA (.it x::t) g (λs hs=>?_) (λρ=>?_)
    .rcases List.mem_cons.mp hs with rfl|hs
     .exact .head _
     .exact .tail _ (hm s hs)
    .have:=lns_nn (ρ:=ρ) (as:=as)
     rw[tn1 (m:=m) this]
     exact congrArg (iv ρ x::·) (e ρ)
  .rcases as with _|⟨a,as⟩
   .rcases c with _|_
    .exact mkEAA [] g (λ_ h=>nomatch h) (λ_=>rfl)
    .first|exact ff g|exact nn g|cases g
   .obtain⟨q,g1⟩:=bi_t (b:=Nat.beq i a) (p:=takS r as c λr=>k (.sg i::r)) g
    have:=Nat.eq_of_beq_eq_true q
    subst this
    refine elEAA (λt g hm e=>?_)<|ih (k:=λr=>k (.sg i::r)) g1
    refine mkEAA (.sg i::t) g (λs hs=>?_) (λρ=>?_)
    .rcases List.mem_cons.mp hs with rfl|hs
     .exact .head _
     .exact .tail _ (hm s hs)
    .have:=lns_nn (ρ:=ρ) (as:=as)
     show(ρ.L i++sgs ρ r).take _=ρ.L i++sgs ρ t
     rw[lns_cons,tn2 this,List.take_length_add_append,e]
theorem drp_e{k:List Sg->Bool}:∀{ss:List Sg} {as:List Nat} {c:Nat},drpS ss as c k=true->∃r,k r=true/\(∀s∈r,s∈ss)/\∀ρ:Rho,(sgs ρ ss).drop (lns ρ as+c).toNat=sgs ρ r:=by
 intro ss
 induction ss with
 |nil=>
  intro as c g
  rcases as with _|⟨_,_⟩
  .exact mkEAA [] g (λ_ h=>nomatch h) (λ_=>List.drop_nil)
  .first|exact ff g|exact nn g|cases g
 |cons s r ih=>
  intro as c g
  rcases s with x|i
  .rcases c with _|m
   .rcases as with _|⟨_,_⟩
    .exact mkEAA _ g (λ_ h=>h) (λ_=>rfl)
    .first|exact ff g|exact nn g|cases g
   .refine elEAA (λt g hm e=>?_)<|ih (as:=as) (c:=m) g
    refine mkEAA t g (λs hs=>.tail _ (hm s hs)) (λρ=>?_)
    have:=lns_nn (ρ:=ρ) (as:=as)
    rw[tn1 (m:=m) this]
    exact e ρ
  .rcases as with _|⟨a,as⟩
   .rcases c with _|_
    .exact mkEAA _ g (λ_ h=>h) (λ_=>rfl)
    .first|exact ff g|exact nn g|cases g
   .obtain⟨q,g1⟩:=bi_t (b:=Nat.beq i a) (p:=drpS r as c k) g
    have:=Nat.eq_of_beq_eq_true q
    subst this
    refine elEAA (λt g hm e=>?_)<|ih g1
    refine mkEAA t g (λs hs=>.tail _ (hm s hs)) (λρ=>?_)
    have:=lns_nn (ρ:=ρ) (as:=as)
    show(ρ.L i++sgs ρ r).drop _=_
    rw[lns_cons,tn2 this,List.drop_length_add_append,e]
noncomputable def isSl(e:Expr):Bool:=Nat.beq e.ctorIdx 26
theorem subscripted_ns{sl:Expr}(hs:isSl sl=false)(o i:Value):subscripted sl false o i=operate [o,i] (getItem o i):=by
 cases sl<;>first|rfl|exact ff hs.symm
noncomputable def GI(Γ:Fx prog w)(a i x:Value)(h:Heap):Prop:=∀(E:Value->Shared->Prop) (tk:Nat),
 (∀(value slice:Expr) (Q:Value->Shared->Prop),isSl slice=false->(∀tk',Q x (Γ.sh h tk'))->Γ.wp (subscriptTail value slice a i) Q E h tk)/\(∀Q:Value->Shared->Prop,(∀tk',Q x (Γ.sh h tk'))->Γ.wp (getItem a i) Q E h tk)
theorem gItem_ok{o i:V}(R:Rl Γ ρ σ h)(g:gItem o i σ k=true):∃v',k v' σ=true/\v'.sc ρ.n/\GI Γ (iv ρ o) (iv ρ i) (iv ρ v') h:=by
 replace g:=drf_e g ρ
 refine elEEAAA (λn ob r52 z53 hl g54=>?_) g;revert g54;clear g;intro g;subst r52;clear z53
 have sc:=(R.sco hl).2
 have ok:=R.oko hl
 cases ob<;>first|exact ff g|skip
 .rename_i ss m
  replace g:=sz9 g R.ll
  obtain⟨hz,g⟩:=g
  replace g:=int_e g
  refine elEEEA (λas c t r55 g56=>?_) g;revert g56;clear g;intro g;subst r55
  replace g:=onN_e (a:=c) g
  refine elEA (λc r57 g58=>?_) g;revert g58;clear g;intro g;subst r57
  replace g:=oe_e g
  refine elEA (λx hx g59=>?_) g;revert g59;clear g;intro g
  obtain⟨e,hm⟩:=nth_sg ρ hx
  have:=lns_nn (ρ:=ρ) (as:=as)
  have hlt:=(List.getElem?_eq_some_iff.mp e).1
  have k:∀{s:Shared} {Q:Value->Shared->Prop} {E:Value->Shared->Prop},s.heap=h->Q (iv ρ x) s->wpAny (model prog w) Γ.A (getItem (iv ρ (.ref n)) (iv ρ (.int as c t))) Q E s:=λhs hq=>
   wpAny_getItem_list (x:=iv ρ x) (by rw[hs];exact R.isList hl) (by omega) (by omega) (by rw[List.getElem?_toArray];exact e) hq
  exact mkEAA x g (sc.1 _ hm) (λE tk=>⟨λvalue slice Q hs hq=>tail_any (R.isList hl).typeIs slot_list_getitem.lookup (k rfl (hq _)) (subscripted_ns hs _ _),λQ hq=>k rfl (hq _)⟩)
 .rename_i vs m
  replace g:=cd_e g
  obtain⟨hz,g⟩:=g
  have hz:vs.length<=900:=by rw[←len_eq];exact Nat.le_of_ble_eq_true hz
  replace g:=lit_e g
  refine elEEA (λc t r60 g61=>?_) g;revert g61;clear g;intro g;subst r60
  replace g:=oe_e g
  refine elEA (λx hx g62=>?_) g;revert g62;clear g;intro g
  rw[nth_eq]at hx
  have hlt:=(List.getElem?_eq_some_iff.mp hx).1
  rw[iv_lit]
  have k:∀{s:Shared} {Q:Value->Shared->Prop} {E:Value->Shared->Prop},s.heap=h->Q (iv ρ x) s->wpAny (model prog w) Γ.A (getItem (iv ρ (.ref n)) (.int c (ρ.num t))) Q E s:=λhs hq=>
   getItem_tuple (x:=iv ρ x) (by rw[hs];exact R.isTup hl) (by omega) (by omega) (seqIndex_of (Int.natCast_nonneg _) (by simp[ivs];omega)) (by simp[ivs,hx]) hq
  exact mkEAA x g (sc.1 _ (List.mem_of_getElem? hx)) (λE tk=>⟨λvalue slice Q hs hq=>tail_any (R.isTup hl).typeIs slot_tuple_getitem.lookup (k rfl (hq _)) (subscripted_ns hs _ _),λQ hq=>k rfl (hq _)⟩)
 .rename_i oi kvs
  replace g:=str_e g
  refine elEEA (λj t r63 g64=>?_) g;revert g64;clear g;intro g;subst r63
  replace g:=oe_e g
  refine elEA (λx hx g65=>?_) g;revert g65;clear g;intro g
  refine elEAA (λl d z66 hv=>?_)<|ok.1;clear z66
  have e:valueAt l (nm j)=some (iv ρ x):=by rw[hv,hx];rfl
  have k:∀{tk:Nat} {Q:Value->Shared->Prop} {E:Value->Shared->Prop},(∀tk',Q (iv ρ x) (Γ.sh h tk'))->Γ.wp (getItem (iv ρ (.ref n)) (iv ρ (.str j t))) Q E h tk:=λhq=>led_get R.nw (R.mem hl) d (strKind_is _ _ (nm j) _) e (hq _)
  exact mkEAA x g (sc.1 _ (lk_mem hx)) (λE tk=>⟨λvalue slice Q hs hq=>tail_any (kda_dict (s:=Γ.sh h tk) R.nw (R.mem hl) d).typeIs slot_dict_getitem.lookup (k hq) (subscripted_ns hs _ _),λQ hq=>k hq⟩)
 .rename_i oi kvs
  replace g:=lit_e g
  refine elEEA (λj t r67 g68=>?_) g;revert g68;clear g;intro g;subst r67
  replace g:=oe_e g
  refine elEA (λx hx g69=>?_) g;revert g69;clear g;intro g
  have e:valueAt (kvs.map λp=>((p.1:Int),iv ρ p.2)) (j:Int)=some (iv ρ x):=by rw[valueAt_I,hx];rfl
  rw[iv_lit]
  have k:∀{tk:Nat} {Q:Value->Shared->Prop} {E:Value->Shared->Prop},(∀tk',Q (iv ρ x) (Γ.sh h tk'))->Γ.wp (getItem (iv ρ (.ref n)) (.int j (ρ.num t))) Q E h tk:=λhq=>led_get R.nw (R.mem hl) ok.1 (intKind_is _ _ (j:Int) _) e (hq _)
  exact mkEAA x g (sc.1 _ (lk_mem hx)) (λE tk=>⟨λvalue slice Q hs hq=>tail_any (kda_dict (s:=Γ.sh h tk) R.nw (R.mem hl) ok.1).typeIs slot_dict_getitem.lookup (k hq) (subscripted_ns hs _ _),λQ hq=>k hq⟩)
 .rename_i oi kn
  replace g:=lit_e g
  refine elEEA (λj t r70 g71=>?_) g;revert g71;clear g;intro g;subst r70
  replace g:=oe_e g
  refine elEA (λx hx g72=>?_) g;revert g72;clear g;intro g
  replace g:=oe_e g
  refine elEA (λx r73 g74=>?_) g;revert g74;clear g;intro g;subst r73
  refine elEA (λl d hv=>?_)<|ok.1
  have e:valueAt l (j:Int)=some (iv ρ x):=by rw[hv _ (lk_mem hx)];rfl
  rw[iv_lit]
  have k:∀{tk:Nat} {Q:Value->Shared->Prop} {E:Value->Shared->Prop},(∀tk',Q (iv ρ x) (Γ.sh h tk'))->Γ.wp (getItem (iv ρ (.ref n)) (.int j (ρ.num t))) Q E h tk:=λhq=>led_get R.nw (R.mem hl) d (intKind_is _ _ (j:Int) _) e (hq _)
  exact mkEAA x g (sc.1 _ (lk_mem hx) _ rfl) (λE tk=>⟨λvalue slice Q hs hq=>tail_any (kda_dict (s:=Γ.sh h tk) R.nw (R.mem hl) d).typeIs slot_dict_getitem.lookup (k hq) (subscripted_ns hs _ _),λQ hq=>k hq⟩)
 .rename_i oi b sd ops kn
  replace g:=lit_e g
  refine elEEA (λj t r75 g76=>?_) g;revert g76;clear g;intro g;subst r75
  refine elAA (λd hv lo=>?_) ok;clear ok
  have H:∃x,k x σ=true/\x.sc ρ.n/\valueAt (tabT ρ b sd ops) (j:Int)=some (iv ρ x):=by
   rw[valueAt_T]
   rcases q:lk ops j with _|v
   .rw[q]at g
    refine elEA (λx hx g=>?_)<|oe_e (o:=lk kn j) g
    obtain⟨x,rfl,g⟩:=oe_e (o:=x) g
    exact mkEAA x g (sc.2.1 _ (lk_mem hx) _ rfl) (hv _ (lk_mem hx))
   .rw[q]at g;exact mkEAA v g (sc.1 _ (lk_mem q)) rfl
  refine elEAA (λx g sx e=>?_) H;clear H
  rw[iv_lit]
  have k:∀{tk:Nat} {Q:Value->Shared->Prop} {E:Value->Shared->Prop},(∀tk',Q (iv ρ x) (Γ.sh h tk'))->Γ.wp (getItem (iv ρ (.ref n)) (.int j (ρ.num t))) Q E h tk:=λhq=>led_get R.nw (R.mem hl) d (intKind_is _ _ (j:Int) _) e (hq _)
  exact mkEAA x g sx (λE tk=>⟨λvalue slice Q hs hq=>tail_any (kda_dict (s:=Γ.sh h tk) R.nw (R.mem hl) d).typeIs slot_dict_getitem.lookup (k hq) (subscripted_ns hs _ _),λQ hq=>k hq⟩)
theorem newL_ok{ss:List Sg}{ws:List Value}{c a:Nat}{m:Str->Option Value}{Q:Value->Shared->Prop}(R:Rl Γ ρ σ h)(g:newK σ (.list ss) k=true)(hq:KQ Γ ρ k Q)(hs:∀s∈ss,s.sc ρ.n)(e:sgs ρ ss=ws)
 (F:Fr ρ.g Γ.L h' m)(cv:Γ.cov m ρ σ)(N:News ρ.g Γ.L h' ((a,listOf ws.toArray c)::Γ.lg ρ σ))(lt:∀p∈Γ.lg ρ σ,p.1<a):Q (.ref a) (Γ.sh h' tk):=by
 subst e
 refine new_ok (a:=a) (ob:=listOf (sgs ρ ss).toArray c) R g c default F cv N lt ?_ ?_ trivial λρ' σ' x sc R' g' ev=>?_
 .show listOf _ _=_
  rw[p2_pre.sgs hs,p2_cnt]
 .exact⟨λs hh=>(hs s hh).up (by rw[p2_n];omega),by rw[p2_n];exact Nat.lt_succ_self _⟩
 .have:=hq _ ρ' σ' h' tk x sc R' g'
  rw[ev]at this
  exact this
noncomputable def slF(up:Bool)(x:Value):Array Value:=Bool.rec #[x,.none,.none] #[.none,x,.none] up
theorem slice_at{value slice:Expr}{o:Value}{i:Value}{Q:Value->Shared->Prop}{s:Shared}(h:wpAny (model prog w) Γ.A (subscriptTail (.Name "x" ⟨0,0,0,0⟩) slice o i) Q E s):wpAny (model prog w) Γ.A (subscriptTail value slice o i) Q E s:=
 kba_turn (λr=>rfl) h
theorem gSl_ok{up:Bool}{o z:V}{value:Expr}{lo hi:Option Expr}{sp:Pos}{Q:Value->Shared->Prop}(R:Rl Γ ρ σ h)(g:gSl up o z σ k=true)(hq:KQ Γ ρ k Q):
 Γ.wp (subscriptTail value (.Slice lo hi none sp) (iv ρ o) (.ref h.objs.size)) Q E (h.push {cls:=.type "slice",data:=.fields (slF up (iv ρ z))}) tk:=by
 replace g:=drf_e g ρ
 refine elEEAAA (λn ob r80 z81 hl g82=>?_) g;revert g82;clear g;intro g;subst r80;clear z81
 have sc:=(R.sco hl).2
 cases ob<;>first|exact ff g|skip
 rename_i ss m
 replace g:=sz9 g R.ll
 obtain⟨hz,g⟩:=g
 replace g:=int_e (v:=z) g
 refine elEEEA (λas c t r83 g84=>?_) g;revert g84;clear g;intro g;subst r83
 replace g:=onN_e (a:=c) g
 refine elEA (λc r85 g86=>?_) g;revert g86;clear g;intro g;subst r85
 refine elEA (λm0 F cv=>?_)<|R.fr
 have nn:=lns_nn (ρ:=ρ) (as:=as)
 refine slice_at ?_
 rcases up with _|_
 .replace g:=drp_e (k:=λr=>newK σ (.list r) k) g
  refine elEAA (λr g88 hm e=>?_) g;revert g88;clear g;intro g
  refine led_from (s:=Γ.sh h tk) (vs:=sgs ρ ss) F R.nw (R.mem hl) (by omega) (by omega) (λD h' F N lt=>?_) (by rfl) (λ_=>by rfl)
  exact newL_ok R g hq (λs hs=>sc.1 s (hm s hs)) (e ρ).symm F cv N lt
 .replace g:=tak_e (k:=λr=>newK σ (.list r) k) g
  refine elEAA (λr g87 hm e=>?_) g;revert g87;clear g;intro g
  refine led_upto (s:=Γ.sh h tk) (vs:=sgs ρ ss) F R.nw (R.mem hl) (by omega) (by omega) (λD h' F N lt=>?_) (by rfl) (λ_=>by rfl)
  exact newL_ok R g hq (λs hs=>sc.1 s (hm s hs)) (e ρ).symm F cv N lt
end
end Mine.Q
namespace Mine.Q
section
variable{prog:Program}{w:World}{Γ:Fx prog w}{ρ ρ':Rho}{σ:S}{h h':Heap}{tk n d:Nat}{o:O}{v:V}{k:KV}{E:Value->Shared->Prop}
theorem intN_ok{as:List Nat}{c:Int}{Q:Value->Shared->Prop}(R:Rl Γ ρ σ h)(g:intN as c σ k=true)(hq:KQ Γ ρ k Q)(t tk:Nat):Q (.int (lns ρ as+c) t) (Γ.sh h tk):=
 tok_ok R g t default λσ' x lt R' _ _ g'=>by
  have:=hq (.int as c ρ.n) _ σ' h tk x lt R' g'
  rw[show iv (ρ.push t default) (.int as c ρ.n)=.int (lns ρ as+c) t by show Value.int _ _=_;rw[push_num,(push_pre (ρ:=ρ) (x:=t) (ob:=default)).lns]]at this
  exact this
theorem nat_ok{c:Nat}{Q:Value->Shared->Prop}(R:Rl Γ ρ σ h)(g:intN [] (Int.ofNat c) σ k=true)(hq:KQ Γ ρ k Q)(t tk:Nat):Q (.int c t) (Γ.sh h tk):=by
 have:=intN_ok R g hq t tk
 rwa[lns_nil,Int.zero_add]at this
theorem fnd_e{l:List Nat}{i:Nat}:∀{T:List (Nat×List Nat)},fndL l T=some i->(i,l)∈T
 |p::r,h=>by
  have h:bi (eqN l p.2) (some p.1) (fndL l r)=some i:=h
  rcases q:eqN l p.2 with _|_
  .rw[q]at h;exact .tail _ (fnd_e h)
  .rw[q]at h
   have h:some p.1=some i:=h
   cases h
   rw[eqN_e q];exact .head _
theorem str_of{x y:Str}(h:x.cps.toList=y.cps.toList):x=y:=by
 cases x;cases y
 congr 1
 exact Array.toList_inj.mp h
theorem mkS_ok{l:List Nat}{x:Str}{Q:Value->Shared->Prop}(R:Rl Γ ρ σ h)(g:mkS l σ k=true)(e:x.cps.toList=l)(hq:KQ Γ ρ k Q)(t tk:Nat):Q (.str x t) (Γ.sh h tk):=by
 replace g:=oe_e (o:=fnd l) g
 refine elEA (λi hi g89=>?_) g;revert g89;clear g;intro g
 have:x=nm i:=str_of (e.trans (tx_all _ (fnd_e hi)).symm)
 subst this
 exact tok_ok R g t default λσ' x lt R' _ _ g'=>by
  have:=hq (.str i ρ.n) _ σ' h tk x lt R' g'
  rw[show iv (ρ.push t default) (.str i ρ.n)=.str (nm i) t from congrArg _ push_num]at this
  exact this
theorem tx_len:∀p∈txT,p.2.length<=16:=by decide+kernel
theorem cps_e{i:Nat}{k:List Nat->Bool}(g:cps i k=true):∃l,(nm i).cps.toList=l/\k l=true/\(nm i).length<=16/\(i,l)∈txT:=by
 refine elEA (λl hl g=>?_)<|oe_e (o:=lk txT i) g
 have hm:=lk_mem hl
 have e:=tx_all _ hm
 refine mkEAAA l e g ?_ hm
 have:=tx_len _ hm
 show(nm i).cps.size<=16
 rw[←Array.length_toList,e];exact this
theorem addI_ok{as bs:List Nat}{c d:Int}{Q:Value->Shared->Prop}(R:Rl Γ ρ σ h)(g:addI as c bs d σ k=true)(hq:KQ Γ ρ k Q)(t tk:Nat):Q (.int ((lns ρ as+c)+(lns ρ bs+d)) t) (Γ.sh h tk):=by
 rcases as with _|⟨a,r⟩
 .rcases bs with _|⟨b,r⟩
  .have:=intN_ok R g hq t tk;rw[lns_nil]at this⊢;rwa[show(0:Int)+c+(0+d)=0+(c+d)by omega]
  .have:=intN_ok R g hq t tk;rw[lns_nil];rwa[show(0:Int)+c+(lns ρ (b::r)+d)=lns ρ (b::r)+(c+d)by omega]
 .rcases bs with _|⟨_,_⟩
  .have:=intN_ok R g hq t tk;rw[lns_nil (ρ:=ρ)];rwa[show lns ρ (a::r)+c+(0+d)=lns ρ (a::r)+(c+d)by omega]
  .exact ff g
theorem rep_nat:∀(n:Nat),rep n [(nat_lit 32)]=List.replicate n 32
 |0=>rfl
 |n+1=>congrArg (32::·) (rep_nat n)
theorem rep_it{x:V}:∀(n:Nat),sgs ρ (rep n [Sg.it x])=List.replicate n (iv ρ x)/\∀s∈rep n [Sg.it x],s=Sg.it x
 |0=>⟨rfl,λ_ h=>nomatch h⟩
 |n+1=>⟨congrArg (iv ρ x::·) (rep_it n).1,λs hs=>by
  rcases List.mem_cons.mp (show s∈Sg.it x::rep n [.it x]from hs)with rfl|hs
  .rfl
  .exact(rep_it n).2 s hs⟩
theorem nm_spc:nm 190=⟨#[32]⟩:=by decide+kernel
theorem one_e{vs:List V}{k:V->Bool}(g:one vs k=true):∃v,vs=[v]/\k v=true:=by
 rcases vs with _|⟨v,r⟩
 .exact ff g
 .cases r<;>first|exact ff g|exact⟨v,rfl,g⟩
theorem gAdd_ok{a b:V}{Q:Value->Shared->Prop}(R:Rl Γ ρ σ h)(g:gAdd a b σ k=true)(hq:KQ Γ ρ k Q):Γ.wp (binaryOp .Add (iv ρ a) (iv ρ b)) Q E h tk:=by
 cases a<;>first|exact ff g|skip
 .rename_i as c t
  replace g:=int_e (v:=b) g
  refine elEEEA (λbs e u r90 g91=>?_) g;revert g91;clear g;intro g;subst r90
  exact PyProof.Rows.add_int (addI_ok R g hq _ _)
 .rename_i i t
  replace g:=str_e (v:=b) g
  refine elEEA (λj u r92 g93=>?_) g;revert g93;clear g;intro g;subst r92
  replace g:=cps_e g
  refine elEAAA (λx hx g94 l1 z95=>?_) g;revert g94;clear g;intro g;clear z95
  replace g:=cps_e g
  refine elEAAA (λy hy g96 l2 z97=>?_) g;revert g96;clear g;intro g;clear z97
  refine SBL.add (λt' k' _=>mkS_ok R g ?_ hq t' k') (by show(nm i).length+(nm j).length<=sizeLine;exact Nat.le_trans (Nat.add_le_add l1 l2) (Nat.le_of_ble_eq_true rfl))
  rw[app_eq,←hx,←hy]
  exact Array.toList_append
 .rename_i m
  replace g:=ref_e (v:=b) g
  refine elEA (λn r98 g99=>?_) g;revert g99;clear g;intro g;subst r98
  replace g:=at_e g
  refine elEA (λo1 h1 g100=>?_) g;revert g100;clear g;intro g
  replace g:=at_e g
  refine elEA (λo2 h2 g101=>?_) g;revert g101;clear g;intro g
  cases o1<;>first|exact ff g|skip
  cases o2<;>first|exact ff g|skip
  rename_i ss c ss2 c2
  replace g:=sz9 g R.ll
  obtain⟨z1,g⟩:=g
  replace g:=sz90 g R.ll
  obtain⟨z2,g⟩:=g
  rw[app_eq]at g
  refine elEA (λm0 F cv=>?_)<|R.fr
  refine led_add (vs:=sgs ρ ss) (vs2:=sgs ρ ss2) F R.nw (R.mem h1) (R.mem h2) z1 (by omega) λD h' F N lt=>?_
  exact newL_ok R g hq (λs hs=>(List.mem_append.mp hs).elim ((R.sco h1).2.1 s) ((R.sco h2).2.1 s)) sgs_app F cv N lt
theorem gBin_ok{op:Operator}{a b:V}{Q:Value->Shared->Prop}(R:Rl Γ ρ σ h)(g:gBin op a b σ k=true)(hq:KQ Γ ρ k Q):Γ.wp (binaryOp op (iv ρ a) (iv ρ b)) Q E h tk:=by
 cases op
 case Add=>exact gAdd_ok R g hq
 case Sub=>
  replace g:=int_e (v:=a) g
  refine elEEEA (λas c t r102 g103=>?_) g;revert g103;clear g;intro g;subst r102
  replace g:=lit_e (v:=b) g
  refine elEEA (λe u r104 g105=>?_) g;revert g105;clear g;intro g;subst r104
  have:=intN_ok R g hq tk (tk+1)
  rw[iv_lit]
  refine PyProof.Rows.sub_int ?_
  rwa[show lns ρ as+c-(e:Int)=lns ρ as+Int.sub c (Int.ofNat e)by show _=lns ρ as+(c-(e:Int));omega]
 case Mod=>
  replace g:=lit_e (v:=a) g
  refine elEEA (λc t r106 g107=>?_) g;revert g107;clear g;intro g;subst r106
  replace g:=lit_e (v:=b) g
  refine elEEA (λe u r108 g109=>?_) g;revert g109;clear g;intro g;subst r108
  replace g:=cd_e g
  obtain⟨hz,g⟩:=g
  have hz:1<=e:=Nat.le_of_ble_eq_true hz
  rw[iv_lit,iv_lit]
  refine mod_int' (by omega) ?_
  rw[show(c:Int).fmod (e:Int)=((Nat.mod c e:Nat):Int)from by rw[Int.fmod_eq_emod_of_nonneg _ (Int.natCast_nonneg _)];rfl]
  exact nat_ok R g hq _ _
 case Mult=>
  replace g:=lit_e (v:=b) g
  refine elEEA (λc u r110 g111=>?_) g;revert g111;clear g;intro g;subst r110
  rw[iv_lit]
  cases a<;>first|exact ff g|skip
  .replace g:=cd_e g
   obtain⟨hi,g⟩:=g
   have:=Nat.eq_of_beq_eq_true hi
   subst this
   replace g:=cd_e g
   obtain⟨hc,g⟩:=g
   have hc:c<=900:=Nat.le_of_ble_eq_true hc
   show Γ.wp (binaryOp .Mult (.str (nm 190) _) _) Q E h tk
   rw[nm_spc]
   refine KXi.mul rfl (by decide) (by omega) (by omega) λt' k' _ _=>mkS_ok R g ?_ hq t' k'
   rw[mul_one_list,rep_nat];rfl
  .replace g:=at_e g
   refine elEA (λo h1 g112=>?_) g;revert g112;clear g;intro g
   cases o<;>first|exact ff g|skip
   rename_i m ss c1
   replace g:=its_e g
   refine elEA (λvs r113 g114=>?_) g;revert g114;clear g;intro g;subst r113
   replace g:=one_e g
   refine elEA (λx r115 g116=>?_) g;revert g116;clear g;intro g;subst r115
   replace g:=cd_e g
   obtain⟨hc,g⟩:=g
   have hc:c<=200:=Nat.le_of_ble_eq_true hc
   refine elEA (λm0 F cv=>?_)<|R.fr
   have hx:x.sc ρ.n:=(R.sco h1).2.1 _ (.head _)
   refine KMa.mul (vs:=[iv ρ x]) F R.nw (R.isList h1) (by omega) (by omega) (by simp only[List.length_cons,List.length_nil];omega) List.flatten_replicate_singleton λD h' F N lt=>?_
   exact newL_ok R g hq (λs hs=>by rw[(rep_it (ρ:=ρ) c).2 s hs];exact hx) (rep_it c).1 F cv N lt
 all_goals exact ff g
theorem put_q{f:Nat->O}{K:S->Bool}{G:Prop}(R:Rl Γ ρ σ h)(g:putK σ n f K=true){o₀:O}(hl:lk σ.hp n=some o₀)
 (hq:∀A B,Γ.lg ρ σ=A++(ρ.num n,io w ρ o₀)::B->
   (∀x ox,(f ρ.n).sc (ρ.push x ox).n->okO prog w (ρ.push x ox) (ρ.num n) (f ρ.n)->∀h' m,Fr ρ.g Γ.L h' m->Γ.cov m ρ σ->News ρ.g Γ.L h' (A++(ρ.num n,io w (ρ.push x ox) (f ρ.n))::B)->∃σ',Γ.Ext ρ (ρ.push x ox)/\Rl Γ (ρ.push x ox) σ' h'/\K σ'=true/\σ'.vs=σ.vs)->G):G:=by
 refine elEEEAA (λA o₁ B h1 e K=>?_)<|put_ok (h:=h) R g
 rw[hl]at h1
 cases h1
 exact hq A B e K
theorem gInp_ok{op:Operator}{a b:V}{Q:Value->Shared->Prop}(R:Rl Γ ρ σ h)(ha:a.sc ρ.n)(g:gInp op a b σ k=true)(hq:KQ Γ ρ k Q):Γ.wp (inplaceOp op (iv ρ a) (iv ρ b)) Q E h tk:=by
 cases op<;>first|exact ff g|skip
 cases a<;>first|exact ff g|skip
 .rename_i as c t
  replace g:=int_e (v:=b) g
  refine elEEEA (λbs e u r117 g118=>?_) g;revert g118;clear g;intro g;subst r117
  exact iadd_int (addI_ok R g hq _ _)
 .rename_i m
  replace g:=ref_e (v:=b) g
  refine elEA (λn r119 g120=>?_) g;revert g120;clear g;intro g;subst r119
  replace g:=at_e g
  refine elEA (λo1 h1 g121=>?_) g;revert g121;clear g;intro g
  replace g:=at_e g
  refine elEA (λo2 h2 g122=>?_) g;revert g122;clear g;intro g
  cases o1<;>first|exact ff g|skip
  cases o2<;>first|exact ff g|skip
  rename_i ss c ss2 c2
  replace g:=sz9 g R.ll
  obtain⟨z1,g⟩:=g
  replace g:=sz90 g R.ll
  obtain⟨z2,g⟩:=g
  replace g:=empty_e g
  rcases g with⟨-,g⟩|⟨v,r,e,g⟩
  .exact ff g
  have hne:(sgs ρ ss2).length≠0:=by rw[e];exact Nat.ne_of_gt sgs_pos
  rw[app_eq]at g
  refine elEA (λm0 F cv=>?_)<|R.fr
  refine put_q R g h1 λA B el K=>?_
  have sc:∀s∈ss++ss2,s.sc ρ.n:=λs hs=>(List.mem_append.mp hs).elim ((R.sco h1).2.1 s) ((R.sco h2).2.1 s)
  have eo:io w (ρ.push (ρ.num c+1) default) (.list (ss++ss2) ρ.n)=listOf (sgs ρ ss++sgs ρ ss2).toArray (ρ.num c+1):=by
   show listOf _ _=_
   rw[push_num,push_pre.sgs sc,sgs_app]
  have N:=R.nw
  have ND:=R.nd
  have hm2:=R.mem h2
  rw[el]at N ND hm2
  refine led_iadd F N ND hm2 updS_mid z1 z2 hne λh' F' N'=>?_
  refine elEAAA (λσ' x R' g' z123=>?_) (K (ρ.num c+1) default ⟨λs hs=>(sc s hs).up push_pre.le,by rw[push_n];exact Nat.lt_succ_self _⟩ trivial h' m0 F' cv (by rw[eo];exact N'));clear z123
  have:=hq (.ref m) _ σ' h' tk x (V.sc.up ha push_pre.le) R' g'
  rw[x.1.iv ha]at this
  exact this
end
end Mine.Q
namespace Mine.Q
section
variable{prog:Program}{w:World}{Γ:Fx prog w}{ρ ρ':Rho}{σ:S}{h h':Heap}{tk n d:Nat}{o:O}{v:V}{k:KV}{E:Value->Shared->Prop}
theorem setN_eq{α:Type}{x:α}:∀{l:List α} {n:Nat},setN l n x=l.set n x
 |[],n=>rfl
 |a::r,0=>rfl
 |a::r,n+1=>congrArg (a::·) (setN_eq (l:=r) (n:=n))
theorem setL_set{v:V}:∀{vs:List V} {j:Nat} {y:V},vs[j]?=some y->ki_setL (ivs ρ vs) j (iv ρ v)=some (ivs ρ (vs.set j v)):=by
 intro vs
 induction vs with
 |nil=>intro j y h;exact(nomatch h)
 |cons x r ih=>
  intro j y h
  rcases j with _|j
  .rfl
  .have:=ih (j:=j) (y:=y) (by simpa using h)
   show(match ki_setL (ivs ρ r) j (iv ρ v)with|some q=>some (iv ρ x::q)|none=>none)=_
   rw[this];rfl
theorem stor_lk{j i:Nat}{v:V}:∀{l:List (Nat×V)},lk (stor l j v) i=bi (Nat.beq i j) (some v) (lk l i)
 |[]=>rfl
 |p::l=>by
  show lk (bi (Nat.beq j p.1) ((j,v)::l) (p::stor l j v)) i=_
  rcases q:Nat.beq j p.1 with _|_
  .show lk (p::stor l j v) i=_
   rw[lk_cons,lk_cons,stor_lk (l:=l)]
   rcases q1:Nat.beq i p.1 with _|_
   .rfl
   .have:=Nat.eq_of_beq_eq_true q1
    subst this
    rw[beq_comm',q];rfl
  .have:=Nat.eq_of_beq_eq_true q
   show lk ((j,v)::l) i=_
   rw[lk_cons,lk_cons,this]
   cases Nat.beq i p.1<;>rfl
theorem stor_len{j:Nat}{v:V}:∀{l:List (Nat×V)},(stor l j v).length=if(lk l j).isSome then l.length else l.length+1
 |[]=>rfl
 |p::l=>by
  show(bi (Nat.beq j p.1) ((j,v)::l) (p::stor l j v)).length=_
  rw[lk_cons]
  rcases q:Nat.beq j p.1 with _|_
  .show(stor l j v).length+1=if(lk l j).isSome then l.length+1 else l.length+1+1
   rw[stor_len (l:=l)]
   split<;>rfl
  .rfl
theorem stor_mem{j:Nat}{v:V}{p:Nat×V}:∀{l:List (Nat×V)},p∈stor l j v->p=(j,v)\/p∈l
 |[],h=>.inl (List.mem_singleton.mp h)
 |q::l,h=>by
  have h:p∈bi (Nat.beq j q.1) ((j,v)::l) (q::stor l j v):=h
  rcases e:Nat.beq j q.1 with _|_
  .rw[e]at h
   rcases List.mem_cons.mp (show p∈q::stor l j v from h)with h|h
   .exact .inr (h▸.head _)
   .exact(stor_mem h).imp id (.tail _)
  .rw[e]at h
   rcases List.mem_cons.mp (show p∈(j,v)::l from h)with h|h
   .exact .inl h
   .exact .inr (.tail _ h)
theorem nm_iff{i j:Nat}{α:Type}{a b:α}:(if nm j=nm i then a else b)=bi (Nat.beq i j) a b:=by
 by_cases e:j=i
 .subst e;rw[if_pos rfl,Nat.beq_refl];rfl
 .rw[if_neg λh=>e (nm_inj h),show Nat.beq i j=false by rw[Bool.eq_false_iff,Ne,Nat.beq_eq];exact Ne.symm e];rfl
theorem bi_map{α β:Type}{f:α->β}{b:Bool}{x y:Option α}:(bi b x y).map f=bi b (x.map f) (y.map f):=by cases b<;>rfl
theorem stored_I{j:Nat}{v:V}:∀(l:List (Nat×V)),(l.map (·.1)).Nodup->stored (l.map λp=>((p.1:Int),iv ρ p.2)) (j:Int) (iv ρ v)=(stor l j v).map λp=>((p.1:Int),iv ρ p.2)
 |[],_=>rfl
 |p::l,nd=>by
  obtain⟨n1,n2⟩:=List.nodup_cons.mp nd
  have ih:=stored_I l n2 (j:=j) (v:=v)
  show _=(bi (Nat.beq j p.1) ((j,v)::l) (p::stor l j v)).map _
  unfold stored at ih⊢
  by_cases q:p.1=j
  .subst q
   rw[Nat.beq_refl,if_pos (by simp)]
   show _=((p.1,v)::l).map _
   rw[List.map_cons,List.map_cons,List.map_map,if_pos rfl]
   congr 1
   refine List.map_congr_left λx hx=>?_
   simp only[Function.comp]
   rw[if_neg λe=>n1 (by show p.1∈_;rw[←Int.ofNat.inj e];exact List.mem_map_of_mem (f:=(·.1)) hx)]
  .have q2:¬((p.1:Int)=(j:Int)):=λe=>q (Int.ofNat.inj e)
   rw[show Nat.beq j p.1=false by rw[Bool.eq_false_iff,Ne,Nat.beq_eq];exact Ne.symm q]
   show _=(p::stor l j v).map _
   rw[List.map_cons,List.map_cons (l:=stor l j v),←ih,List.map_cons,List.any_cons,decide_eq_false q2,Bool.false_or]
   split
   .rfl
   .rfl
theorem ofV_mem{x:V}:∀{vs:List V},x∈vs->Sg.it x∈ofV vs
 |a::r,q=>(List.mem_cons.mp q).elim (λe=>e▸.head _) λq=>.tail _ (ofV_mem q)
theorem gSetI_ok{ov key v:V}{K:S->Bool}{Q:Unit->Shared->Prop}(R:Rl Γ ρ σ h)(hv:v.sc ρ.n)(g:gSetI ov key v σ K=true)
 (hq:∀ρ' σ' h' tk',Γ.Ext ρ ρ'->Rl Γ ρ' σ' h'->K σ'=true->σ'.vs=σ.vs->Q () (Γ.sh h' tk')):Γ.wp (setItem (iv ρ ov) (iv ρ key) (iv ρ v)) Q E h tk:=by
 replace g:=drf_e g ρ
 refine elEEAAA (λn ob r124 z125 hl g126=>?_) g;revert g126;clear g;intro g;subst r124;clear z125
 refine elEA (λm0 F cv=>?_)<|R.fr
 have ok:=R.oko hl
 have sc:=(R.sco hl).2
 have N:=R.nw
 have ND:=R.nd
 cases ob<;>first|exact ff g|skip
 .rename_i ss m
  replace g:=sz9 g R.ll
  obtain⟨hz,g⟩:=g
  replace g:=lit_e g
  refine elEEA (λc t r127 g128=>?_) g;revert g128;clear g;intro g;subst r127
  replace g:=its_e g
  refine elEA (λvs r129 g130=>?_) g;revert g130;clear g;intro g;subst r129
  replace g:=oe_e g
  refine elEA (λy hy g131=>?_) g;revert g131;clear g;intro g
  rw[nth_eq]at hy
  have hlt:=(List.getElem?_eq_some_iff.mp hy).1
  rw[sgs_of]at hz
  have hz:vs.length<=900:=by simpa[ivs]using hz
  refine put_q R g hl λA B el K9=>?_
  rw[el]at N ND
  rw[iv_lit]
  have scs':scs ρ.n (vs.set c v):=λx hx=>by
   rcases List.mem_or_eq_of_mem_set hx with q|q
   .exact sc.1 (.it x) (by
     exact ofV_mem q)
   .rw[q];exact hv
  have e0:io w ρ (.list (ofV vs) m)=listOf (ivs ρ vs).toArray (ρ.num m):=by show listOf _ _=_;rw[sgs_of]
  have e1:io w (ρ.push 0 default) (.list (ofV (setN vs c v)) m)=listOf (ivs ρ (vs.set c v)).toArray (ρ.num m):=by
   show listOf _ _=_
   rw[sgs_of,setN_eq,push_pre.ivs scs',push_pre.num sc.2]
  rw[e0]at N ND
  refine ki_set (s:=Γ.sh h tk) (its:=(ivs ρ vs).toArray) F N (Int.natCast_nonneg _) (by omega) (setL_set hy) (Upd.of_nd ND updS_mid) λh' F' N'=>?_
  refine elEAAA (λσ' x R' g' e=>?_)<|K9 0 default ⟨ofV_sc (by rw[setN_eq];exact scs'.up push_pre.le),Nat.lt_of_lt_of_le sc.2 push_pre.le⟩ trivial h' m0 F' cv (by rw[e1];exact N')
  exact hq _ σ' h' _ x R' g' e
 .rename_i oi kvs
  replace g:=str_e g
  refine elEEA (λj t r132 g133=>?_) g;revert g133;clear g;intro g;subst r132
  replace g:=cd_e g
  obtain⟨hz,g⟩:=g
  have hz:kvs.length<=900:=by rw[←len_eq];exact Nat.le_of_ble_eq_true hz
  refine elEAA (λl d hlen hv2=>?_)<|ok.1
  refine put_q R g hl λA B el K9=>?_
  rw[el]at N ND
  refine kda_set (s:=Γ.sh h tk) (knd:=PySem.strKind _ _) F N (UpdF.of_nd ND updF_mid) d (strKind_is _ _ (nm j) _) (fits_line (by omega)) λh' o' F' N' D=>?_
  have scv:∀p∈stor kvs j v,p.2.sc ρ.n:=λp hp=>(stor_mem hp).elim (λe=>by rw[e];exact hv) (sc.1 p)
  have e1:(stored l (nm j) (iv ρ v)).length<=(stor kvs j v).length:=by
   rw[stored_len,stor_len,hv2]
   cases lk kvs j<;>simp[hlen]
  have e2:∀i,valueAt (stored l (nm j) (iv ρ v)) (nm i)=(lk (stor kvs j v) i).map (iv (ρ.push 0 o')):=λi=>by
   rw[stored_eq,nm_iff,hv2,stor_lk,bi_map]
   congr 1
   .exact congrArg some (push_pre.iv hv).symm
   .cases q:lk kvs i
    .rfl
    .exact congrArg some (push_pre.iv (sc.1 _ (lk_mem q))).symm
  refine elEAAA (λσ' x R' g' e=>?_)<|K9 0 o' ⟨λp hp=>(scv p hp).up push_pre.le,by rw[push_n];exact Nat.lt_succ_self _⟩ ⟨⟨_,by rw[push_obj];exact D,e1,e2⟩,ok.2⟩ h' m0 F' cv (by
   rw[show io w (ρ.push 0 o') (.dS ρ.n (stor kvs j v))=o' from push_obj];exact N')
  exact hq _ σ' h' _ x R' g' e
 .rename_i oi kvs
  replace g:=lit_e g
  refine elEEA (λj t r134 g135=>?_) g;revert g135;clear g;intro g;subst r134
  replace g:=cd_e g
  obtain⟨hz,g⟩:=g
  have hz:kvs.length<=900:=by rw[←len_eq];exact Nat.le_of_ble_eq_true hz
  refine elEEAAAA (λ_ _ _ _ _ _ nd=>?_)<|id ok.1
  rw[iv_lit]
  refine put_q R g hl λA B el K9=>?_
  rw[el]at N ND
  refine kda_set (s:=Γ.sh h tk) (knd:=PySem.intKind _ _) F N (UpdF.of_nd ND updF_mid) ok.1 (intKind_is _ _ (j:Int) _) (fits_line (by rw[List.length_map];omega)) λh' o' F' N' D=>?_
  have scv:∀p∈stor kvs j v,p.2.sc ρ.n:=λp hp=>(stor_mem hp).elim (λe=>by rw[e];exact hv) (sc.1 p)
  have e2:((ρ.push 0 o').obj ρ.n).IsDictOf (PySem.intKind prog w) ((stor kvs j v).map λp=>((p.1:Int),iv (ρ.push 0 o') p.2)):=by
   rw[push_obj,show List.map (λp=>((p.1:Int),iv (ρ.push 0 o') p.2)) (stor kvs j v)=List.map (λp=>((p.1:Int),iv ρ p.2)) (stor kvs j v)from List.map_congr_left λp hp=>congrArg (Prod.mk _) (push_pre.iv (scv p hp)),←stored_I kvs (nodup_I (ρ:=ρ) nd)]
   exact D
  refine elEAAA (λσ' x R' g' e=>?_)<|K9 0 o' ⟨λp hp=>(scv p hp).up push_pre.le,by rw[push_n];exact Nat.lt_succ_self _⟩ ⟨e2,ok.2⟩ h' m0 F' cv (by
   rw[show io w (ρ.push 0 o') (.dI ρ.n (stor kvs j v))=o' from push_obj];exact N')
  exact hq _ σ' h' _ x R' g' e
 .rename_i oi b sd ops kn
  replace g:=lit_e g
  refine elEEA (λj t r136 g137=>?_) g;revert g137;clear g;intro g;subst r136
  replace g:=cd_e g
  obtain⟨hz,g⟩:=g
  have hz:ops.length<=5:=by rw[←len_eq];exact Nat.le_of_ble_eq_true hz
  have hz2:=tab_len (b:=b) (sd:=sd) R.toOk (ops:=ops)
  rw[iv_lit]
  refine put_q R g hl λA B el K9=>?_
  rw[el]at N ND
  refine kda_set (s:=Γ.sh h tk) (knd:=PySem.intKind _ _) F N (UpdF.of_nd ND updF_mid) ok.1 (intKind_is _ _ (j:Int) _) (fits_line (by omega)) λh' o' F' N' D=>?_
  have scv:∀p∈(j,v)::ops,p.2.sc ρ.n:=λp hp=>(List.mem_cons.mp hp).elim (λe=>by rw[e];exact hv) (sc.1 p)
  have hk:∀p∈kn,valueAt (bsT (ρ.push 0 o') b sd) (p.1:Int)=p.2.map (iv (ρ.push 0 o')):=λp hp=>by
   show valueAt (bsT ρ b sd) _=_
   rw[ok.2.1 p hp]
   obtain⟨i,x⟩:=p
   cases x
   .rfl
   .exact congrArg some (push_pre.iv (sc.2.1 _ hp _ rfl)).symm
  refine elEAAA (λσ' x R' g' e=>?_)<|K9 0 o' ⟨λp hp=>(scv p hp).up push_pre.le,λp hp u hu=>(sc.2.1 p hp u hu).up push_pre.le,by rw[push_n];exact Nat.lt_succ_self _⟩ ⟨by rw[push_obj,push_pre.tab scv];exact D,hk,ok.2.2⟩ h' m0 F' cv (by
   rw[show io w (ρ.push 0 o') (.dT ρ.n b sd ((j,v)::ops) kn)=o' from push_obj];exact N')
  exact hq _ σ' h' _ x R' g' e
end
end Mine.Q
namespace Mine.Q
section
variable{prog:Program}{w:World}{Γ:Fx prog w}{ρ ρ':Rho}{σ:S}{h h':Heap}{tk n d:Nat}{o:O}{v:V}{k:KV}{E:Value->Shared->Prop}
theorem any_entry{i:Nat}:∀(es:List (Nat×Nat×V)),(es.map (entry w ρ)).any (λe=>e.key.isStr (nm i))=(lk es i).isSome
 |[]=>rfl
 |e::r=>by
  rw[List.map_cons,List.any_cons,lk_cons,any_entry r]
  show((Value.str (nm e.1) (ρ.num e.2.1)).isStr (nm i)||_)=_
  rw[isStr_nm,beq_comm']
  cases Nat.beq i e.1<;>rfl
theorem putL_entry{i:Nat}{x:V}{hs:Int}{kk:Value}:∀(es:List (Nat×Nat×V)),(lk es i).isSome=true->putL (nm i) hs kk (iv ρ x) (es.map (entry w ρ))=(repl i x es).map (entry w ρ)
 |[],h=>nomatch h
 |e::r,h=>by
  rw[lk_cons]at h
  show(if((Value.str (nm e.1) (ρ.num e.2.1)).isStr (nm i))=true then _ else _)=(bi (Nat.beq i e.1) ((e.1,e.2.1,x)::r) (e::repl i x r)).map _
  rw[isStr_nm,beq_comm']
  rcases q:Nat.beq i e.1 with _|_
  .rw[q]at h
   simp only[Bool.false_eq_true,if_false]
   exact congrArg (entry w ρ e::·) (putL_entry r h)
  .rfl
theorem putL_new{i:Nat}{x:V}{t t':Nat}(et:ρ.num t'=t):∀(es:List (Nat×Nat×V)),lk es i=none->putL (nm i) (PyData.keyHash w.params (nm i)) (.str (nm i) t) (iv ρ x) (es.map (entry w ρ))=(es++[(i,t',x)]).map (entry w ρ)
 |[],_=>by subst et;rfl
 |e::r,h=>by
  rw[lk_cons]at h
  show(if((Value.str (nm e.1) (ρ.num e.2.1)).isStr (nm i))=true then _ else _)=_
  rw[isStr_nm,beq_comm']
  rcases q:Nat.beq i e.1 with _|_
  .rw[q]at h
   simp only[Bool.false_eq_true,if_false,List.cons_append,List.map_cons]
   exact congrArg _ (putL_new et r h)
  .rw[q]at h;cases h
theorem repl_mem{i:Nat}{x:V}:∀{es:List (Nat×Nat×V)} {e:Nat×Nat×V},e∈repl i x es->(∃e'∈es,e.2.1=e'.2.1/\e.2.2=x)\/e∈es
 |[],_,h=>nomatch h
 |q::r,e,h=>by
  have h:e∈bi (Nat.beq i q.1) ((q.1,q.2.1,x)::r) (q::repl i x r):=h
  rcases b:Nat.beq i q.1 with _|_
  .rw[b]at h
   rcases List.mem_cons.mp (show e∈q::repl i x r from h)with h|h
   .exact .inr (h▸.head _)
   .rcases repl_mem h with⟨e',he,a⟩|h
    .exact .inl ⟨e',.tail _ he,a⟩
    .exact .inr (.tail _ h)
  .rw[b]at h
   rcases List.mem_cons.mp (show e∈(q.1,q.2.1,x)::r from h)with rfl|h
   .exact .inl ⟨q,.head _,rfl,rfl⟩
   .exact .inr (.tail _ h)
theorem repl_len{i:Nat}{x:V}:∀(es:List (Nat×Nat×V)),(repl i x es).length=es.length
 |[]=>rfl
 |q::r=>by
  show(bi (Nat.beq i q.1) ((q.1,q.2.1,x)::r) (q::repl i x r)).length=_
  cases Nat.beq i q.1
  .exact congrArg (·+1) (repl_len r)
  .rfl
theorem entry_pre(x:Pre ρ ρ'){es:List (Nat×Nat×V)}(hs:∀e∈es,e.2.1<ρ.n/\e.2.2.sc ρ.n):es.map (entry w ρ')=es.map (entry w ρ):=
 List.map_congr_left λe he=>by unfold entry;rw[x.num (hs e he).1,x.iv (hs e he).2]
theorem set_core{i C d m:Nat}{y:V}{es es':List (Nat×Nat×V)}{f:Nat->O}{K:S->Bool}{c:Nat}{Q:Unit->Shared->Prop}(R:Rl Γ ρ σ h)(hp:lk σ.hp n=some (.inst C d))(hd:lk σ.hp d=some (.attrs es m)){r:ClsRow}(hr:lk clT C=some r)(hi:mem i r.attrs=true)
 (g:putK σ d f K=true)(e1:(putL (nm i) (PyData.keyHash w.params (nm i)) (.str (nm i) (tk+1)) (iv ρ y) (es.map (entry w ρ)),putN (nm i) (es.map (entry w ρ)) (ρ.num m))=(es'.map (entry w ρ),c))(hl:es'.length<=1000)(hs:∀e∈es',e.2.1<ρ.n/\e.2.2.sc ρ.n)
 (ef:∀x,x=c->io w (ρ.push x default) (f ρ.n)=dictOf ((es'.map (entry w (ρ.push x default)))) c/\(f ρ.n).sc (ρ.push x default).n/\okO prog w (ρ.push x default) (ρ.num d) (f ρ.n))
 (hq:∀ρ' σ' h' tk',Γ.Ext ρ ρ'->Rl Γ ρ' σ' h'->K σ'=true->σ'.vs=σ.vs->Q () (Γ.sh h' tk')):Γ.wp (setAttr (.ref (ρ.num n)) (nm i) (iv ρ y)) Q E h tk:=by
 refine elEA (λm0 F cv=>?_)<|R.fr
 have CO:=cls_ok (w:=w) hr
 obtain⟨-,ht⟩:=CO.at_ i (mem_eq.mp hi)
 have hg:(getL (nm i) (es.map (entry w ρ))).isSome=true:=by rw[getL_entry];rfl
 refine put_q R g hd λA B el K9=>?_
 have N:=R.nw
 have ND:=R.nd
 refine elAA (λf1 f2 f3=>?_)<|ef c rfl
 rw[entry_pre push_pre hs]at f1
 refine set_dict (s:=Γ.sh h tk) F R.kn R.nw (R.inst hp hd) rfl CO.sa CO.po ht CO.hd hg e1 (by rw[el]at ND⊢;exact Upd.of_nd ND updS_mid) (by simpa using hl) λh' F' N'=>?_
 refine elEAAA (λσ' x R' g' e=>?_)<|K9 c default f2 f3 h' m0 F' cv (by rw[f1];exact N')
 exact hq _ σ' h' _ x R' g' e
theorem gSet_ok{i:Nat}{v y:V}{K:S->Bool}{Q:Unit->Shared->Prop}(R:Rl Γ ρ σ h)(hy:y.sc ρ.n)(g:gSet v i y σ K=true)
 (hq:∀ρ' σ' h' tk',Γ.Ext ρ ρ'->Rl Γ ρ' σ' h'->K σ'=true->σ'.vs=σ.vs->Q () (Γ.sh h' tk')):Γ.wp (setAttr (iv ρ v) (nm i) (iv ρ y)) Q E h tk:=by
 replace g:=drf_e g ρ
 refine elEEAAA (λn o r138 z139 hp g140=>?_) g;revert g140;clear g;intro g;subst r138;clear z139
 cases o<;>first|exact ff g|skip
 rename_i C d
 replace g:=oe_e (o:=lk clT C) g
 refine elEA (λr hr g141=>?_) g;revert g141;clear g;intro g
 replace g:=cd_e g
 obtain⟨hi,g⟩:=g
 replace g:=at_e g
 refine elEA (λo' hd g142=>?_) g;revert g142;clear g;intro g
 cases o'<;>first|exact ff g|skip
 rename_i es m
 replace g:=cd_e g
 obtain⟨hz,g⟩:=g
 have hz:es.length<=900:=by rw[←len_eq];exact Nat.le_of_ble_eq_true hz
 have sc:=(R.sco hd).2
 rcases hx:lk es i with _|x
 .rw[hx]at g
  have g:tokK σ (λt σ=>putK σ d (λc=>.attrs (app es [(i,t,y)]) c) K)=true:=g
  refine tok_ok R g (tk+1) default λσ1 x1 lt R1 e1 e2 g=>?_
  have hp1:lk σ1.hp n=some (.inst C d):=by rw[e1];exact hp
  have hd1:lk σ1.hp d=some (.attrs es m):=by rw[e1];exact hd
  have sc1:=(R1.sco hd1).2
  have hn:=(R.sco hp).1
  rw[show iv ρ (.ref n)=.ref ((ρ.push (tk+1) default).num n)from congrArg Value.ref (push_pre.num hn).symm,←(push_pre (x:=tk+1) (ob:=default)).iv hy]
  have hs:∀e∈es++[(i,ρ.n,y)],e.2.1<(ρ.push (tk+1) default).n/\e.2.2.sc (ρ.push (tk+1) default).n:=λe he=>by
   rcases List.mem_append.mp he with he|he
   .exact sc1.1 e he
   .rw[List.mem_singleton]at he;subst he;exact⟨lt,hy.up push_pre.le⟩
  refine set_core (es':=es++[(i,ρ.n,y)]) (c:=(ρ.push (tk+1) default).num m+1) R1 hp1 hd1 hr hi g (by rw[putL_new (t':=ρ.n) push_num es hx,putN,any_entry,hx];rfl) (by simp;omega) hs (λx hx=>mkAA ?_ ⟨λe he=>?_,push_lt⟩ trivial) λρ' σ' h' tk' x R' g' e=>hq ρ' σ' h' tk' (x1.trans x) R' g' (e.trans e2)
  .show dictOf ((app es [(i,ρ.n,y)]).map _) ((Rho.push _ _ _).num _)=_
   rw[app_eq,push_num,hx]
  .rw[app_eq]at he
   exact⟨Nat.lt_of_lt_of_le (hs e he).1 push_pre.le,(hs e he).2.up push_pre.le⟩
 .rw[hx]at g
  have g:putK σ d (λ_=>.attrs (repl i y es) m) K=true:=g
  have hs:∀e∈repl i y es,e.2.1<ρ.n/\e.2.2.sc ρ.n:=λe he=>by
   rcases repl_mem he with⟨e',h1,h2,h3⟩|h1
   .rw[h2,h3];exact⟨(sc.1 e' h1).1,hy⟩
   .exact sc.1 e h1
  refine set_core (es':=repl i y es) (c:=ρ.num m) R hp hd hr hi g (by rw[putL_entry es (by rw[hx];rfl),putN,any_entry,hx];rfl) (by rw[repl_len];omega) hs (λx hx=>mkAA ?_ ⟨λe he=>⟨Nat.lt_of_lt_of_le (hs e he).1 push_pre.le,(hs e he).2.up push_pre.le⟩,Nat.lt_of_lt_of_le sc.2 push_pre.le⟩ trivial) hq
  show dictOf _ _=_
  rw[push_pre.num sc.2]
theorem exc_ok{C:Nat}(h:C=51\/C=70):ExcOk w C:=by
 rcases h with rfl|rfl
 .exact exc51
 .exact exc70
theorem nm_code:nm (nat_lit 2)="code":=by decide+kernel
theorem gAttr_ok{i:Nat}{v:V}{Q:Value->Shared->Prop}{b:Bool}(R:Rl Γ ρ σ h)(g:gAttr i v σ k=true)
 (hq:KQ Γ ρ k Q):Γ.wp (getAttr (iv ρ v) (nm i) b) Q E h tk:=by
 replace g:=drf_e g ρ
 refine elEEAAA (λn o r143 z144 hp g145=>?_) g;revert g145;clear g;intro g;subst r143;clear z144
 cases o<;>first|exact ff g|skip
 .rename_i C d
  replace g:=oe_e (o:=lk clT C) g
  refine elEA (λr hr g146=>?_) g;revert g146;clear g;intro g
  replace g:=cd_e g
  obtain⟨hi,g⟩:=g
  replace g:=at_e g
  refine elEA (λo' hd g147=>?_) g;revert g147;clear g;intro g
  cases o'<;>first|exact ff g|skip
  rename_i es m
  replace g:=oe_e (o:=lk es i) g
  refine elEA (λe he g148=>?_) g;revert g148;clear g;intro g
  exact gAttr_i R hp hr hi hd he λsc tk'=>hq e.2 ρ σ h tk' .refl sc R g
 .rename_i o d
  replace g:=cd_e g
  obtain⟨hi,g⟩:=g
  have:=Nat.eq_of_beq_eq_true hi
  subst this
  replace g:=at_e g
  refine elEA (λo' hd g149=>?_) g;revert g149;clear g;intro g
  cases o'<;>first|exact ff g|skip
  rename_i o2 c t
  refine elEEEEA (λC a0 tb vs2 e1 hC=>?_)<|R.oko hp
  refine elEEA (λes nn e2 hc=>?_)<|R.oko hd
  have X:=exc_ok (w:=w) hC
  refine elEA (λcd hcl hdict=>?_)<|X.cd
  refine elEA (λm0 F z150=>?_)<|R.fr;clear z150
  have m1:=R.mem hp
  have m2:=R.mem hd
  rw[show io w ρ (.flt o d)=excO C (ρ.num d) a0 tb vs2 from e1]at m1
  rw[show io w ρ (.fld o2 c t)=dictOf es nn from e2]at m2
  rw[nm_code]
  refine exc_code (s:=Γ.sh h tk) F R.kn R.nw m1 m2 hc hcl hdict X.code X.mro X.ga X.gt ?_
  have:=hq (.int [] c t) ρ σ h (tk+1) .refl (R.sco hd).2.2 R g
  rw[iv_lit]at this
  exact this
end
end Mine.Q
namespace Mine.Q
theorem ki_ls{w:World}:kitOne (hd.heap_39 w.params) (.type "list") (.type "str")=some false:=by rfl
theorem ki_tt{w:World}:kitOne (hd.heap_39 w.params) (.type "tuple") (.type "tuple")=some true:=by rfl
theorem ki_di{w:World}:kitOne (hd.heap_39 w.params) (.type "dict") (.type "int")=some false:=by rfl
noncomputable def bval(b:Bf):Value:=Bf.rec (motive:=λ_=>Value) (.builtin "len") .none .none .none (.type "str") (.builtin "sum") (.builtin "sorted") (.type "list") b
noncomputable def btyp(b:Bf):String:=Bf.rec (motive:=λ_=>String) "" "str" "tuple" "int" "" "" "" "" b
section
variable{prog:Program}{w:World}{Γ:Fx prog w}{ρ ρ':Rho}{σ:S}{h h':Heap}{tk n d:Nat}{o:O}{v:V}{k:KV}{E:Value->Shared->Prop}
theorem ints_ok{ws:List Value}{zs:List Int}(hi:IntsAre ws zs):∀{ns:List Nat} {ρ:Rho} {σ:S} {k:List V->S->Bool},zs=ns.map (λn:Nat=>(n:Int))->Rl Γ ρ σ h->intsK ns σ k=true->
 ∃ρ' σ' vs,Γ.Ext ρ ρ'/\ρ'.g=ρ.g/\Rl Γ ρ' σ' h/\σ'.hp=σ.hp/\σ'.vs=σ.vs/\ivs ρ' vs=ws/\scs ρ'.n vs/\k vs σ'=true:=by
 induction hi with
 |nil=>
  intro ns ρ σ k e R g
  cases ns<;>first|cases e|skip
  exact⟨ρ,σ,[],.refl,rfl,R,rfl,rfl,rfl,(λ_ h=>nomatch h),g⟩
 |cons z t hr ih=>
  intro ns ρ σ k e R g
  rcases ns with _|⟨n,ns⟩
  .cases e
  .obtain⟨e1,e2⟩:=List.cons.inj e
   subst e1
   have g:tokK σ (λt σ=>intsK ns σ λvs σ=>k (.int [] (Int.ofNat n) t::vs) σ)=true:=g
   refine tok_ok R g t default λσ1 x1 lt R1 h1 h2 g=>?_
   refine elEEE (λρ' σ' vs q151=>?_)<|ih e2 R1 g;refine elAAAAAAA (λx eg R' a b c d g'=>?_) q151;clear q151
   refine⟨ρ',σ',_,x1.trans x,eg,R',a.trans h1,b.trans h2,?_,λv hv=>?_,g'⟩
   .show iv ρ' _::ivs ρ' vs=_
    rw[c,iv_lit,x.1.num lt,push_num];rfl
   .rcases List.mem_cons.mp hv with rfl|hv
    .exact Nat.lt_of_lt_of_le lt x.1.le
    .exact d v hv
theorem prm_e{kvs:List (Nat×V)}{k:List Nat->Bool}(g:prmK kvs k=true){zs:List Int}(hp:zs.Perm ((kvs.map λp=>((p.1:Int),iv ρ p.2)).map (·.1))):∃ns:List Nat,zs=ns.map (λn:Nat=>(n:Int))/\k ns=true:=by
 rcases kvs with _|⟨p,r⟩
 .exact⟨[],List.perm_nil.mp hp,g⟩
 .rcases r with _|⟨q,r⟩
  .exact⟨[p.1],List.perm_singleton.mp hp,g⟩
  .rcases r with _|⟨_,_⟩
   .obtain⟨g1,g2⟩:=bi_t (b:=k [p.1,q.1]) (p:=k [q.1,p.1]) g
    have hp:zs.Perm [(p.1:Int),(q.1:Int)]:=hp
    have hl:=hp.length_eq
    match zs,hl with
    |[a,b],_=>
     have ha:a∈[(p.1:Int),(q.1:Int)]:=hp.mem_iff.mp (.head _)
     rcases List.mem_cons.mp ha with rfl|ha
     .have:=List.perm_singleton.mp (List.Perm.cons_inv hp)
      exact⟨[p.1,q.1],by rw[this];rfl,g1⟩
     .rw[List.mem_singleton]at ha
      subst ha
      have:=List.perm_singleton.mp (List.Perm.cons_inv (hp.trans (.swap ..)))
      exact⟨[q.1,p.1],by rw[this];rfl,g2⟩
   .exact ff g
theorem sum_e:∀{vs:List V} {k:Nat->Bool},sumV vs k=true->∃n:Nat,k n=true/\∃zs:List Int,IntsAre (ivs ρ vs) zs/\zs.sum=n:=by
 intro vs
 induction vs with
 |nil=>exact λg=>⟨0,g,[],.nil,rfl⟩
 |cons v r ih=>
  intro k g
  replace g:=lit_e (v:=v) (k:=λn=>sumV r λm=>k (Nat.add n m)) g
  refine elEEA (λn t r152 g153=>?_) g;revert g153;clear g;intro g;subst r152
  replace g:=ih g
  refine elEAEA (λm g154 zs hi e=>?_) g;revert g154;clear g;intro g
  refine⟨Nat.add n m,g,(n:Int)::zs,?_,?_⟩
  .show IntsAre (iv ρ (.int [] n t)::ivs ρ r) _
   rw[iv_lit];exact .cons _ _ hi
  .rw[List.sum_cons,e];exact(Int.natCast_add n m).symm
theorem lg_same(x:Pre ρ ρ'){σ':S}(R:Rl Γ ρ σ h)(e:σ'.hp=σ.hp):Γ.lg ρ' σ'=Γ.lg ρ σ:=by
 show led w ρ' σ'.hp++_=led w ρ σ.hp++_
 rw[e,x.led R.so]
theorem str_dig:∀n:Nat,n<10->(Str.ofString (toString (n:Int))).cps.toList=[Nat.add 48 n]:=by decide+kernel
theorem gBlt_ok(nh:Γ.hc=false){b:Bf}{vs:List V}{Q:Value->Shared->Prop}(hb:btyp b="")(R:Rl Γ ρ σ h)(g:gBlt b vs σ k=true)(hq:KQ Γ ρ k Q):Γ.wp (call (bval b) (ivs ρ vs)) Q E h tk:=by
 replace g:=one_e g
 refine elEA (λv r155 g156=>?_) g;revert g156;clear g;intro g;subst r155
 refine elEA (λm0 F cv=>?_)<|R.fr
 cases b<;>first|(exact absurd hb (by decide+kernel))|skip
 .cases v<;>first|exact ff g|skip
  .rename_i i t
   replace g:=cps_e g
   refine elEAAA (λx hx g157 l1 z158=>?_) g;revert g157;clear g;intro g;clear z158
   refine P.len_str (by omega) ?_
   have:=nat_ok R g hq (tk+1) (tk+1+1)
   rwa[len_eq,←hx,show(nm i).cps.toList.length=(nm i).length from Array.length_toList]at this
  .rename_i n
   replace g:=at_e g
   refine elEA (λo hl g159=>?_) g;revert g159;clear g;intro g
   cases o<;>first|exact ff g|skip
   rename_i ss m
   replace g:=sz9 g R.ll
   obtain⟨hz,g⟩:=g
   replace g:=len_e g
   refine elEEA (λas c g160 e=>?_) g;revert g160;clear g;intro g
   refine led_len (vs:=sgs ρ ss) R.nw (R.mem hl) (by omega) ?_
   rw[e ρ]
   exact intN_ok R g hq _ _
 .replace g:=lit_e g
  refine elEEA (λn t r161 g162=>?_) g;revert g162;clear g;intro g;subst r161
  replace g:=cd_e g
  obtain⟨hn,g⟩:=g
  have hn:n<=9:=Nat.le_of_ble_eq_true hn
  show Γ.wp (call _ [iv ρ _]) Q E h tk
  rw[iv_lit]
  refine P.str_of_int ?_ (mkS_ok R g (str_dig n (by omega)) hq _ _)
  have:((n:Int).natAbs)<10:=by omega
  exact Nat.lt_of_le_of_lt (Nat.log2_le_self _) (by omega)
 .replace g:=drf_e g ρ
  refine elEEAAA (λn o r163 z164 hl g165=>?_) g;revert g165;clear g;intro g;subst r163;clear z164
  cases o<;>first|exact ff g|skip
  rename_i ss m
  replace g:=sz9 g R.ll
  obtain⟨hz,g⟩:=g
  replace g:=its_e g
  refine elEA (λvs r166 g167=>?_) g;revert g167;clear g;intro g;subst r166
  replace g:=sum_e (ρ:=ρ) g
  refine elEAEA (λz g168 zs hi e=>?_) g;revert g168;clear g;intro g
  refine LSm.sum_ints (vs:=ivs ρ vs) F R.nw (Γ.hd nh) (by have:=R.isList hl;rwa[sgs_of]at this) hi λh' tk' t' F' N'=>?_
  rw[e]
  have R':Rl Γ ρ σ h':=⟨R.toOk,R.toGd,⟨m0,F',cv⟩,N',R.nd⟩
  exact nat_ok R' g hq _ _
 .replace g:=drf_e g ρ
  refine elEEAAA (λn o r169 z170 hl g171=>?_) g;revert g171;clear g;intro g;subst r169;clear z170
  cases o<;>first|exact ff g|skip
  rename_i oi kvs
  have ok:=R.oko hl
  have hk:(kvs.map λp=>((p.1:Int),iv ρ p.2)).length<=60:=by
   rw[List.length_map]
   rcases kvs with _|⟨p,r⟩
   .exact Nat.zero_le _
   .rcases r with _|⟨q,r⟩
    .exact Nat.le_of_ble_eq_true rfl
    .rcases r with _|⟨_,_⟩
     .exact Nat.le_of_ble_eq_true rfl
     .exact ff g
  refine led_sorted (s:=Γ.sh h tk) (Γ.hd nh) F R.nw (R.mem hl) ok.1 ok.2 hk λB ws zs c h' tk' F' N' lt hi hp=>?_
  replace g:=prm_e (ρ:=ρ) g hp
  refine elEA (λns e g172=>?_) g;revert g172;clear g;intro g
  replace g:=ints_ok hi e R g
  refine elEEE (λρ' σ' vs q174=>?_) g;refine elAAAAAAA (λx eg R' eh ev ew sc g173=>?_) q174;clear q174;revert g173;clear g;intro g
  have el:=lg_same x.1 R eh
  exact newL_ok (ss:=ofV vs) (ws:=ws) (c:=c) (a:=B) (m:=m0) R' g (hq.up x) (ofV_sc sc) (by rw[sgs_of];exact ew) (by rw[eg];exact F') (Γ.cx _ _ _ _ _ x.1 R.sv ev cv) (by rw[eg,el];exact N') (by rw[el];exact lt)
 .replace g:=drf_e g ρ
  refine elEEAAA (λn o r175 z176 hl g177=>?_) g;revert g177;clear g;intro g;subst r175;clear z176
  cases o<;>first|exact ff g|skip
  rename_i ss m
  replace g:=sz9 g R.ll
  obtain⟨hz,g⟩:=g
  refine list_copyK F R.nw (R.isList hl) (λD c h' F' N' lt=>?_) (fits_line (by simp;omega))
  exact newL_ok R g hq (R.sco hl).2.1 rfl F' cv N' lt
theorem kin(R:Rl Γ ρ σ h):(KF w).In h:=by
 refine elEA (λm F z178=>?_)<|R.fr;clear z178
 exact R.kn.keeps F.keep
theorem gIsi_ok{b:Bf}{v:V}{Q:Value->Shared->Prop}(hb:btyp b≠"")(R:Rl Γ ρ σ h)(g:gBlt b [v] σ k=true)(hq:KQ Γ ρ k Q):Γ.wp (call (.builtin "isinstance") [iv ρ v,.type (btyp b)]) Q E h tk:=by
 cases b<;>first|exact absurd rfl hb|skip
 .cases v<;>first|exact ff g|skip
  .exact IsiPair.str_str (hq (.boo true) ρ σ h tk .refl trivial R g)
  .replace g:=at_e g
   refine elEA (λo hl g179=>?_) g;revert g179;clear g;intro g
   cases o<;>first|exact ff g|skip
   exact kia_one kitx_list (kin R) (kitAt_N R.nw (R.mem hl) rfl) ki_ls nofun λtk'=>hq (.boo false) ρ σ h tk' .refl trivial R g
 .cases v<;>first|exact ff g|skip
  .exact IsiPair.int_tuple (hq (.boo false) ρ σ h _ .refl trivial R g)
  .exact IsiPair.str_tuple (hq (.boo false) ρ σ h _ .refl trivial R g)
  .replace g:=at_e g
   refine elEA (λo hl g180=>?_) g;revert g180;clear g;intro g
   cases o<;>first|exact ff g|skip
   exact kia_one kitx_tuple (kin R) (kitAt_N R.nw (R.mem hl) rfl) ki_tt nofun λtk'=>hq (.boo true) ρ σ h tk' .refl trivial R g
 .cases v<;>first|exact ff g|skip
  .exact IsiPair.int_int (hq (.boo true) ρ σ h tk .refl trivial R g)
  .replace g:=at_e g
   refine elEA (λo hl g181=>?_) g;revert g181;clear g;intro g
   have ok:=R.oko hl
   cases o<;>first|exact ff g|skip
   obtain⟨⟨l,⟨_,_,ex,_⟩,-,-⟩,-⟩:=ok
   exact kia_one kitx_dict (kin R) (kitAt_N R.nw (R.mem hl) ex.1) ki_di nofun λtk'=>hq (.boo false) ρ σ h tk' .refl trivial R g
end
end Mine.Q
namespace Mine
section
variable{prog:Program}{w:World}{K:Frag}{D D':Nat}{g:Heap}{outer:List Env}{p:Program}{loose:List Str}{mean:ExcName->Option Value}{mg mb:Str->Option Value}{s:Shared}{l news rest:Lg}
 {E:Value->Shared->Prop}{L:Addr}{m:Str->Option Value}{env:Env}{f:Value}{vs:List Value}{Q:Value->Shared->Prop}{P:Value->Lg->Prop}{X:Addr->Int->Lg->Prop}
theorem use_codeQ{R:Result->Shared->Prop}{A A0:Around}{base:Heap}(S:Spec K prog w D' f vs l P X)(hA:A.frames=some (env::outer))(hh:A.handled=none)(hD:A.depth<=D')(hU:A.units<=10*D')(hf:env.frame=some L)(hk:env.scope.kind=.function)
 (B:Below A0 base outer g)(F:Fr g L s.heap m)(X₀:K.In g)(T:Top p loose mean mg mb g)(N:News g L s.heap news)(ND:(ads news).Nodup)
 (rest rx:Lg)(hrx:List.Sublist rx rest)(hl:Sel l news rest)(hnf:∀C c l',X C c l'->∀q∈rx,∀vs,q.2.data≠.fields vs)
 (hex:∀e C c l' h' tk,X C c l'->XIn g L m env outer h' e C c (l'++rx)->(∀q∈rest,q.1∉ads rx->Kept g L h' e C (l'++rx) q)->R (.error (.ref e)) {s with heap:=h',toks:=tk})
 (hok:∀v l' h' tk,P v l'->Fr g L h' m->News g L h' (l'++rest)->(ads (l'++rest)).Nodup->R (.ok (.ret v)) {s with heap:=h',toks:=tk}):
 codeAny (model prog w) A (.call f ⟨vs,[]⟩) R s:=by
 refine elAA (λndl ndr dis=>?_)<|hl.nd ND
 have BF:g.FunFrames e0 outer:=frames_e0 B.frames
 have nm:∀b o,g.get? b=some o->b∉l.map (·.1):=λb o e q=>by
  refine elEA (λp hp r182=>?_)<|List.mem_map.mp q;subst r182
  rw[(N p (hl.l_mem hp)).2.2]at e;cases e
 have st:g.StaysIn (hideAll s.heap (l.map (·.1))):=λb o e=>hideAll_get _ (F.keep b o e) (nm b o e)
 refine elEEEAA (λoL es ep hL hLd hLr=>?_)<|F.ns
 have nL:L∉l.map (·.1):=λq=>by
  refine elEA (λp hp e=>?_)<|List.mem_map.mp q
  exact(N p (hl.l_mem hp)).2.1 e
 have hLg:=hideAll_get (l.map (·.1)) hL nL
 have rg:∀q∈rest,(hideAll s.heap (l.map (·.1))).get? q.1=some q.2:=λq hq=>hideAll_get _ (N q (hl.r_mem hq)).1 λhm=>by
  refine elEA (λr hr' e=>?_)<|List.mem_map.mp hm
  exact dis r hr' q hq e
 have gf:(hideAll s.heap (l.map (·.1))).FunFrames e0 (env::outer):=
  ⟨by rw[hk];decide,⟨L,oL,hf,e0_none L,hLg,λvs q=>by rw[hLd]at q;cases q⟩,BF.of_keeps λb o hb _=>⟨o,st b o hb,rfl⟩⟩
 have Xc:K.In (hideAll s.heap (l.map (·.1))):=Frag.In.keeps X₀ st
 have Tc:Top p loose mean mg mb (hideAll s.heap (l.map (·.1))):=Top.keeps T st
 refine code_weaken (D:=D') (outer:=env::outer) (S (hideAll s.heap (l.map (·.1))) _ p loose mean mg mb s _ ⟨rfl,e0_stays _,gf⟩ Xc Tc
  ⟨ndl,λb o e=>of_hideAll _ e,Nat.le_of_eq (hideAll_size _ _),λq hq=>⟨(N q (hl.l_mem hq)).1,hideAll_none _ (List.mem_map_of_mem hq)⟩⟩ (λv l' h' tk hp H=>?_) λe C c l' h' tk hx H=>?_) hh hD hU hA
 .have kg:∀b o,g.get? b=some o->h'.get? b=some o:=λb o e=>H.keep b o (st b o e)
  refine hok v l' h' tk hp ⟨⟨oL,es,ep,H.keep L oL hLg,hLd,hLr⟩,kg,F.above⟩ (λq hq=>?_) (nd_app H.nd ndr λq hq r hr' e=>?_)
  .rcases List.mem_append.mp hq with hq|hq
   .obtain⟨q1,q2⟩:=H.led q hq
    refine mkAA q1 (λe=>by rw[e,hLg]at q2;cases q2) ?_
    rcases z:g.get? q.1 with _|o
    .rfl
    .rw[st _ _ z]at q2;cases q2
   .exact⟨H.keep _ _ (rg q hq),(N q (hl.r_mem hq)).2⟩
  .have:=(H.led q hq).2
   rw[e,rg r hr']at this;cases this
 .have up:∀{b},(hideAll s.heap (l.map (·.1))).get? b=none->g.get? b=none:=λ{b} q2=>by
   rcases z:g.get? b with _|o
   .rfl
   .rw[st _ _ z]at q2;cases q2
  have hfs:frs (env::outer)=L::frs outer:=frs_cons hf
  have kq:∀q∈rest,q.1∉ads rx->Kept g L h' e C (l'++rx) q:=λq hq hrq=>by
   have gn:=(N q (hl.r_mem hq)).2
   have kept:=(H.keep _ _ (rg q hq)).1 (by
    rw[hfs]
    exact λhm=>(List.mem_cons.mp hm).elim gn.1 (frames_not BF gn.2))
   refine elEEEEEEEAAAAAA (λd head a0 vs2 es' n tk' x1 x2 x3 x4 x5 x6 x7=>?_)<|H.exc
   refine mkAAAAA kept gn.2 gn.1 (λz=>(by rw[←z,rg q hq]at x5;cases x5)) (λd' a0' head' vs2' z=>?_) (λz=>?_)
   .rw[x1]at z
    injection z with z
    injection z with _ zd zf
    injection zd with zd
    injection zf with zf
    have zh:head=head':=by injection zf with zf;injection zf with _ zf;injection zf
    subst zd;subst zh
    refine⟨λy=>?_,λy=>by rw[y,rg q hq]at x6;cases x6⟩
    rcases x4 with rfl|⟨T,oT,ts,rfl,y2,y3,y4,y5,y6⟩
    .cases y
    .cases y;rw[rg q hq]at y6;cases y6
   .rw[ads,List.map_append]at z
    rcases List.mem_append.mp z with z|z
    .refine elEA (λr hr' e'=>?_)<|List.mem_map.mp z
     have:=(H.led r hr').2.1
     rw[e',rg q hq]at this;cases this
    .exact hrq z
  refine hex e C c l' h' tk hx ⟨nd_app H.nd (ndr.sublist (hrx.map _)) λq hq r hr' e=>?_,ns_slots (h:=hideAll s.heap (l.map (·.1))) ⟨oL,es,ep,hLg,hLd,hLr⟩ λo ho=>(H.keep L o ho).2,F.above,λb o hb=>?_,λq hq=>?_,?_,BF,?_⟩ kq
  .have:=(H.led q hq).2.1
   rw[e,rg r (hrx.subset hr')]at this;cases this
  .obtain⟨k1,k2⟩:=H.keep b o (st b o hb)
   refine⟨λnf=>k1 ?_,k2⟩
   rw[hfs]
   exact λhm=>(List.mem_cons.mp hm).elim (Nat.ne_of_lt (Nat.lt_of_lt_of_le (Heap.lt_size hb) F.above)) nf
  .rcases List.mem_append.mp hq with hq|hq
   .refine elAA (λq1 q2 q3=>?_)<|H.led q hq
    exact mkAAA q1 (up q2) (λe=>by rw[e,hLg]at q2;cases q2) q3
   .have gn:=(N q (hl.r_mem (hrx.subset hq))).2
    refine mkAAA ((H.keep _ _ (rg q (hrx.subset hq))).1 ?_) gn.2 gn.1 (hnf C c l' hx q hq)
    rw[hfs]
    exact λhm=>(List.mem_cons.mp hm).elim gn.1 (frames_not BF gn.2)
  .exact gf.of_keeps λb o hb _=>by
    refine elAE (λ_ sl k=>?_)<|H.keep b o hb
    exact⟨_,k,rfl⟩
  .refine elEEEEEEEAAAAAA (λd head a0 vs2 es' n tk' x1 x2 x3 x4 x5 x6 x7=>?_)<|H.exc
   refine mkEEEEEEEAAAAAA d head a0 vs2 es' n tk' x1 x2 x3 (x4.imp id λ⟨T,oT,ts,y1,y2,y3,y4,y5,y6⟩=>⟨T,oT,ts,y1,y2,y3,y4,y5,up y6⟩) (up x5) (up x6) (λhm=>?_)
   rcases List.mem_cons.mp hm with z|z
   .rw[z,hLg]at x6;cases x6
   .rw[List.map_append]at z
    rcases List.mem_append.mp z with z|z
    .exact x7 z
    .refine elEA (λr hr' e'=>?_)<|List.mem_map.mp z
     rw[←e',rg r (hrx.subset hr')]at x6;cases x6
end
end Mine
namespace Mine.Q
theorem sel_fst{l r:Lg}:Sel l (l++r) r:=by
 induction l with
 |nil=>exact .nil
 |cons a l ih=>exact .cons .head ih
noncomputable abbrev Rho.wc(ρ:Rho)(c:List (Nat×Obj)):Rho:={ρ with c:=c}
noncomputable def SpP(prog:Program)(w:World)(ρ:Rho)(k:V->Hp->Nat->Bool)(v:Value)(l':Lg):Prop:=
 ∃B vv hp' nx',vv.sc (ρ.wc (ρ.c++B)).n/\Ok prog w (ρ.wc (ρ.c++B)) ⟨hp',[],nx'⟩/\k vv hp' nx'=true/\v=iv (ρ.wc (ρ.c++B)) vv/\l'=led w (ρ.wc (ρ.c++B)) hp'
noncomputable def SpX(prog:Program)(w:World)(ρ:Rho)(x:Nat->Int->Hp->Nat->Bool)(C:Addr)(c:Int)(l':Lg):Prop:=
 ∃B hp' nx',Ok prog w (ρ.wc (ρ.c++B)) ⟨hp',[],nx'⟩/\x C c hp' nx'=true/\l'=led w (ρ.wc (ρ.c++B)) hp'
noncomputable def FOk(prog:Program)(w:World)(D:Nat)(F:Bool->Nat->List V->Hp->Nat->(V->Hp->Nat->Bool)->(Nat->Int->Hp->Nat->Bool)->Bool):Prop:=
 ∀b a vs hp nx ρ k x,F b a vs hp nx k x=true->scs ρ.n vs->Ok prog w ρ ⟨hp,[],nx⟩->Spec (KF w) prog w (dD D b) (.ref a) (ivs ρ vs) (led w ρ hp) (SpP prog w ρ k) (SpX prog w ρ x)
section
variable{prog:Program}{w:World}
noncomputable def CallOk(Γ:Fx prog w)(P:Pm):Prop:=
 ∀(A':Around) b a vs (k:KV) ρ σ h tk (Rr:Result->Shared->Prop),callK P b a vs σ k=true->Rl Γ ρ σ h->scs ρ.n vs->A'.frames=some (Γ.fenv::Γ.outer)->A'.handled=none->A'.depth<=dD Γ.D b->A'.units<=10*dD Γ.D b->
  (∀v ρ' σ' h' tk',Γ.Ext ρ ρ'->v.sc ρ'.n->Rl Γ ρ' σ' h'->k v σ'=true->Rr (.ok (.ret (iv ρ' v))) (Γ.sh h' tk'))->
  (∀e C c ρ' σ' h' tk',Γ.Ext ρ ρ'->XR Γ ρ' σ' h' e C c->P.x C c σ'=true->Rr (.error (.ref e)) (Γ.sh h' tk'))->
  codeAny (model prog w) A' (.call (.ref a) ⟨ivs ρ vs,[]⟩) Rr (Γ.sh h tk)
structure PG(lv:Bool)(P:Pm)(Γ:Fx prog w):Prop where
 D:P.D=Γ.D
 cs:P.cs=Γ.ci
 out:lv=true->Γ.outer=[]
 nh:Γ.hc=false
 all:∀(x:KX) (Γ:Fx prog w),P.D=Γ.D->(lv=true->Γ.outer=[])->CallOk Γ ⟨P.F,P.D,P.cs,x⟩
theorem PG.call{lv:Bool}{P:Pm}{Γ:Fx prog w}(h:PG lv P Γ):CallOk Γ P:=h.all P.x Γ h.D h.out
variable{lv:Bool}{Γ:Fx prog w}{P:Pm}{ρ ρ':Rho}{σ:S}{h h':Heap}{tk n d:Nat}{k:KV}{E:Value->Shared->Prop}
theorem Ok.bare(K:Ok prog w ρ σ):Ok prog w ρ ⟨σ.hp,[],σ.nx⟩:=⟨K.ln,K.ok,K.so,(λ_ h=>nomatch h),K.hx,K.ll,K.lh,K.dd⟩
theorem wc_pre{B:List (Nat×Obj)}:Pre ρ (ρ.wc (ρ.c++B)):=mkAAAA ⟨B,rfl⟩ rfl rfl rfl rfl
theorem Ok.back{hp':Hp}{nx':Nat}(x:Pre ρ ρ')(K:Ok prog w ρ σ)(K':Ok prog w ρ' ⟨hp',[],nx'⟩):Ok prog w ρ' ⟨hp',σ.vs,nx'⟩:=⟨K'.ln,K'.ok,K'.so,λp hp=>(K.sv p hp).up x.le,K'.hx,K'.ll,K'.lh,K'.dd⟩
theorem nf_ads{l r:Lg}(nd:(ads (l++r)).Nodup):∀q∈r,q.1∉ads l:=λq hq hm=>by
 refine elEA (λp hp e=>?_)<|List.mem_map.mp hm
 rw[ads,List.map_append,List.nodup_append]at nd
 exact nd.2.2 _ hm _ (List.mem_map_of_mem hq) rfl
theorem callSpec{A':Around}{b:Bool}{a:Nat}{vs:List V}{k:KV}{x:KX}{Rr:Result->Shared->Prop}(S:Spec (KF w) prog w (dD Γ.D b) (.ref a) (ivs ρ vs) (led w ρ σ.hp) (SpP prog w ρ λv hp nx=>k v ⟨hp,σ.vs,nx⟩) (SpX prog w ρ λC c hp nx=>x C c ⟨hp,σ.vs,nx⟩))
 (R:Rl Γ ρ σ h)(hA:A'.frames=some (Γ.fenv::Γ.outer))(hh:A'.handled=none)(hd:A'.depth<=dD Γ.D b)(hu:A'.units<=10*dD Γ.D b)
 (hq:∀v ρ' σ' h' tk',Γ.Ext ρ ρ'->v.sc ρ'.n->Rl Γ ρ' σ' h'->k v σ'=true->Rr (.ok (.ret (iv ρ' v))) (Γ.sh h' tk'))
 (hx:∀e C c ρ' σ' h' tk',Γ.Ext ρ ρ'->XR Γ ρ' σ' h' e C c->x C c σ'=true->Rr (.error (.ref e)) (Γ.sh h' tk')):codeAny (model prog w) A' (.call (.ref a) ⟨ivs ρ vs,[]⟩) Rr (Γ.sh h tk):=by
 refine elEA (λm0 F cv=>?_)<|R.fr
 have ndr:(ads (Γ.rest++Γ.its)).Nodup:=(sel_fst (l:=led w ρ σ.hp)).nd R.nd|>.2.1
 refine use_codeQ S hA hh hd hu Γ.lf Γ.kd R.bl F R.kn R.tp R.nw R.nd (Γ.rest++Γ.its) Γ.rest (List.sublist_append_left _ _) sel_fst (λ_ _ _ _=>Γ.nf) ?_ ?_
 .rintro e C c l' h' tk ⟨B,hp',nx',K,kx,rfl⟩ X kq
  have x:Pre ρ (ρ.wc (ρ.c++B)):=wc_pre
  exact hx e C c (ρ.wc (ρ.c++B)) ⟨hp',σ.vs,nx'⟩ h' tk (.of x rfl) ⟨R.toOk.back x K,R.toGd.up rfl,⟨m0,X,Γ.cx _ _ _ _ _ x R.sv rfl cv⟩,λq hq=>kq q (List.mem_append_right _ hq) (nf_ads ndr q hq)⟩ kx
 .rintro v l' h' tk ⟨B,vv,hp',nx',hv,K,kx,rfl,rfl⟩ F' N' ND'
  have x:Pre ρ (ρ.wc (ρ.c++B)):=wc_pre
  exact hq vv (ρ.wc (ρ.c++B)) ⟨hp',σ.vs,nx'⟩ h' tk (.of x rfl) hv ⟨R.toOk.back x K,R.toGd.up rfl,⟨m0,F',Γ.cx _ _ _ _ _ x R.sv rfl cv⟩,N',ND'⟩ kx
theorem callOk_of(hF:FOk prog w P.D P.F)(hD:P.D=Γ.D):CallOk Γ P:=by
 intro A' b a vs k ρ σ h tk Rr g R hvs hA hh hd hu hq hx
 have S:=hF b a vs σ.hp σ.nx ρ (λv hp nx=>k v ⟨hp,σ.vs,nx⟩) (λC c hp nx=>P.x C c ⟨hp,σ.vs,nx⟩) g hvs R.toOk.bare
 rw[hD]at S
 exact callSpec (x:=P.x) S R hA hh hd hu hq hx
theorem call_ok{a:Nat}{vs:List V}{Q:Value->Shared->Prop}(hP:PG lv P Γ)(R:Rl Γ ρ σ h)(hvs:scs ρ.n vs)(g:callK P false a vs σ k=true)(hq:KQ Γ ρ k Q)(hx:EX Γ P.x ρ E):Γ.wp (call (.ref a) (ivs ρ vs)) Q E h tk:=
 wpAny_call (hP.call Γ.A false a vs k ρ σ h tk _ g R hvs Γ.fr (Γ.hd hP.nh) Γ.dp Γ.un (λv ρ' σ' h' tk' a b c d=>hq v ρ' σ' h' tk' a b c d) λe C c ρ' σ' h' tk' a b d=>hx e C c ρ' σ' h' tk' a b d)
theorem gNew_ok{C:Nat}{vs:List V}{Q:Value->Shared->Prop}(hP:PG lv P Γ)(R:Rl Γ ρ σ h)(hvs:scs ρ.n vs)(g:gNew P C vs σ k=true)(hq:KQ Γ ρ k Q)(hx:EX Γ P.x ρ E):Γ.wp (call (.ref C) (ivs ρ vs)) Q E h tk:=by
 replace g:=oe_e (o:=lk clT C) g
 refine elEA (λr hr g183=>?_) g;revert g183;clear g;intro g
 have CO:=cls_ok (w:=w) hr
 refine elEA (λm0 F cv=>?_)<|R.fr
 refine call_cls F R.kn R.nw CO.makes CO.init CO.initF λx dx h' F' N' lt lx=>?_
 have g:newK σ (.attrs []) (λd σ=>refK d λd=>newK σ (λ_=>.inst C d) λx σ=>callK P true r.init (x::vs) σ λv σ=>nonK v (k x σ))=true:=g
 refine new_okX (a:=dx) (ob:=dictOf [] 0) (h':=h') R g 0 default F' cv (λq hq=>N' q (.tail _ hq)) lt ?_ ⟨(λ_ h=>nomatch h),by rw[p2_n];exact Nat.lt_succ_self _⟩ trivial λρ1 σ1 x1 sc1 R1 g e1 l1 cv1 eg1=>?_
 .show dictOf [] _=_
  rw[p2_cnt]
 have g:newK σ1 (λ_=>.inst C ρ.n) (λx σ=>callK P true r.init (x::vs) σ λv σ=>nonK v (k x σ))=true:=g
 have en:ρ1.num ρ.n=dx:=Value.ref.inj e1
 refine new_ok (a:=x) (ob:=instObj C dx) (h':=h') R1 g 0 default (by rw[eg1];exact F') cv1 (by rw[l1,eg1];exact N') (λp hp=>?_) ?_ (Nat.lt_of_lt_of_le sc1 p2_pre.le) trivial λρ2 σ2 x2 sc2 R2 g e2=>?_
 .rw[l1]at hp
  rcases List.mem_cons.mp hp with rfl|hp
  .exact lx
  .exact Nat.lt_trans (lt p hp) lx
 .show instObj C _=_
  rw[p2_pre.num sc1,en]
 have X:=x1.trans x2
 have ev:(.ref x::ivs ρ vs:List Value)=ivs ρ2 (.ref ρ1.n::vs):=by
  show _=iv _ _::ivs _ _
  rw[X.1.ivs hvs,e2]
 rw[ev]
 refine hP.call _ true r.init (.ref ρ1.n::vs) _ ρ2 σ2 h' tk _ g R2 (λv hv=>?_) Γ.fr (Γ.hd hP.nh) ?_ ?_ (λv ρ' σ' h2 tk2 x3 hv R3 kv=>?_) (λe C' c ρ' σ' h2 tk2 x3 X3 kx=>hx e C' c ρ' σ' h2 tk2 (X.trans x3) X3 kx)
 .rcases List.mem_cons.mp hv with rfl|hv
  .exact sc2
  .exact(hvs v hv).up X.1.le
 .show Γ.A.depth+_<=Γ.D+10
  exact Nat.add_le_add Γ.dp (Nat.le_of_ble_eq_true rfl)
 .show Γ.A.units+_<=10*(Γ.D+10)
  rw[Nat.mul_add]
  exact Nat.add_le_add Γ.un (Nat.le_of_ble_eq_true rfl)
 .cases v<;>first|cases kv|skip
  refine⟨rfl,?_⟩
  have:=hq (.ref ρ1.n) ρ' σ' h2 tk2 (X.trans x3) (V.sc.up sc2 x3.1.le) R3 kv
  rw[x3.1.iv sc2,e2]at this
  exact this
end
end Mine.Q
namespace Mine.Q
section
variable{prog:Program}{w:World}{lv:Bool}{Γ:Fx prog w}{P:Pm}{ρ ρ':Rho}{σ:S}{h h':Heap}{tk n d:Nat}{k:KV}{E:Value->Shared->Prop}
noncomputable def MRel(w:World)(ρ:Rho):Mt->Value->List Value->Prop
 |.fn f n,fv,first=>fv=.ref f/\first=[iv ρ (.ref n)]/\n<ρ.n/\keepIn (KF w) (.ref f)=true
 |.app n,fv,first=>fv=.builtin "list.append"/\first=[iv ρ (.ref n)]/\n<ρ.n
 |.ext n,fv,first=>fv=.builtin "list.extend"/\first=[iv ρ (.ref n)]/\n<ρ.n
 |.get n,fv,first=>fv=.builtin "dict.get"/\first=[iv ρ (.ref n)]/\n<ρ.n
 |.rst i,fv,first=>fv=.builtin "str.rstrip"/\∃t,first=[.str (nm i) t]
theorem nm_app:nm (nat_lit 78)="append":=by decide+kernel
theorem nm_ext:nm (nat_lit 79)="extend":=by decide+kernel
theorem nm_get:nm (nat_lit 80)="get":=by decide+kernel
theorem nm_rst:nm (nat_lit 81)="rstrip":=by decide+kernel
theorem gM_ok{i:Nat}{o:V}{k:Mt->Bool}{pl:Sem Bool}{Q:Value×List Value->Shared->Prop}(R:Rl Γ ρ σ h)(g:gM i o σ k=true)
 (hq:∀m fv first tk',k m=true->MRel w ρ m fv first->Q (fv,first) (Γ.sh h tk')):Γ.wp (getMethod (iv ρ o) (nm i) pl) Q E h tk:=by
 refine elEA (λm0 Fm cv=>?_)<|R.fr
 cases o<;>first|exact ff g|skip
 .rename_i j t
  replace g:=cd_e g
  obtain⟨hi,g⟩:=g
  have:=Nat.eq_of_beq_eq_true hi
  subst this
  rw[nm_rst]
  exact GM.rstrip (hq _ _ _ _ g ⟨rfl,_,rfl⟩)
 .rename_i n
  replace g:=at_e g
  refine elEA (λob hl g184=>?_) g;revert g184;clear g;intro g
  have ln:=(R.sco hl).1
  cases ob<;>first|exact ff g|skip
  .rename_i ss c
   have g:bi (Nat.beq i (nat_lit 78)) (k (.app n)) (bi (Nat.beq i (nat_lit 79)) (k (.ext n)) false)=true:=g
   rcases bi_e g with⟨hi,g⟩|⟨-,g⟩
   .have:=Nat.eq_of_beq_eq_true hi
    subst this
    rw[nm_app]
    exact listMethod_K R.nw (R.mem hl) F.slot_list_append F.type_list_append (hq _ _ _ _ g ⟨rfl,rfl,ln⟩)
   .obtain⟨hi,g⟩:=bi_t g
    have:=Nat.eq_of_beq_eq_true hi
    subst this
    rw[nm_ext]
    exact listMethod_K R.nw (R.mem hl) F.slot_list_extend F.type_list_extend (hq _ _ _ _ g ⟨rfl,rfl,ln⟩)
  .rename_i C d
   replace g:=oe_e (o:=lk clT C) g
   refine elEA (λr hr g185=>?_) g;revert g185;clear g;intro g
   replace g:=oe_e (o:=lk r.meths i) g
   refine elEA (λf hf g186=>?_) g;revert g186;clear g;intro g
   replace g:=at_e g
   refine elEA (λo' hd g187=>?_) g;revert g187;clear g;intro g
   cases o'<;>first|exact ff g|skip
   rename_i es m
   have CO:=cls_ok (w:=w) hr
   refine elAA (λm1 m2 m3=>?_)<|CO.me _ (lk_mem hf)
   have g:Option.rec (motive:=λ_=>Bool) (k (.fn f n)) (λ_=>false) (lk es i)=true:=g
   rcases hx:lk es i with _|x
   .rw[hx]at g
    have g:k (.fn f n)=true:=g
    have hg:getL (nm i) (es.map (entry w ρ))=some none:=by rw[getL_entry,hx];rfl
    exact method_inst Fm R.kn (R.inst hl hd) (CO.pg _) m1 m2 hg (hq _ _ _ _ g ⟨rfl,rfl,ln,m3⟩)
   .rw[hx]at g;exact ff g
  .rename_i oi kvs
   replace g:=cd_e g
   obtain⟨hi,g⟩:=g
   have:=Nat.eq_of_beq_eq_true hi
   subst this
   rw[nm_get]
   refine elEAA (λl d z188 z189=>?_)<|(R.oko hl).1;clear z188 z189
   exact kdg_method R.nw (R.mem hl) d (hq _ _ _ _ g ⟨rfl,rfl,ln⟩)
  .rename_i oi kvs
   replace g:=cd_e g
   obtain⟨hi,g⟩:=g
   have:=Nat.eq_of_beq_eq_true hi
   subst this
   rw[nm_get]
   exact kdg_method R.nw (R.mem hl) (R.oko hl).1 (hq _ _ _ _ g ⟨rfl,rfl,ln⟩)
theorem grow{ss ss2:List Sg}{c:Nat}{K:S->Bool}{G:Prop}(R:Rl Γ ρ σ h)(hl:lk σ.hp n=some (.list ss c))(g:putK σ n (.list (app ss ss2)) K=true)(hs:∀s∈ss2,s.sc ρ.n)
 (hq:∀A B,Γ.lg ρ σ=A++(ρ.num n,listOf (sgs ρ ss).toArray (ρ.num c))::B->(∀h' m,Fr ρ.g Γ.L h' m->Γ.cov m ρ σ->News ρ.g Γ.L h' (A++(ρ.num n,listOf (sgs ρ ss++sgs ρ ss2).toArray (ρ.num c+1))::B)->∃ρ' σ',Γ.Ext ρ ρ'/\Rl Γ ρ' σ' h'/\K σ'=true)->G):G:=by
 rw[app_eq]at g
 refine put_q R g hl λA B el K9=>hq A B el λh' m F cv N=>?_
 have sc:∀s∈ss++ss2,s.sc ρ.n:=λs hh=>(List.mem_append.mp hh).elim ((R.sco hl).2.1 s) (hs s)
 have eo:io w (ρ.push (ρ.num c+1) default) (.list (ss++ss2) ρ.n)=listOf (sgs ρ ss++sgs ρ ss2).toArray (ρ.num c+1):=by
  show listOf _ _=_
  rw[push_num,push_pre.sgs sc,sgs_app]
 refine elEAAA (λσ' x R' g' z190=>?_) (K9 (ρ.num c+1) default ⟨λs hh=>(sc s hh).up push_pre.le,push_lt⟩ trivial h' m F cv (by rw[eo];exact N));clear z190
 exact mkEEAA _ σ' x R' g'
theorem getD_e{vs:List V}{f:V->(Nat->Bool)->Bool}{kvs:List (Nat×V)}{k:V->Bool}(g:getD vs f kvs k=true):∃key r,vs=key::r/\f key (λj=>List.rec (motive:=λ_=>Bool) (k (Option.rec (motive:=λ_=>V) .non (λv=>v) (lk kvs j))) (λd r _=>List.rec (motive:=λ_=>Bool) (k (Option.rec (motive:=λ_=>V) d (λv=>v) (lk kvs j))) (λ_ _ _=>false) r) r)=true:=by
 rcases vs with _|⟨key,r⟩
 .exact ff g
 .exact mkEEA key r rfl g
theorem get_core{K:Type}[DecidableEq K]{knd:KeyKind prog w K}{a:Addr}{ob:Obj}{l:List (K×Value)}{kk:K}{kv:Value}{ox:Option V}{r:List V}{Q:Value->Shared->Prop}(R:Rl Γ ρ σ h)(hm:(a,ob)∈Γ.lg ρ σ)(d:ob.IsDictOf knd l)(lo:(a==sysModules)=false)(hk:knd.is kk kv=true)(hv:valueAt l kk=ox.map (iv ρ))
 (hs:∀v,ox=some v->v.sc ρ.n)(hr:scs ρ.n r)(g:List.rec (motive:=λ_=>Bool) (k (Option.rec (motive:=λ_=>V) .non (λv=>v) ox) σ) (λd r _=>List.rec (motive:=λ_=>Bool) (k (Option.rec (motive:=λ_=>V) d (λv=>v) ox) σ) (λ_ _ _=>false) r) r=true)
 (hq:KQ Γ ρ k Q):Γ.wp (call (.builtin "dict.get") (.ref a::kv::ivs ρ r)) Q E h tk:=by
 have go:∀(d:V) tk',d.sc ρ.n->k (Option.rec (motive:=λ_=>V) d (λv=>v) ox) σ=true->Q ((valueAt l kk).getD (iv ρ d)) (Γ.sh h tk'):=λd tk' hd g=>by
  rw[hv]
  rcases ox with _|v
  .exact hq d ρ σ h tk' .refl hd R g
  .exact hq v ρ σ h tk' .refl (hs v rfl) R g
 rcases r with _|⟨y,r⟩
 .exact kdg_get1 R.nw hm d lo hk _ rfl (go .non _ trivial g)
 .cases r<;>first|exact ff g|skip
  exact kdg_get2 R.nw hm d lo hk _ rfl (go y _ (hr y (.head _)) g)
theorem rst_all:∀p∈txT,(Txt.rstripChars (nm p.1) (nm (nat_lit 190))).cps.toList=rstr p.2:=by decide+kernel
noncomputable def NoF(P:Pm):Prop:=∀b f vs hp nx k x,P.F b f vs hp nx k x=false
theorem gMc_ok{m:Mt}{vs:List V}{fv:Value}{first:List Value}{ρ₀:Rho}{Q:Value->Shared->Prop}(hP:PG lv P Γ\/NoF P)(R:Rl Γ ρ σ h)(hvs:scs ρ.n vs)(x:Γ.Ext ρ₀ ρ)(M:MRel w ρ₀ m fv first)(g:gMc P m vs σ k=true)
 (hq:KQ Γ ρ k Q)(hx:EX Γ P.x ρ E):Γ.wp (call fv (first++ivs ρ vs)) Q E h tk:=by
 refine elEA (λm0 F cv=>?_)<|R.fr
 cases m
 .rename_i f n
  refine elAAA (λr191 r192 ln z193=>?_) M;subst r191;subst r192;clear z193;clear M
  rw[←x.1.iv (v:=.ref n) ln]
  rcases hP with hP|hP
  rotate_left
  .exact absurd g (by show¬P.F _ _ _ _ _ _ _=true;rw[hP];exact Bool.false_ne_true)
  refine call_ok (vs:=.ref n::vs) hP R (λv hv=>?_) g hq hx
  rcases List.mem_cons.mp hv with rfl|hv
  .exact Nat.lt_of_lt_of_le ln x.1.le
  .exact hvs v hv
 .rename_i n
  refine elAA (λr194 r195 ln=>?_) M;subst r194;subst r195;clear M
  rw[←x.1.iv (v:=.ref n) ln]
  replace g:=at_e g
  refine elEA (λo hl g196=>?_) g;revert g196;clear g;intro g
  cases o<;>first|exact ff g|skip
  rename_i ss c
  replace g:=sz9 g R.ll
  obtain⟨hz,g⟩:=g
  replace g:=one_e g
  refine elEA (λv r197 g198=>?_) g;revert g198;clear g;intro g;subst r197
  refine grow R hl g (λs hs=>by rw[List.mem_singleton]at hs;subst hs;exact hvs v (.head _)) λA B el K9=>?_
  have N:=R.nw
  have ND:=R.nd
  rw[el]at N ND
  refine led_append (vs:=sgs ρ ss) (v:=iv ρ v) F N ND updS_mid (by omega) λh' F' N'=>?_
  refine elEEAA (λρ' σ' x' R' g'=>?_)<|K9 h' m0 F' cv N'
  exact hq .non ρ' σ' h' _ x' trivial R' g'
 .rename_i n
  refine elAA (λr199 r200 ln=>?_) M;subst r199;subst r200;clear M
  rw[←x.1.iv (v:=.ref n) ln]
  replace g:=one_e g
  refine elEA (λv r201 g202=>?_) g;revert g202;clear g;intro g;subst r201
  replace g:=drf_e g ρ
  refine elEEAAA (λn2 o2 r203 z204 hl2 g205=>?_) g;revert g205;clear g;intro g;subst r203;clear z204
  replace g:=at_e g
  refine elEA (λo hl g206=>?_) g;revert g206;clear g;intro g
  cases o<;>first|exact ff g|skip
  cases o2<;>first|exact ff g|skip
  rename_i ss c ss2 c2
  replace g:=sz9 g R.ll
  obtain⟨z1,g⟩:=g
  replace g:=sz90 g R.ll
  obtain⟨z2,g⟩:=g
  replace g:=empty_e g
  rcases g with⟨-,g⟩|⟨v,r,e,g⟩
  .exact ff g
  have hne:(sgs ρ ss2).length≠0:=by rw[e];exact Nat.ne_of_gt sgs_pos
  refine grow R hl g (R.sco hl2).2.1 λA B el K9=>?_
  have N:=R.nw
  have ND:=R.nd
  have hm2:=R.mem hl2
  rw[el]at N ND hm2
  refine led_extend F N ND hm2 updS_mid z1 z2 hne λh' F' N'=>?_
  refine elEEAA (λρ' σ' x' R' g'=>?_)<|K9 h' m0 F' cv N'
  exact hq .non ρ' σ' h' _ x' trivial R' g'
 .rename_i n
  refine elAA (λr207 r208 ln=>?_) M;subst r207;subst r208;clear M
  rw[←x.1.iv (v:=.ref n) ln]
  replace g:=at_e g
  refine elEA (λo hl g209=>?_) g;revert g209;clear g;intro g
  have ok:=R.oko hl
  cases o<;>first|exact ff g|skip
  .rename_i oi kvs
   replace g:=getD_e g
   refine elEEA (λkey r r210 g211=>?_) g;revert g211;clear g;intro g;subst r210
   replace g:=str_e g
   refine elEEA (λj t r212 g213=>?_) g;revert g213;clear g;intro g;subst r212
   refine elEAA (λl d z214 hv=>?_)<|ok.1;clear z214
   exact get_core (r:=r) R (R.mem hl) d ok.2 (strKind_is _ _ (nm j) _) (hv j) (λv hv=>(R.sco hl).2.1 _ (lk_mem hv)) (λv hv=>hvs v (.tail _ hv)) g hq
  .rename_i oi kvs
   replace g:=getD_e g
   refine elEEA (λkey r r215 g216=>?_) g;revert g216;clear g;intro g;subst r215
   replace g:=lit_e g
   refine elEEA (λj t r217 g218=>?_) g;revert g218;clear g;intro g;subst r217
   show Γ.wp (call _ (_::iv ρ _::ivs ρ r)) Q E h tk
   rw[iv_lit]
   exact get_core (r:=r) R (R.mem hl) ok.1 ok.2 (intKind_is _ _ (j:Int) _) (valueAt_I kvs) (λv hv=>(R.sco hl).2.1 _ (lk_mem hv)) (λv hv=>hvs v (.tail _ hv)) g hq
 .rename_i i
  refine elAE (λr219 t r220=>?_) M;subst r219;subst r220;clear M
  replace g:=one_e g
  refine elEA (λv r221 g222=>?_) g;revert g222;clear g;intro g;subst r221
  replace g:=str_e g
  refine elEEA (λj u r223 g224=>?_) g;revert g224;clear g;intro g;subst r223
  replace g:=cd_e g
  obtain⟨hi,g⟩:=g
  have:=Nat.eq_of_beq_eq_true hi
  subst this
  replace g:=cps_e g
  refine elEAAA (λl hl g225 l1 hm=>?_) g;revert g225;clear g;intro g
  exact KXw.rstripChars rfl (fits_line (Nat.le_trans l1 (Nat.le_of_ble_eq_true rfl))) λt' k9=>mkS_ok R g (rst_all _ hm) hq t' k9
end
end Mine.Q
namespace Mine.Q
noncomputable def dp(n:Nat):Pos:=⟨n/134217728,n/262144%512,n/512%512,n%512⟩
noncomputable def bnm(b:Bf):Nat:=Bf.rec (motive:=λ_=>Nat) 154 155 155 155 156 160 161 162 b
noncomputable def tnm(b:Bf):Nat:=Bf.rec (motive:=λ_=>Nat) 154 156 157 158 154 154 154 154 b
noncomputable def toN(is:List (Nat×Nat)):List Expr:=List.rec [] (λx _ ih=>.Name (nm x.1) (dp x.2)::ih) is
noncomputable def toSc(sn:List (Nat×Nat)):Scope:=⟨.function,sn.map λx=>(nm x.1,match x.2 with|0=>.local|1=>.globalImplicit|_=>.free),false,false,[]⟩
noncomputable def tgt(is:List (Nat×Nat))(tp:Nat):Expr:=Nat.rec (motive:=λ_=>Expr) (List.rec (.Name (nm 0) (dp 0)) (λx _ _=>.Name (nm x.1) (dp x.2)) is) (λn _=>.Tuple (toN is) 0 (dp (Nat.succ n))) tp
structure TE where
 e:Expr
 l:List Expr
 k:List (Option Expr)
 w:List Expr
noncomputable def te(e:Expr):TE:=⟨e,[],[],[]⟩
noncomputable def tl(l:List Expr):TE:=⟨.List [] (dp 0),l,[],[]⟩
noncomputable def tt(e:IE):TE:=IE.rec (motive:=λ_=>TE)
 (λi p=>te (.Name (nm i) (dp p)))
 (λi _ _ p=>te (.Name (nm i) (dp p)))
 (λi _ p=>te (.Name (nm i) (dp p)))
 (λi p=>te (.Constant (.int (Int.ofNat i)) 0 (dp p)))
 (λi p q=>te (.UnaryOp .USub (.Constant (.int (Int.ofNat i)) 0 (dp q)) (dp p)))
 (λi p=>te (.Constant (.str (nm i)) 0 (dp p)))
 (λp=>te (.Constant .none 0 (dp p)))
 (λb p=>te (.Constant (.bool b) 0 (dp p)))
 (λ_ i p e=>te (.Attribute e.e (nm i) (dp p)))
 (λ_ _ p e ix=>te (.Subscript e.e ix.e (dp p)))
 (λ_ _ p q e k=>te (.Subscript e.e (.Slice none (some k.e) none (dp q)) (dp p)))
 (λ_ _ p q e k=>te (.Subscript e.e (.Slice (some k.e) none none (dp q)) (dp p)))
 (λop _ _ p l r=>te (.Compare l.e [op] [r.e] (dp p)))
 (λop _ p as=>te (.BoolOp op as.l (dp p)))
 (λ_ p a=>te (.UnaryOp .Not a.e (dp p)))
 (λ_ _ _ p t a b=>te (.IfExp t.e a.e b.e (dp p)))
 (λop _ _ p a b=>te (.BinOp a.e op b.e (dp p)))
 (λ_ p as=>te (.List as.l (dp p)))
 (λ_ p as=>te (.Tuple as.l 0 (dp p)))
 (λ_ p as=>te (.Dict as.k as.w (dp p)))
 (λ_ p=>te (.Dict [] [] (dp p)))
 (tl [])
 (λ_ _ a as=>tl (a.e::as.l))
 (λ_ e=>te e.e)
 (λj p _ _ v r=>⟨.List [] (dp 0),[],some (.Constant (.str (nm j)) 0 (dp p))::r.k,v.e::r.w⟩)
 (λf _ _ p q as=>te (.Call (.Name (nm f) (dp q)) as.l [] (dp p)))
 (λf _ _ p q as=>te (.Call (.Name (nm f) (dp q)) as.l [] (dp p)))
 (λ_ i _ p q o as=>te (.Call (.Attribute o.e (nm i) (dp q)) as.l [] (dp p)))
 (λb _ p q as=>te (.Call (.Name (nm (bnm b)) (dp q)) as.l [] (dp p)))
 (λb _ p q r a=>te (.Call (.Name (nm (bnm b)) (dp q)) [a.e,.Name (nm (tnm b)) (dp r)] [] (dp p)))
 (λi p=>te (.Name (nm i) (dp p)))
 (λ_ p q a=>te (.Call (.Name (nm 159) (dp q)) [a.e] [] (dp p)))
 (λ_ is tp _ c' sn p elt it c=>te (.ListComp elt.e [⟨tgt is tp,it.e,isNil c' [] [c.e],0⟩] (toSc sn) (dp p))) e
noncomputable abbrev toE(e:IE):Expr:=(tt e).e
noncomputable abbrev toL(e:IE):List Expr:=(tt e).l
noncomputable def toS(c:IS):List Stmt:=IS.rec (motive:=λ_=>List Stmt)
 []
 (λi e p q _ r=>.Assign [.Name (nm i) (dp q)] (toE e) (dp p)::r)
 (λe i v p q _ r=>.Assign [.Attribute (toE e) (nm i) (dp q)] (toE v) (dp p)::r)
 (λe k v p q _ r=>.Assign [.Subscript (toE e) (toE k) (dp q)] (toE v) (dp p)::r)
 (λi op e p q _ r=>.AugAssign (.Name (nm i) (dp q)) op (toE e) (dp p)::r)
 (λe i op v p q _ r=>.AugAssign (.Attribute (toE e) (nm i) (dp q)) op (toE v) (dp p)::r)
 (λe k op v p q _ r=>.AugAssign (.Subscript (toE e) (toE k) (dp q)) op (toE v) (dp p)::r)
 (λi e p q _ r=>.Assign [.Name (nm i) (dp q)] (toE e) (dp p)::r)
 (λi e p q _ r=>.Assign [.Name (nm i) (dp q)] (toE e) (dp p)::r)
 (λe p _ r=>.Expr (toE e) (dp p)::r)
 (λt _ _ p _ a b r=>.If (toE t) a b (dp p)::r)
 (λe p=>[.Return (some (toE e)) (dp p)])
 (λas p q s=>[.Raise (some (.Call (.Name (nm 83) (dp s)) (toL as) [] (dp q))) none (dp p)])
 (λas p q s=>[.Raise (some (.Call (.Name (nm 84) (dp s)) (toL as) [] (dp q))) none (dp p)])
 (λp=>[.Break (dp p)])
 (λis e p q _ r=>.Assign [.Tuple (toN is) 0 (dp q)] (toE e) (dp p)::r)
 (λi e _ p q _ b r=>.For (.Name (nm i) (dp q)) (toE e) b [] (dp p)::r)
 (λis e _ p q _ b r=>.For (.Tuple (toN is) 0 (dp q)) (toE e) b [] (dp p)::r)
 (λ_ _ p q s _ b hb r=>.Try b [.ExceptHandler (some (.Name (nm 83) (dp s))) (some (nm 49)) hb (dp q)] [] [] (dp p)::r) c
noncomputable def dbg(i:Nat):Bool:=!(nm i==("__debug__":Str))
noncomputable def glo(cs:Scope)(i:Nat):Bool:=cs.names.lookup (nm i)==some .globalImplicit&&dbg i
noncomputable def lcl(cs:Scope)(i:Nat):Bool:=cs.names.lookup (nm i)==some .local&&dbg i
noncomputable def cll(cs:Scope)(i:Nat):Bool:=cs.names.lookup (nm i)==some .cell&&dbg i
noncomputable def gvb(i:Nat)(v:Value):Bool:=lk gvT i==some v
noncomputable def atm(e:IE):Bool:=IE.rec (motive:=λ_=>Bool) (λ_ _=>true) (λ_ _ _ _=>true) (λ_ _ _=>true) (λ_ _=>false) (λ_ _ _=>false) (λ_ _=>false) (λ_=>false) (λ_ _=>false) (λ_ _ _ _=>true) (λ_ _ _ _ _=>true) (λ_ _ _ _ _ _=>true) (λ_ _ _ _ _ _=>true) (λ_ _ _ _ _ _=>false) (λ_ _ _ _=>false) (λ_ _ _=>false) (λ_ _ _ _ _ _ _=>false) (λ_ _ _ _ _ _=>false) (λ_ _ _=>false) (λ_ _ _=>false) (λ_ _ _=>false) (λ_ _=>false) (false) (λ_ _ _ _=>false) (λ_ _=>false) (λ_ _ _ _ _ _=>false) (λ_ _ _ _ _ _=>false) (λ_ _ _ _ _ _=>false) (λ_ _ _ _ _ _ _=>true) (λ_ _ _ _ _=>false) (λ_ _ _ _ _ _=>false) (λ_ _=>true) (λ_ _ _ _=>false) (λ_ _ _ _ _ _ _ _ _ _=>false) e
noncomputable def pln(e:IE):Bool:=IE.rec (motive:=λ_=>Bool) (λ_ _=>true) (λ_ _ _ _=>true) (λ_ _ _=>true) (λ_ _=>true) (λ_ _ _=>true) (λ_ _=>true) (λ_=>true) (λ_ _=>true) (λ_ _ _ _=>true) (λ_ _ _ _ _=>true) (λ_ _ _ _ _ _=>true) (λ_ _ _ _ _ _=>true) (λ_ _ _ _ _ _=>false) (λ_ _ _ _=>false) (λ_ _ _=>false) (λ_ _ _ _ _ _ _=>false) (λ_ _ _ _ _ _=>true) (λ_ _ _=>true) (λ_ _ _=>true) (λ_ _ _=>true) (λ_ _=>true) (true) (λ_ _ _ _=>true) (λ_ _=>false) (λ_ _ _ _ _ _=>true) (λ_ _ _ _ _ _=>true) (λ_ _ _ _ _ _=>true) (λ_ _ _ _ _ _ _=>true) (λ_ _ _ _ _=>true) (λ_ _ _ _ _ _=>true) (λ_ _=>true) (λ_ _ _ _=>true) (λ_ _ _ _ _ _ _ _ _ _=>true) e
noncomputable def isLc(e:IE):Bool:=IE.rec (motive:=λ_=>Bool) (λ_ _=>false) (λ_ _ _ _=>false) (λ_ _ _=>false) (λ_ _=>false) (λ_ _ _=>false) (λ_ _=>false) (λ_=>false) (λ_ _=>false) (λ_ _ _ _=>false) (λ_ _ _ _ _=>false) (λ_ _ _ _ _ _=>false) (λ_ _ _ _ _ _=>false) (λ_ _ _ _ _ _=>false) (λ_ _ _ _=>false) (λ_ _ _=>false) (λ_ _ _ _ _ _ _=>false) (λ_ _ _ _ _ _=>false) (λ_ _ _=>false) (λ_ _ _=>false) (λ_ _ _=>false) (λ_ _=>false) (false) (λ_ _ _ _=>false) (λ_ _=>true) (λ_ _ _ _ _ _=>false) (λ_ _ _ _ _ _=>false) (λ_ _ _ _ _ _=>false) (λ_ _ _ _ _ _ _=>false) (λ_ _ _ _ _=>false) (λ_ _ _ _ _ _=>false) (λ_ _=>false) (λ_ _ _ _=>false) (λ_ _ _ _ _ _ _ _ _ _=>true) e
noncomputable def isTup(e:IE):Bool:=IE.rec (motive:=λ_=>Bool) (λ_ _=>false) (λ_ _ _ _=>false) (λ_ _ _=>false) (λ_ _=>false) (λ_ _ _=>false) (λ_ _=>false) (λ_=>false) (λ_ _=>false) (λ_ _ _ _=>false) (λ_ _ _ _ _=>false) (λ_ _ _ _ _ _=>false) (λ_ _ _ _ _ _=>false) (λ_ _ _ _ _ _=>false) (λ_ _ _ _=>false) (λ_ _ _=>false) (λ_ _ _ _ _ _ _=>false) (λ_ _ _ _ _ _=>false) (λ_ _ _=>false) (λ_ _ _=>true) (λ_ _ _=>false) (λ_ _=>false) (false) (λ_ _ _ _=>false) (λ_ _=>true) (λ_ _ _ _ _ _=>false) (λ_ _ _ _ _ _=>false) (λ_ _ _ _ _ _=>false) (λ_ _ _ _ _ _ _=>false) (λ_ _ _ _ _=>false) (λ_ _ _ _ _ _=>false) (λ_ _=>false) (λ_ _ _ _=>false) (λ_ _ _ _ _ _ _ _ _ _=>false) e
noncomputable def relS(cs sc:Scope):Scope:={sc with names:=sc.names.map λ(n,k)=>if(k==.free&&cs.kind==.function&&cs.names.lookup n==some .cell)then(n,.cell)else(n,k)}
noncomputable def lcB(cs:Scope)(sn:List (Nat×Nat))(is:List (Nat×Nat))(tp:Nat):Bool:=
 (toSc sn).names.all (λy=>!(y.2==.local)||(toSc sn).names.lookup y.1==some .local)&&(toSc sn).names.all (λy=>!(y.2==.free)||cs.names.lookup y.1==some .cell)&&is.all (λx=>(toSc sn).names.lookup (nm x.1)==some .local)&&Nat.beq (Nat.rec (motive:=λ_=>Nat) 1 (λ_ _=>2) tp) is.length&&nodB (is.map (·.1))
structure WE where
 e:Scope->Bool
 a:Scope->Bool
 b:Scope->Bool
 t:Scope->Bool
 tb:Scope->Bool
 d:Scope->Bool
 r:Scope->Bool
noncomputable def no(_:Scope):Bool:=false
noncomputable def we(e:Scope->Bool):WE:=⟨e,no,no,no,no,no,no⟩
noncomputable def wf(e:IE):WE:=IE.rec (motive:=λ_=>WE)
 (λi _=>we λcs=>lcl cs i)
 (λi c t _=>we λcs=>glo cs i&&gvb i (.int (Int.ofNat c) t))
 (λi a _=>we λcs=>glo cs i&&gvb i (.ref a))
 (λ_ _=>we λ_=>true)
 (λ_ _ _=>we λ_=>true)
 (λ_ _=>we λ_=>true)
 (λ_=>we λ_=>true)
 (λ_ _=>we λ_=>true)
 (λe' _ _ e=>we λcs=>atm e'&&e.e cs)
 (λ_ _ _ e ix=>we λcs=>e.e cs&&ix.e cs)
 (λ_ _ _ _ e k=>we λcs=>e.e cs&&k.e cs)
 (λ_ _ _ _ e k=>we λcs=>e.e cs&&k.e cs)
 (λ_ _ _ _ l r=>⟨λcs=>l.e cs&&r.e cs,no,no,λcs=>l.e cs&&r.e cs,no,no,no⟩)
 (λ_ _ _ as=>⟨λcs=>as.b cs,no,no,λcs=>as.tb cs,no,no,no⟩)
 (λ_ _ a=>⟨λcs=>a.e cs,no,no,λcs=>a.t cs,no,no,no⟩)
 (λ_ _ _ _ t a b=>we λcs=>t.t cs&&a.e cs&&b.e cs)
 (λ_ _ _ _ a b=>we λcs=>a.e cs&&b.e cs)
 (λ_ _ as=>we λcs=>as.a cs)
 (λ_ _ as=>we λcs=>as.a cs)
 (λas' _ as=>we λcs=>Nat.ble 1 (tt as').k.length&&Nat.ble (tt as').k.length 15&&as.d cs)
 (λ_ _=>we λ_=>true)
 ⟨no,λ_=>true,no,no,λ_=>true,λ_=>true,no⟩
 (λ_ as' a as=>⟨no,λcs=>a.e cs&&as.a cs,λcs=>a.e cs&&isNil as' true (as.b cs),no,λcs=>a.t cs&&as.tb cs,no,no⟩)
 (λe' e=>⟨no,no,no,λcs=>pln e'&&e.e cs,no,no,no⟩)
 (λ_ _ _ _ v r=>⟨no,no,no,no,no,λcs=>v.e cs&&r.d cs,no⟩)
 (λf a _ _ _ as=>we λcs=>glo cs f&&gvb f (.ref a)&&fnK.contains a&&as.a cs)
 (λf C _ _ _ as=>we λcs=>glo cs f&&gvb f (.ref C)&&(lk clT C).isSome&&as.a cs)
 (λo' _ as' p q o as=>we λcs=>atm o'&&Nat.blt (toL as').length 30&&(dp q).endLine==(dp p).line&&o.e cs&&as.a cs)
 (λb as' _ _ as=>we λcs=>(btyp b=="")&&cs.names.lookup (nm (bnm b))==some .globalImplicit&&isNil as' false true&&as.a cs)
 (λb _ _ _ _ a=>we λcs=>!(btyp b=="")&&cs.names.lookup (nm (bnm b))==some .globalImplicit&&cs.names.lookup (nm (tnm b))==some .globalImplicit&&a.e cs)
 (λi _=>we λcs=>cll cs i)
 (λ_ _ _ a=>⟨no,no,no,no,no,no,λcs=>cs.names.lookup (nm 159)==some .globalImplicit&&a.e cs⟩)
 (λ_ is tp _ c' sn _ elt it c=>we λcs=>it.e cs&&lcB cs sn is tp&&elt.e (relS cs (toSc sn))&&isNil c' true (Nat.beq tp 0&&c.t (relS cs (toSc sn)))) e
noncomputable abbrev wfE(cs:Scope)(e:IE):Bool:=(wf e).e cs
noncomputable def wfL(cs:Scope)(i q:Nat)(e:IE):Bool:=IE.rec (motive:=λ_=>Bool) (λ_ _=>false) (λ_ _ _ _=>false) (λ_ _ _=>false) (λ_ _=>false) (λ_ _ _=>false) (λ_ _=>false) (λ_=>false) (λ_ _=>false) (λ_ _ _ _=>false) (λ_ _ _ _ _=>false) (λ_ _ _ _ _ _=>false) (λ_ _ _ _ _ _=>false) (λ_ _ _ _ _ _=>false) (λ_ _ _ _=>false) (λ_ _ _=>false) (λ_ _ _ _ _ _ _=>false) (λ_ _ _ _ _ _=>false) (λ_ _ _=>false) (λ_ _ _=>false) (λ_ _ _=>false) (λ_ _=>false) (false) (λ_ _ _ _=>false) (λ_ _=>false) (λ_ _ _ _ _ _=>false) (λ_ _ _ _ _ _=>false) (λ_ _ _ _ _ _=>false) (λ_ _ _ _ _ _ _=>false) (λ_ _ _ _ _=>false) (λ_ _ _ _ _ _=>false) (λ_ _=>false) (λ_ _ _ _=>false) (λelt is tp it c' sn p _ _ _=>(dp q).line==(dp p).line&&!((toSc sn).names.any λx=>x.1==nm i&&(x.2==.local||x.2==.cell))&&(wfE cs it||(Nat.beq tp 0&&(wf it).r cs))&&isNil c' true false&&lcB cs sn is tp&&wfE (relS cs (toSc sn)) elt) e
noncomputable def wfN(cs:Scope)(is:List (Nat×Nat)):Bool:=is.all λx=>cs.names.lookup (nm x.1)==some .local
noncomputable def wfI(cs:Scope)(e:IE):Bool:=wfE cs e||(wf e).r cs
noncomputable def sim(e:IE):Bool:=IE.rec (motive:=λ_=>Bool) (λ_ _=>true) (λ_ _ _ _=>false) (λ_ _ _=>false) (λ_ _=>false) (λ_ _ _=>false) (λ_ _=>false) (λ_=>false) (λ_ _=>false) (λ_ _ _ ih0=>ih0) (λ_ _ _ _ _=>false) (λ_ _ _ _ _ _=>false) (λ_ _ _ _ _ _=>false) (λ_ _ _ _ _ _=>false) (λ_ _ _ _=>false) (λ_ _ _=>false) (λ_ _ _ _ _ _ _=>false) (λ_ _ _ _ _ _=>false) (λ_ _ ih0=>ih0) (λ_ _ ih0=>ih0) (λ_ _ _=>false) (λ_ _=>false) (true) (λ_ _ ih0 ih1=>ih0&&ih1) (λ_ _=>false) (λ_ _ _ _ _ _=>false) (λ_ _ _ _ _ _=>false) (λ_ _ _ _ _ _=>false) (λ_ _ _ _ _ _ _=>false) (λ_ _ _ _ _=>false) (λ_ _ _ _ _ _=>false) (λ_ _=>false) (λ_ _ _ _=>false) (λ_ _ _ _ _ _ _ _ _ _=>false) e
noncomputable def simM(e:IE):Bool:=IE.rec (motive:=λ_=>Bool) (λ_ _=>false) (λ_ _ _ _=>false) (λ_ _ _=>false) (λ_ _=>false) (λ_ _ _=>false) (λ_ _=>false) (λ_=>false) (λ_ _=>false) (λ_ _ _ _=>false) (λ_ _ _ _ _=>false) (λ_ _ _ _ _ _=>false) (λ_ _ _ _ _ _=>false) (λ_ _ _ _ _ _=>false) (λ_ _ _ _=>false) (λ_ _ _=>false) (λ_ _ _ _ _ _ _=>false) (λ_ _ _ _ _ _=>false) (λ_ _ _=>false) (λ_ _ _=>false) (λ_ _ _=>false) (λ_ _=>false) (false) (λ_ _ _ _=>false) (λ_ _=>false) (λ_ _ _ _ _ _=>false) (λ_ _ _ _ _ _=>false) (λ_ _ _ _ _ _=>false) (λo _ as _ _ _ _=>sim o&&sim as) (λ_ _ _ _ _=>false) (λ_ _ _ _ _ _=>false) (λ_ _=>false) (λ_ _ _ _=>false) (λ_ _ _ _ _ _ _ _ _ _=>false) e
noncomputable def isDone(c:IS):Bool:=IS.rec (motive:=λ_=>Bool) true (λ_ _ _ _ _ _=>false) (λ_ _ _ _ _ _ _=>false) (λ_ _ _ _ _ _ _=>false) (λ_ _ _ _ _ _ _=>false) (λ_ _ _ _ _ _ _ _=>false) (λ_ _ _ _ _ _ _ _=>false) (λ_ _ _ _ _ _=>false) (λ_ _ _ _ _ _=>false) (λ_ _ _ _=>false)
 (λ_ _ _ _ _ _ _ _=>false) (λ_ _=>false) (λ_ _ _ _=>false) (λ_ _ _ _=>false) (λ_=>false) (λ_ _ _ _ _ _=>false) (λ_ _ _ _ _ _ _ _=>false) (λ_ _ _ _ _ _ _ _=>false) (λ_ _ _ _ _ _ _ _ _=>false) c
noncomputable def hOk(c:IS):Bool:=IS.rec (motive:=λ_=>Bool) false (λ_ _ _ _ _ _=>false) (λ_ _ _ _ _ _ _=>false) (λ_ _ _ _ _ _ _=>false) (λ_ _ _ _ _ _ _=>false) (λ_ _ _ _ _ _ _ _=>false) (λ_ _ _ _ _ _ _ _=>false) (λ_ _ _ _ _ _=>false) (λ_ _ _ _ _ _=>false) (λe _ r _=>simM e&&isDone r)
 (λ_ _ _ _ _ _ _ _=>false) (λe _=>sim e) (λ_ _ _ _=>false) (λ_ _ _ _=>false) (λ_=>false) (λ_ _ _ _ _ _=>false) (λ_ _ _ _ _ _ _ _=>false) (λ_ _ _ _ _ _ _ _=>false) (λ_ _ _ _ _ _ _ _ _=>false) c
noncomputable def wfS(c:IS):Scope->Bool:=IS.rec (motive:=λ_=>Scope->Bool)
 (λ_=>true)
 (λi e _ _ _ r cs=>lcl cs i&&!isLc e&&wfE cs e&&r cs)
 (λe _ v _ _ _ r cs=>!isLc v&&wfE cs e&&wfE cs v&&r cs)
 (λe k v _ _ _ r cs=>!isLc v&&wfE cs e&&wfE cs k&&wfE cs v&&r cs)
 (λi _ e _ _ _ r cs=>lcl cs i&&wfE cs e&&r cs)
 (λe _ _ v _ _ _ r cs=>wfE cs e&&wfE cs v&&r cs)
 (λe k _ v _ _ _ r cs=>wfE cs e&&wfE cs k&&wfE cs v&&r cs)
 (λi e _ _ _ r cs=>cll cs i&&!isLc e&&wfE cs e&&r cs)
 (λi e _ q _ r cs=>lcl cs i&&wfL cs i q e&&r cs)
 (λe _ _ r cs=>!isLc e&&wfE cs e&&r cs)
 (λt _ _ _ _ a b r cs=>(wf t).t cs&&a cs&&b cs&&r cs)
 (λe _ cs=>wfE cs e)
 (λas _ _ _ cs=>glo cs 83&&(wf as).a cs)
 (λas _ _ _ cs=>glo cs 84&&(wf as).a cs)
 (λ_ _=>true)
 (λis e _ _ _ r cs=>wfN cs is&&!isTup e&&!isLc e&&wfE cs e&&r cs)
 (λi e _ _ _ _ b r cs=>lcl cs i&&wfI cs e&&b cs&&r cs)
 (λis e _ _ _ _ b r cs=>wfN cs is&&wfE cs e&&b cs&&r cs)
 (λ_ hb' _ _ _ _ b hb r cs=>glo cs 83&&lcl cs 49&&hOk hb'&&b cs&&hb cs&&r cs) c
end Mine.Q
namespace Mine.Q
noncomputable def atom(e:Expr):Bool:=Nat.beq e.ctorIdx 23||Nat.beq e.ctorIdx 20||Nat.beq e.ctorIdx 21||(match e with|.Call f ..=>Nat.beq f.ctorIdx 20|_=>false)
noncomputable def nstar(e:Expr):Bool:=!Nat.beq e.ctorIdx 22
noncomputable def nslice(e:Expr):Bool:=!Nat.beq e.ctorIdx 26
noncomputable def ncomp(e:Expr):Bool:=!(Nat.beq e.ctorIdx 8||Nat.beq e.ctorIdx 9||Nat.beq e.ctorIdx 10)
noncomputable def nset(e:Expr):Bool:=!Nat.beq e.ctorIdx 7
theorem att_base{o:Expr}{a:Str}{env:Env}{c:Sem Value}(h:atom o=true):attributeBase o a env c=c:=by
 cases o<;>first|rfl|cases h|skip
 rename_i f _ _ _
 cases f<;>first|rfl|cases h
theorem eval_att{value:Expr}{attr:Str}{pos:Pos}{env:Env}(h:atom value=true):eval (.Attribute value attr pos) env=(do
 let o←eval value env
 standAt pos.atName
 let r←holding [o] (getAttr o attr true)
 letTemporaryGo value o r
 pure r):=by rw[arm_eval_Attribute,att_base h]
theorem star_cons{e:Expr}{rest:List Expr}{env:Env}(h:nstar e=true):starEach (e::rest) env=(false,eval e env)::starEach rest env:=by
 cases e<;>first|rfl|cases h
theorem star_any{es:List Expr}{env:Env}{pos:Pos}(h:es.all nstar=true):(backTo pos (starEach es env)).any (λx=>x.1)=false:=by
 induction es with
 |nil=>rfl
 |cons e r ih=>
  rw[List.all_cons,Bool.and_eq_true]at h
  rw[star_cons h.1]
  exact ih h.2
theorem form_ok{es:List Expr}{env:Env}{pos:Pos}(h:es.all nstar=true)(hl:es.length<30):methodCallForm (es.length+0) (backTo pos (starEach es env)) []=true:=by
 unfold methodCallForm
 have:(backTo pos (starEach es env)).all (λx=>!x.1)=true:=by
  rw[List.all_eq_not_any_not]
  simp only[Bool.not_not]
  rw[star_any h];rfl
 rw[this]
 simpa using hl
theorem eval_met{o:Expr}{name:Str}{apos pos:Pos}{es:List Expr}{env:Env}(h:atom o=true)(hs:es.all nstar=true)(hl:es.length<30)(hp:(apos.endLine==pos.line)=true):
 eval (.Call (.Attribute o name apos) es [] pos) env=(do
  let ov←eval o env
  standAt apos.atName
  let(f,first)←holding [ov] (getMethod ov name (do return(←importBound o env).getD true))
  callWith pos f first (backTo pos (starEach es env)) []):=by
 rw[arm_eval_Call,att_base h]
 unfold methodCall
 simp only[List.length_nil]
 rw[show backToKw pos (keywordEach [] env)=[]from rfl,form_ok hs hl]
 simp only[calleeOf,methodCallPos,hp,if_true,Bool.not_true,Bool.false_or]
 rfl
theorem eval_call{x:Str}{xp pos:Pos}{es:List Expr}{env:Env}:eval (.Call (.Name x xp) es [] pos) env=(do callWith pos (←eval (.Name x xp) env) [] (backTo pos (starEach es env)) (backToKw pos (keywordEach [] env))):=by rfl
theorem isTrue_plE{e:Expr}{env:Env}{whole:Sem Value}(h:(match e with|.UnaryOp .Not ..=>false|.BoolOp ..=>false|.IfExp ..=>false|.Compare ..=>false|_=>true)=true):
 isTrue e env whole=(do let v←whole;standAt e.pos;holding [v] (truthy v)):=by
 cases e<;>first|rfl|cases h|skip
 rename_i op _ _
 cases op<;>first|rfl|cases h
theorem behind_ok{op:CmpOp}{r:Expr}(h:nset r=true):behindInMarks op r=false:=by
 cases r<;>first|rfl|cases h
theorem nslice_m{s:Expr}(h:nslice s=true):isSl s=false:=by cases s<;>first|rfl|cases h
theorem toE_nstar(e:IE):nstar (toE e)=true:=by induction e<;>first|rfl|assumption
theorem toE_nslice(e:IE):nslice (toE e)=true:=by induction e<;>first|rfl|assumption
theorem toE_nset(e:IE):nset (toE e)=true:=by induction e<;>first|rfl|assumption
theorem toK_ok:∀e:IE,(tt e).k.all (·.isSome)=true/\(tt e).k.length=(tt e).w.length:=by
 intro e
 induction e<;>first|exact⟨rfl,rfl⟩|skip
 rename_i ih
 exact⟨ih.1,congrArg (·+1) ih.2⟩
theorem toL_nstar(e:IE):(toL e).all nstar=true:=by
 induction e<;>first|rfl|skip
 rename_i a as _ ih
 show(nstar (toE a)&&(toL as).all nstar)=true
 rw[toE_nstar,ih];rfl
theorem aa{a b:Bool}(h:(a&&b)=true):a=true/\b=true:=by rwa[Bool.and_eq_true]at h
theorem atm_e{e:IE}(h:atm e=true):atom (toE e)=true:=by cases e<;>first|rfl|cases h
theorem not_dbg{x:Str}(h:(!(x==("__debug__":Str)))=true):(x==("__debug__":Str))=false:=by simpa using h
theorem knd_e{cs:Scope}{i:Nat}{k:NameKind}(h:(cs.names.lookup (nm i)==some k&&dbg i)=true):cs.names.lookup (nm i)=some k/\(nm i==("__debug__":Str))=false:=⟨eq_of_beq (aa h).1,not_dbg (aa h).2⟩
section
variable{prog:Program}{w:World}
noncomputable def SB(_:Rho)(b:Bool):Bool:=b
noncomputable def sB(_:Nat)(_:Bool):Prop:=True
noncomputable def HD(Γ:Fx prog w)(x:KX)(c:Sem (List (Value×Value)))(σ:S)(vc:(List (Nat×V)->S->Bool)->Bool):Prop:=
 ∀k ρ h tk Q E,vc k=true->Rl Γ ρ σ h->(∀kvs ps ρ1 σ1 h1 tk1,Γ.Ext ρ ρ1->(∀p∈kvs,V.sc ρ1.n p.2)->allStrKeys ps=true->strPairs ps=kvs.map (λp=>(nm p.1,iv ρ1 p.2))->Rl Γ ρ1 σ1 h1->k kvs σ1=true->Q ps (Γ.sh h1 tk1))->EX Γ x ρ E->Γ.wp c Q E h tk
structure IrOk(Γ:Fx prog w)(P:Pm)(ir:IE):Prop where
 e:∀σ,(wf ir).e Γ.env.scope=true->HH Γ P.x iv V.sc (eval (toE ir) Γ.env) σ (λk=>(ev ir).e P σ k)
 a:∀pos σ,(wf ir).a Γ.env.scope=true->HH Γ P.x ivs scs (spliced (backTo pos (starEach (toL ir) Γ.env))) σ (λk=>(ev ir).a P σ k)
 b:∀op pos σ,(wf ir).b Γ.env.scope=true->HH Γ P.x iv V.sc (eval (.BoolOp op (toL ir) pos) Γ.env) σ (λk=>(ev ir).b P op σ k)
 t:∀σ,(wf ir).t Γ.env.scope=true->HH Γ P.x SB sB (isTrue (toE ir) Γ.env (eval (toE ir) Γ.env)) σ (λk=>(ev ir).t P σ k)
 tb:∀op pos whole σ,(wf ir).tb Γ.env.scope=true->HH Γ P.x SB sB (isTrue (.BoolOp op (toL ir) pos) Γ.env whole) σ (λk=>(ev ir).tb P op σ k)
 d:∀pos σ,(wf ir).d Γ.env.scope=true->HD Γ P.x (evalPairs (pairTrees (tt ir).k (tt ir).w Γ.env pos)) σ (λk=>(ev ir).d P σ k)
noncomputable def CellsOk(Γ:Fx prog w)(ρ:Rho):Prop:=∀i n,cll Γ.env.scope i=true->lk Γ.ci i=some n->n<ρ.n/\Γ.env.cells.lookup (nm i)=some (ρ.num n)
structure Nm(Γ:Fx prog w):Prop where
 tn:Γ.tn=false
 kd:Γ.env.scope.kind=.function
 ga:Γ.env.globals=mainGlobals
 bu:Γ.env.builtins=builtinsNs
 cl:∀x,Γ.env.scope.names.lookup x=some .cell->∃c,Γ.env.cells.lookup x=some c
 cv:∀m ρ σ,Γ.cov m ρ σ->CellsOk Γ ρ
 loc:∀{i v ρ σ h tk pos} {Q:Value->Shared->Prop} {E:Value->Shared->Prop},lcl Γ.env.scope i=true->lk σ.vs i=some v->Rl Γ ρ σ h->Q (iv ρ v) (Γ.sh h tk)->Γ.wp (eval (.Name (nm i) pos) Γ.env) Q E h tk
 cel:∀{i n o v ρ σ h tk pos} {Q:Value->Shared->Prop} {E:Value->Shared->Prop},cll Γ.env.scope i=true->lk Γ.ci i=some n->lk σ.hp n=some (.cel o (some v))->Rl Γ ρ σ h->Q (iv ρ v) (Γ.sh h tk)->Γ.wp (eval (.Name (nm i) pos) Γ.env) Q E h tk
 glo:∀{i v ρ σ h tk pos} {Q:Value->Shared->Prop} {E:Value->Shared->Prop},glo Γ.env.scope i=true->nsIn (KF w) mainGlobals (nm i)=some (some v)->Rl Γ ρ σ h->Q v (Γ.sh h tk)->Γ.wp (eval (.Name (nm i) pos) Γ.env) Q E h tk
 blt:∀{i v ρ σ h tk pos} {Q:Value->Shared->Prop} {E:Value->Shared->Prop},Γ.env.scope.names.lookup (nm i)=some .globalImplicit->nsIn (KF w) mainGlobals (nm i)=some none->bootBuiltins (nm i)=some v->nm i≠"__name__"->(nm i==("__debug__":Str))=false->Rl Γ ρ σ h->Q v (Γ.sh h tk)->Γ.wp (eval (.Name (nm i) pos) Γ.env) Q E h tk
noncomputable def Fx.it(Γ:Fx prog w)(I:Addr)(it:Obj):Fx prog w:={Γ with its:=(I,it)::Γ.its}
variable{lv:Bool}{Γ:Fx prog w}{P:Pm}{ρ ρ':Rho}{σ:S}{h h':Heap}{tk n d:Nat}{k:KV}{E:Value->Shared->Prop}{I:Addr}{ot:Obj}
theorem it_perm{a b c:Lg}:List.Perm ((I,ot)::(a++(b++c))) (a++(b++(I,ot)::c)):=by
 refine List.perm_middle.symm.trans (List.Perm.append_left a ?_)
 exact List.perm_middle.symm
theorem it_drop(R:Rl (Γ.it I ot) ρ σ h):Rl Γ ρ σ h:=
 ⟨R.toOk,⟨R.kn,R.tp,R.bl,R.kt⟩,R.fr,λq hq=>R.nw q (it_perm.mem_iff.mp (.tail _ hq)),(List.nodup_cons.mp (nd_perm R.nd it_perm.symm)).2⟩
theorem it_off(R:Rl (Γ.it I ot) ρ σ h):∀p∈Γ.lg ρ σ,p.1≠I:=λp hp e=>
 (List.nodup_cons.mp (nd_perm R.nd it_perm.symm)).1 (List.mem_map.mpr ⟨p,hp,e⟩)
theorem it_add{m:Str->Option Value}(R:Rl Γ ρ σ h)(F:Fr ρ.g Γ.L h' m)(cv:Γ.cov m ρ σ)(off:∀p∈Γ.lg ρ σ,p.1≠I)(N:News ρ.g Γ.L h' ((I,ot)::Γ.lg ρ σ)):Rl (Γ.it I ot) ρ σ h':=
 ⟨R.toOk,⟨R.kn,R.tp,R.bl,R.kt⟩,⟨m,F,cv⟩,news_perm N it_perm,nd_perm (l:=(I,ot)::Γ.lg ρ σ) (List.nodup_cons.mpr ⟨λhm=>by
   refine elEA (λp hp e=>?_)<|List.mem_map.mp hm
   exact off p hp e,R.nd⟩) it_perm⟩
theorem PG.it(hP:PG lv P Γ):PG lv P (Γ.it I ot):=⟨hP.D,hP.cs,hP.out,hP.nh,hP.all⟩
theorem Nm.it(hN:Nm Γ):Nm (Γ.it I ot):=⟨hN.tn,hN.kd,hN.ga,hN.bu,hN.cl,hN.cv,λa b R q=>hN.loc a b (it_drop R) q,λa b c R q=>hN.cel a b c (it_drop R) q,λa b R q=>hN.glo a b (it_drop R) q,λa b c d e R q=>hN.blt a b c d e (it_drop R) q⟩
theorem xr_drop{e C:Addr}{c:Int}(X:XR (Γ.it I ot) ρ σ h e C c):XR Γ ρ σ h e C c:=⟨X.toOk,⟨X.kn,X.tp,X.bl,X.kt⟩,X.x,λq hq=>X.kp q (.tail _ hq)⟩
theorem EX.it{x:KX}(hx:EX Γ x ρ E):EX (Γ.it I ot) x ρ E:=λe C c ρ' σ' h' tk' a b g=>hx e C c ρ' σ' h' tk' a (xr_drop b) g
noncomputable abbrev HA(Γ:Fx prog w)(P:Pm)(e:IE):Prop:=∀pos σ,(wf e).a Γ.env.scope=true->HH Γ P.x ivs scs (spliced (backTo pos (starEach (toL e) Γ.env))) σ (λk=>(ev e).a P σ k)
theorem callW{a:IE}(A:HA Γ P a){f:Value}{first:List Value}{pos:Pos}{k:List V->S->Bool}{Q:Value->Shared->Prop}(hc:(wf a).a Γ.env.scope=true)(hk:keepIn (KF w) f=true)(R:Rl Γ ρ σ h)
 (g:(ev a).a P σ k=true)(hq:∀vs ρ1 σ1 h1 tk1,Γ.Ext ρ ρ1->scs ρ1.n vs->Rl Γ ρ1 σ1 h1->k vs σ1=true->Γ.wp (call f (first++ivs ρ1 vs)) Q E h1 tk1)(hx:EX Γ P.x ρ E):
 Γ.wp (callWith pos f first (backTo pos (starEach (toL a) Γ.env)) []) Q E h tk:=by
 cases a<;>first|exact ff hc|skip
 .exact callWith_K0 (kin R) hk (hq [] ρ σ h tk .refl (λ_ h=>nomatch h) R g)
 .exact callWith_K R.kn hk (A _ σ hc _ _ h tk _ E g R (λvs ρ1 σ1 h1 tk1 x1 s1 R1 g1=>⟨kin R1,hq vs ρ1 σ1 h1 tk1 x1 s1 R1 g1⟩) hx) (star_cons (toE_nstar _)) (star_any (toL_nstar _))
theorem callB{a:IE}(A:HA Γ P a){id:String}{first:List Value}{pos:Pos}{k:List V->S->Bool}{Q:Value->Shared->Prop}(hc:(wf a).a Γ.env.scope=true)(R:Rl Γ ρ σ h)
 (g:(ev a).a P σ k=true)(hq:∀vs ρ1 σ1 h1 tk1,Γ.Ext ρ ρ1->scs ρ1.n vs->Rl Γ ρ1 σ1 h1->k vs σ1=true->Γ.wp (call (.builtin id) (first++ivs ρ1 vs)) Q E h1 tk1)(hx:EX Γ P.x ρ E)(h0:k [] σ=true->False):
 Γ.wp (callWith pos (.builtin id) first (backTo pos (starEach (toL a) Γ.env)) []) Q E h tk:=by
 cases a<;>first|exact ff hc|skip
 .exact(h0 g).elim
 .exact callWith_method1 (A _ σ hc _ _ h tk _ E g R (λvs ρ1 σ1 h1 tk1 x1 s1 R1 g1=>hq vs ρ1 σ1 h1 tk1 x1 s1 R1 g1) hx) (star_cons (toE_nstar _)) (star_any (toL_nstar _))
theorem gMc_nil{P:Pm}{m:Mt}{σ:S}{k:KV}(hm:∀f n,m≠.fn f n)(g:gMc P m [] σ k=true):False:=by
 cases m
 .exact hm _ _ rfl
 .refine elEA (λo z226 g=>?_)<|at_e g;clear z226
  cases o<;>first|exact ff g|skip
  obtain⟨-,g⟩:=sz9 g (λ_=>Nat.zero_le _) (ρ:=⟨[],λ_=>.none,λ_=>nm 0,λ_=>[],λ_=>[],default⟩)
  exact ff g
 .exact ff g
 .refine elEA (λo z227 g=>?_)<|at_e g;clear z227
  cases o<;>first|exact ff g|skip
 .exact ff g
theorem callM(hP:PG lv P Γ\/NoF P){a:IE}(A:HA Γ P a){m:Mt}{fv:Value}{first:List Value}{pos:Pos}{k:KV}{Q:Value->Shared->Prop}(hc:(wf a).a Γ.env.scope=true)(R:Rl Γ ρ σ h)
 (M:MRel w ρ m fv first)(g:((ev a).a P σ λvs σ=>gMc P m vs σ k)=true)(hq:KQ Γ ρ k Q)(hx:EX Γ P.x ρ E):Γ.wp (callWith pos fv first (backTo pos (starEach (toL a) Γ.env)) []) Q E h tk:=by
 have go:∀vs ρ1 σ1 h1 tk1,Γ.Ext ρ ρ1->scs ρ1.n vs->Rl Γ ρ1 σ1 h1->gMc P m vs σ1 k=true->Γ.wp (call fv (first++ivs ρ1 vs)) Q E h1 tk1:=λvs ρ1 σ1 h1 tk1 x1 s1 R1 g1=>gMc_ok hP R1 s1 x1 M g1 (hq.up x1) (hx.up x1)
 cases m
 .have hk:=M.2.2.2
  rw[←M.1]at hk
  exact callW A hc hk R g go hx
 all_goals
  obtain⟨rfl,-⟩:=id M
  exact callB A hc R g go hx (gMc_nil λ_ _ h=>nomatch h)
end
end Mine.Q
namespace Mine.Q
section
variable{prog:Program}{w:World}{lv:Bool}{Γ:Fx prog w}{P:Pm}{ρ ρ':Rho}{σ:S}{h h':Heap}{tk n d:Nat}{k:KV}{E:Value->Shared->Prop}
noncomputable abbrev HE(Γ:Fx prog w)(P:Pm)(e:IE):Prop:=∀σ,(wf e).e Γ.env.scope=true->HH Γ P.x iv V.sc (eval (toE e) Γ.env) σ (λk=>(ev e).e P σ k)
noncomputable abbrev HT(Γ:Fx prog w)(P:Pm)(e:IE):Prop:=∀σ,(wf e).t Γ.env.scope=true->HH Γ P.x SB sB (isTrue (toE e) Γ.env (eval (toE e) Γ.env)) σ (λk=>(ev e).t P σ k)
theorem pln_e{e:IE}{env:Env}{whole:Sem Value}(h:pln e=true):isTrue (toE e) env whole=(do let v←whole;standAt (toE e).pos;holding [v] (truthy v)):=by
 refine isTrue_plE ?_
 induction e<;>first|rfl|cases h
theorem e_loc(hN:Nm Γ){i p:Nat}:HE Γ P (.loc i p):=by
 intro σ hc k ρ h tk Q E g R hq hx
 refine elEA (λv hv g=>?_)<|oe_e (o:=lk σ.vs i) g
 exact hN.loc hc hv R (hq v ρ σ h tk .refl (R.sv _ (lk_mem hv)) R g)
theorem gv_e{i:Nat}{v:Value}(h:gvb i v=true):nsIn (KF w) mainGlobals (nm i)=some (some v):=
 gv_all _ (lk_mem (eq_of_beq h))
theorem e_gi(hN:Nm Γ){i c t p:Nat}:HE Γ P (.gi i c t p):=by
 intro σ hc k ρ h tk Q E g R hq hx
 obtain⟨hg,hv⟩:=aa hc
 exact hN.glo hg (gv_e hv) R (nat_ok R g hq t tk)
theorem e_gr(hN:Nm Γ){i a p:Nat}:HE Γ P (.gr i a p):=by
 intro σ hc k ρ h tk Q E g R hq hx
 obtain⟨hg,hv⟩:=aa hc
 exact hN.glo hg (gv_e hv) R (hq (.gr a) ρ σ h tk .refl trivial R g)
theorem e_cel(hN:Nm Γ)(hP:PG lv P Γ){i p:Nat}:HE Γ P (.cel i p):=by
 intro σ hc k ρ h tk Q E g R hq hx
 refine elEA (λn hn g=>?_)<|oe_e (o:=lk P.cs i) g
 rw[hP.cs]at hn
 replace g:=at_e g
 refine elEA (λo hl g228=>?_) g;revert g228;clear g;intro g
 cases o<;>first|exact ff g|skip
 rename_i o v
 rcases v with _|v
 .exact ff g
 .exact hN.cel hc hn hl R (hq v ρ σ h tk .refl ((R.sco hl).2.1 _ rfl) R g)
theorem e_int{i p:Nat}:HE Γ P (.int i p):=by
 intro σ hc k ρ h tk Q E g R hq hx
 exact wpAny_Constant_int (nat_ok R g hq _ _)
theorem e_neg{i p q:Nat}:HE Γ P (.neg i p q):=by
 intro σ hc k ρ h tk Q E g R hq hx
 have:=intN_ok R g hq (tk+1) (tk+1+1)
 rw[lns_nil,Int.zero_add]at this
 exact UnaryOp_ (wpAny_Constant_int (neg_int this))
theorem str_ok{j:Nat}{t tk:Nat}{k:KV}{Q:Value->Shared->Prop}(R:Rl Γ ρ σ h)(g:tokK σ (λt σ=>k (.str j t) σ)=true)(hq:KQ Γ ρ k Q):Q (.str (nm j) t) (Γ.sh h tk):=
 tok_ok R g t default λσ' x lt R' _ _ g'=>by
  have:=hq (.str j ρ.n) _ σ' h tk x lt R' g'
  rw[show iv (ρ.push t default) (.str j ρ.n)=.str (nm j) t from congrArg _ push_num]at this
  exact this
theorem e_str{i p:Nat}:HE Γ P (.str i p):=by
 intro σ hc k ρ h tk Q E g R hq hx
 exact Constant_str (str_ok R g hq)
theorem e_non{p:Nat}:HE Γ P (.non p):=by
 intro σ hc k ρ h tk Q E g R hq hx
 exact wpAny_Constant_none (hq .non ρ σ h _ .refl trivial R g)
theorem e_boo{b:Bool}{p:Nat}:HE Γ P (.boo b p):=by
 intro σ hc k ρ h tk Q E g R hq hx
 exact wpAny_Constant_bool (hq (.boo b) ρ σ h _ .refl trivial R g)
theorem e_att{a:IE}{i p:Nat}(A:HE Γ P a):HE Γ P (.att a i p):=by
 intro σ hc k ρ h tk Q E g R hq hx
 obtain⟨h1,h2⟩:=aa hc
 exact Attribute_any_ (A σ h2 _ _ h tk _ E g R (λv ρ1 σ1 h1 tk1 x1 s1 R1 g1=>gAttr_ok R1 g1 (hq.up x1)) hx) (eval_att (atm_e h1))
theorem e_sub{a b:IE}{p:Nat}(A:HE Γ P a)(B:HE Γ P b):HE Γ P (.sub a b p):=by
 intro σ hc k ρ h tk Q E g R hq hx
 obtain⟨h1,h2⟩:=aa hc
 refine Subscript_ (A σ h1 _ _ h tk _ E g R (λv ρ1 σ1 h1' tk1 x1 s1 R1 g1=>B σ1 h2 _ _ h1' tk1 _ E g1 R1 (λu ρ2 σ2 h2' tk2 x2 s2 R2 g2=>?_) (hx.up x1)) hx)
 rw[←x2.1.iv s1]
 refine elEAA (λv' g' sc' I=>?_)<|gItem_ok R2 g2
 exact(I E tk2).1 _ _ _ (nslice_m (toE_nslice _)) λtk'=>hq v' ρ2 σ2 h2' tk' (x1.trans x2) sc' R2 g'
theorem e_upt{a b:IE}{p q:Nat}(A:HE Γ P a)(B:HE Γ P b):HE Γ P (.upt a b p q):=by
 intro σ hc k ρ h tk Q E g R hq hx
 obtain⟨h1,h2⟩:=aa hc
 refine Subscript_ (A σ h1 _ _ h tk _ E g R (λv ρ1 σ1 h1' tk1 x1 s1 R1 g1=>wpAny_Slice (evalPart_none_step (evalPart_some_step (B σ1 h2 _ _ h1' tk1 _ E g1 R1 (λu ρ2 σ2 h2' tk2 x2 s2 R2 g2=>evalPart_none_step ?_) (hx.up x1))))) hx)
 rw[←x2.1.iv s1]
 exact gSl_ok (up:=true) R2 g2 (hq.up (x1.trans x2))
theorem e_frm{a b:IE}{p q:Nat}(A:HE Γ P a)(B:HE Γ P b):HE Γ P (.frm a b p q):=by
 intro σ hc k ρ h tk Q E g R hq hx
 obtain⟨h1,h2⟩:=aa hc
 refine Subscript_ (A σ h1 _ _ h tk _ E g R (λv ρ1 σ1 h1' tk1 x1 s1 R1 g1=>wpAny_Slice (evalPart_some_step (B σ1 h2 _ _ h1' tk1 _ E g1 R1 (λu ρ2 σ2 h2' tk2 x2 s2 R2 g2=>evalPart_none_step (evalPart_none_step ?_)) (hx.up x1)))) hx)
 rw[←x2.1.iv s1]
 exact gSl_ok (up:=false) R2 g2 (hq.up (x1.trans x2))
theorem e_cmp{op:CmpOp}{a b:IE}{p:Nat}(A:HE Γ P a)(B:HE Γ P b):HE Γ P (.cmp op a b p):=by
 intro σ hc k ρ h tk Q E g R hq hx
 obtain⟨h1,h2⟩:=aa hc
 refine wpAny_Compare1 (A σ h1 _ _ h tk _ E g R (λv ρ1 σ1 h1' tk1 x1 s1 R1 g1=>B σ1 h2 _ _ h1' tk1 _ E g1 R1 (λu ρ2 σ2 h2' tk2 x2 s2 R2 g2=>?_) (hx.up x1)) hx) (behind_ok (toE_nset _))
 rw[←x2.1.iv s1]
 exact gCmp_ok R2 g2 λc tk' gk=>hq (.boo c) ρ2 σ2 h2' tk' (x1.trans x2) trivial R2 gk
theorem e_not{a:IE}{p:Nat}(A:HE Γ P a):HE Γ P (.not_ a p):=by
 intro σ hc k ρ h tk Q E g R hq hx
 refine UnaryOp_ (A σ hc _ _ h tk _ E g R (λv ρ1 σ1 h1 tk1 x1 s1 R1 g1=>not_of ?_) hx)
 refine gTruth_ok R1 g1 λc tk' gk=>?_
 rw[neg_eq]at gk
 exact hq (.boo (!c)) ρ1 σ1 h1 tk' x1 trivial R1 gk
theorem e_ite{t a b:IE}{p:Nat}(T:HT Γ P t)(A:HE Γ P a)(B:HE Γ P b):HE Γ P (.ite t a b p):=by
 intro σ hc k ρ h tk Q E g R hq hx
 refine aa2 (λh1 h2 h3=>?_) hc
 refine IfExp_ (T σ h1 _ _ h tk _ E g R (λc ρ1 σ1 h1' tk1 x1 s1 R1 g1=>?_) hx)
 cases c
 .exact B σ1 h3 _ _ h1' tk1 _ E g1 R1 (hq.up x1) (hx.up x1)
 .exact A σ1 h2 _ _ h1' tk1 _ E g1 R1 (hq.up x1) (hx.up x1)
theorem e_bin{op:Operator}{a b:IE}{p:Nat}(A:HE Γ P a)(B:HE Γ P b):HE Γ P (.bin op a b p):=by
 intro σ hc k ρ h tk Q E g R hq hx
 obtain⟨h1,h2⟩:=aa hc
 refine wpAny_BinOp (A σ h1 _ _ h tk _ E g R (λv ρ1 σ1 h1' tk1 x1 s1 R1 g1=>B σ1 h2 _ _ h1' tk1 _ E g1 R1 (λu ρ2 σ2 h2' tk2 x2 s2 R2 g2=>?_) (hx.up x1)) hx)
 rw[←x2.1.iv s1]
 exact gBin_ok R2 g2 (hq.up (x1.trans x2))
theorem len900{vs:List V}{p:Bool}(g:cd (Nat.ble (len vs) (nat_lit 900)) p=true):(ivs ρ vs).length<=sizeLine/\p=true:=by
 obtain⟨h,g⟩:=cd_e g
 rw[len_eq]at h
 exact⟨by rw[show(ivs ρ vs).length=vs.length from List.length_map ..];exact fits_line (Nat.le_trans (Nat.le_of_ble_eq_true h) (Nat.le_of_ble_eq_true rfl)),g⟩
theorem new_list{vs:List V}{Q:Value->Shared->Prop}(hs:scs ρ.n vs)(hz:(ivs ρ vs).length<=sizeLine)(R:Rl Γ ρ σ h)(g:newK σ (.list (ofV vs)) k=true)(hq:KQ Γ ρ k Q):Γ.wp (newList (ivs ρ vs)) Q E h tk:=by
 refine elEA (λm F cv=>?_)<|R.fr
 exact newList_K F R.nw (λD h' F N lt=>newL_ok R g hq (ofV_sc hs) sgs_of F cv N lt) hz
theorem new_tup{vs:List V}{Q:Value->Shared->Prop}(hs:scs ρ.n vs)(hz:(ivs ρ vs).length<=sizeLine)(R:Rl Γ ρ σ h)(g:newK σ (.tup vs) k=true)(hq:KQ Γ ρ k Q):Γ.wp (newTuple (ivs ρ vs)) Q E h tk:=by
 refine elEA (λm F cv=>?_)<|R.fr
 refine kup_newTuple F R.nw (λD h' F N lt=>?_) hz
 refine new_ok (a:=D) (ob:=tupo (ivs ρ vs) 0) R g 0 default F cv N lt ?_ ⟨hs.up p2_pre.le,by rw[p2_n];exact Nat.lt_succ_self _⟩ trivial λρ' σ' x sc R' g' ev=>?_
 .show tupo _ _=_
  rw[p2_pre.ivs hs,p2_cnt]
 .have:=hq _ ρ' σ' h' tk x sc R' g'
  rw[ev]at this
  exact this
theorem e_lis{a:IE}{p:Nat}(A:HA Γ P a):HE Γ P (.lis a p):=by
 intro σ hc k ρ h tk Q E g R hq hx
 refine List_ (A _ σ hc _ _ h tk _ E g R (λvs ρ1 σ1 h1 tk1 x1 s1 R1 g1=>?_) hx)
 obtain⟨hz,g1⟩:=len900 g1
 exact new_list s1 hz R1 g1 (hq.up x1)
theorem e_tup{a:IE}{p:Nat}(A:HA Γ P a):HE Γ P (.tup a p):=by
 intro σ hc k ρ h tk Q E g R hq hx
 refine Tuple_ (A _ σ hc _ _ h tk _ E g R (λvs ρ1 σ1 h1 tk1 x1 s1 R1 g1=>?_) hx)
 obtain⟨hz,g1⟩:=len900 g1
 exact new_tup s1 hz R1 g1 (hq.up x1)
theorem e_emp{b:Bool}{p:Nat}:HE Γ P (.emp b p):=by
 intro σ hc k ρ h tk Q E g R hq hx
 refine elEA (λm F0 cv=>?_)<|R.fr
 refine newDict_K F0 R.nw (Top.nolimit R.tp) λd h' o F N lt ns hs _ hi _=>?_
 have g:newK σ (λo=>bi b (.dS o []) (.dI o [])) k=true:=g
 refine new_ok (a:=d) (ob:=o) R g 0 o F cv N lt ?_ ?_ ?_ λρ' σ' x sc R' g' ev=>?_
 .cases b<;>exact p2_obj
 .cases b<;>exact⟨(λ_ h=>nomatch h),by rw[p2_n];exact Nat.lt_succ_self _⟩
 .cases b
  .exact⟨by rw[p2_obj];exact hi,ns⟩
  .exact⟨⟨[],by rw[p2_obj];exact hs,Nat.le_refl _,λ_=>rfl⟩,ns⟩
 .have:=hq _ ρ' σ' h' tk x sc R' g'
  rw[ev]at this
  exact this
theorem e_met(hP:PG lv P Γ\/NoF P){o:IE}{i p q:Nat}{a:IE}(O:HE Γ P o)(A:HA Γ P a):HE Γ P (.met o i a p q):=by
 intro σ hc k ρ h tk Q E g R hq hx
 refine aa4 (λh2 hl hp h3 h4=>?_) hc
 refine MethodCall_ (O σ h3 _ _ h tk _ E g R (λov ρ1 σ1 h1 tk1 x1 s1 R1 g1=>?_) hx) (eval_met (atm_e h2) (toL_nstar _) (Nat.le_of_ble_eq_true hl) hp)
 exact gM_ok R1 g1 λm fv first tk2 gm M=>callM hP A h4 R1 M gm (hq.up x1) (hx.up x1)
theorem e_cal(hN:Nm Γ)(hP:PG lv P Γ){f a p q:Nat}{as:IE}(A:IrOk Γ P as):HE Γ P (.cal f a as p q):=by
 intro σ hc k ρ h tk Q E g R hq hx
 refine aa3 (λh1 h2 h3 h4=>?_) hc
 refine Call_ (hN.glo h1 (gv_e h2) R (callW A.a h4 (fk_all _ (List.contains_iff_mem.mp h3)) R g (λvs ρ1 σ1 h1 tk1 x1 s1 R1 g1=>?_) hx)) eval_call
 exact call_ok hP R1 s1 g1 (hq.up x1) (hx.up x1)
theorem e_new(hN:Nm Γ)(hP:PG lv P Γ){f a p q:Nat}{as:IE}(A:IrOk Γ P as):HE Γ P (.new f a as p q):=by
 intro σ hc k ρ h tk Q E g R hq hx
 refine aa3 (λh1 h2 h3 h4=>?_) hc
 obtain⟨r,hr⟩:=Option.isSome_iff_exists.mp h3
 refine Call_ (hN.glo h1 (gv_e h2) R (callW A.a h4 (cls_ok hr).keep R g (λvs ρ1 σ1 h1 tk1 x1 s1 R1 g1=>?_) hx)) eval_call
 exact gNew_ok hP R1 s1 g1 (hq.up x1) (hx.up x1)
theorem bnm_ok(b:Bf)(hb:btyp b=""):nsIn (KF w) mainGlobals (nm (bnm b))=some none/\bootBuiltins (nm (bnm b))=some (bval b):=by
 cases b<;>first|(exact absurd hb (by decide+kernel))|skip
 .exact⟨bn_len,bb_len⟩
 .exact⟨bn_str,bb_str⟩
 .exact⟨bn_sum,bb_sum⟩
 .exact⟨bn_sorted,bb_sorted⟩
 .exact⟨bn_list,bb_list⟩
theorem bnm_nd(b:Bf):nm (bnm b)≠"__name__"/\(nm (bnm b)==("__debug__":Str))=false:=by
 cases b<;>decide+kernel
theorem tnm_nd(b:Bf):nm (tnm b)≠"__name__"/\(nm (tnm b)==("__debug__":Str))=false:=by
 cases b<;>decide+kernel
theorem isi_ok(b:Bf)(hb:btyp b≠""):nsIn (KF w) mainGlobals (nm (bnm b))=some none/\bootBuiltins (nm (bnm b))=some (.builtin "isinstance")/\nsIn (KF w) mainGlobals (nm (tnm b))=some none/\bootBuiltins (nm (tnm b))=some (.type (btyp b)):=by
 cases b<;>first|(exact absurd rfl hb)|skip
 .exact mkAAA bn_isinstance bb_isinstance bn_str bb_str
 .exact mkAAA bn_isinstance bb_isinstance bn_tuple bb_tuple
 .exact mkAAA bn_isinstance bb_isinstance bn_int bb_int
theorem callT{v:Value}(hv:(∃s,v=.builtin s)\/∃s,v=.type s){e:Expr}{rest:List Expr}{env:Env}{pos:Pos}{A:Around}{s:Shared}{Q:Value->Shared->Prop}
 (h:wpAny (model prog w) A (spliced (backTo pos (starEach (e::rest) env))) (λvs s₁=>wpAny (model prog w) A (call v vs) Q E s₁) E s)(he:starEach (e::rest) env=(false,eval e env)::starEach rest env)(hp:(backTo pos (starEach rest env)).any (·.1)=false):
 wpAny (model prog w) A (callWith pos v [] (backTo pos (starEach (e::rest) env)) []) Q E s:=by
 rcases hv with⟨s,rfl⟩|⟨s,rfl⟩
 .exact callWith_builtin1 h he hp
 .exact PyProof.Rows.callWith_type1 h he hp
theorem bval_bt(b:Bf)(hb:btyp b=""):(∃s,bval b=.builtin s)\/∃s,bval b=.type s:=by
 cases b<;>first|(exact absurd hb (by decide+kernel))|exact .inl ⟨_,rfl⟩|exact .inr ⟨_,rfl⟩
theorem e_blt(hN:Nm Γ)(hP:PG lv P Γ){b:Bf}{a:IE}{p q:Nat}(A:HA Γ P a):HE Γ P (.blt b a p q):=by
 intro σ hc k ρ h tk Q E g R hq hx
 refine aa3 (λh1 h2 h3 h4=>?_) hc
 have hb:btyp b="":=eq_of_beq h1
 obtain⟨n1,n2⟩:=bnm_ok (w:=w) b hb
 refine Call_ (hN.blt (eq_of_beq h2) n1 n2 (bnm_nd b).1 (bnm_nd b).2 R ?_) eval_call
 have hv:=bval_bt b hb
 have g:((ev a).a P σ λvs σ=>gBlt b vs σ k)=true:=g
 clear hc h1 h2
 cases a<;>first|exact ff h4|exact ff h3|skip
 exact callT hv (A _ σ h4 _ _ h tk _ E g R (λvs ρ1 σ1 h1 tk1 x1 s1 R1 g1=>gBlt_ok hP.nh hb R1 g1 (hq.up x1)) hx) (star_cons (toE_nstar _)) (star_any (toL_nstar _))
theorem e_isi(hN:Nm Γ){b:Bf}{a:IE}{p q r:Nat}(A:HE Γ P a):HE Γ P (.isi b a p q r):=by
 intro σ hc k ρ h tk Q E g R hq hx
 refine aa3 (λh1 h2 h3 h4=>?_) hc
 have hb:btyp b≠"":=by simpa using h1
 refine elAAA (λn1 n2 n3 n4=>?_)<|isi_ok (w:=w) b hb
 refine Call_ (hN.blt (eq_of_beq h2) n1 n2 (bnm_nd b).1 (bnm_nd b).2 R (callWith_builtin1 (args_cons (A σ h4 _ _ h tk _ E g R (λv ρ1 σ1 h1 tk1 x1 s1 R1 g1=>?_) hx) (star_cons (toE_nstar _))) (star_cons (toE_nstar _)) rfl)) eval_call
 exact args_cons (hN.blt (eq_of_beq h3) n3 n4 (tnm_nd b).1 (tnm_nd b).2 R1 (args_nil (gIsi_ok hb R1 g1 (hq.up x1)))) rfl
theorem t_cmp{op:CmpOp}{a b:IE}{p:Nat}(A:HE Γ P a)(B:HE Γ P b):HT Γ P (.cmp op a b p):=by
 intro σ hc k ρ h tk Q E g R hq hx
 obtain⟨h1,h2⟩:=aa hc
 refine wpAny_isTrue_Compare1 (A σ h1 _ _ h tk _ E g R (λv ρ1 σ1 h1' tk1 x1 s1 R1 g1=>B σ1 h2 _ _ h1' tk1 _ E g1 R1 (λu ρ2 σ2 h2' tk2 x2 s2 R2 g2=>?_) (hx.up x1)) hx) (behind_ok (toE_nset _))
 rw[←x2.1.iv s1]
 exact gCmp_ok R2 g2 λc tk' gk=>wpAny_truthy_bool (hq c ρ2 σ2 h2' tk' (x1.trans x2) trivial R2 gk)
theorem t_not{a:IE}{p:Nat}(A:HT Γ P a):HT Γ P (.not_ a p):=by
 intro σ hc k ρ h tk Q E g R hq hx
 refine isTrue_not (A σ hc _ _ h tk _ E g R (λc ρ1 σ1 h1 tk1 x1 s1 R1 g1=>?_) hx)
 rw[neg_eq]at g1
 exact hq (!c) ρ1 σ1 h1 tk1 x1 trivial R1 g1
theorem t_pl{a:IE}(A:HE Γ P a):HT Γ P (.pl a):=by
 intro σ hc k ρ h tk Q E g R hq hx
 obtain⟨h1,h2⟩:=aa hc
 exact isTrue_plain (A σ h2 _ _ h tk _ E g R (λv ρ1 σ1 h1 tk1 x1 s1 R1 g1=>gTruth_ok R1 g1 λc tk' gk=>hq c ρ1 σ1 h1 tk' x1 trivial R1 gk) hx) (pln_e (e:=a) h1)
theorem a_nil:HA Γ P .nil:=by
 intro pos σ hc k ρ h tk Q E g R hq hx
 exact args_nil (hq [] ρ σ h tk .refl (λ_ h=>nomatch h) R g)
theorem a_cns{a b:IE}(A:HE Γ P a)(B:HA Γ P b):HA Γ P (.cns a b):=by
 intro pos σ hc k ρ h tk Q E g R hq hx
 obtain⟨h1,h2⟩:=aa hc
 refine args_cons (A σ h1 _ _ h tk _ E g R (λv ρ1 σ1 h1' tk1 x1 s1 R1 g1=>B _ σ1 h2 _ _ h1' tk1 _ E g1 R1 (λvs ρ2 σ2 h2' tk2 x2 s2 R2 g2=>?_) (hx.up x1)) hx) (star_cons (toE_nstar _))
 rw[←x2.1.iv s1]
 refine hq (v::vs) ρ2 σ2 h2' tk2 (x1.trans x2) (λy hy=>?_) R2 g2
 rcases List.mem_cons.mp hy with rfl|hy
 .exact s1.up x2.1.le
 .exact s2 y hy
noncomputable abbrev HB(Γ:Fx prog w)(P:Pm)(e:IE):Prop:=∀op pos σ,(wf e).b Γ.env.scope=true->HH Γ P.x iv V.sc (eval (.BoolOp op (toL e) pos) Γ.env) σ (λk=>(ev e).b P op σ k)
noncomputable abbrev HTB(Γ:Fx prog w)(P:Pm)(e:IE):Prop:=∀op pos whole σ,(wf e).tb Γ.env.scope=true->HH Γ P.x SB sB (isTrue (.BoolOp op (toL e) pos) Γ.env whole) σ (λk=>(ev e).tb P op σ k)
theorem b_cns{a b:IE}(A:HE Γ P a)(B:HB Γ P b):HB Γ P (.cns a b):=by
 intro op pos σ hc k ρ h tk Q E g R hq hx
 obtain⟨h1,h2⟩:=aa hc
 by_cases hb:b=.nil
 .subst hb
  exact BoolOp_one (A σ h1 _ _ h tk _ E g R hq hx)
 have h2:(wf b).b Γ.env.scope=true:=by clear hc g B;cases b<;>first|exact absurd rfl hb|exact h2
 have hl:∃e r,toL b=e::r:=by clear hc g B;cases b<;>first|exact absurd rfl hb|exact ff h2|exact⟨_,_,rfl⟩
 refine elEE (λe r g229=>?_) hl;revert g229;clear hl;intro hl
 have H:=λop=>B op (dp 0)
 have g:((ev a).e P σ λv σ=>gTruth v σ λc σ=>bo2 op c ((ev b).b P op σ k) (k v σ))=true:=by clear hc B H h2 hl;cases b<;>first|exact absurd rfl hb|exact g
 show Γ.wp (eval (.BoolOp op (toE a::toL b) pos) Γ.env) Q E h tk
 have B':=B op pos
 rw[hl]at B'⊢
 cases op with
 |And=>
  refine BoolOp_and (A σ h1 _ _ h tk _ E g R (λv ρ1 σ1 h1' tk1 x1 s1 R1 g1=>gTruth_ok R1 g1 λc tk' gk=>?_) hx)
  cases c
  .exact hq v ρ1 σ1 h1' tk' x1 s1 R1 gk
  .exact B' σ1 h2 _ _ h1' tk' _ E gk R1 (hq.up x1) (hx.up x1)
 |Or=>
  refine BoolOp_or (A σ h1 _ _ h tk _ E g R (λv ρ1 σ1 h1' tk1 x1 s1 R1 g1=>gTruth_ok R1 g1 λc tk' gk=>?_) hx)
  cases c
  .exact B' σ1 h2 _ _ h1' tk' _ E gk R1 (hq.up x1) (hx.up x1)
  .exact hq v ρ1 σ1 h1' tk' x1 s1 R1 gk
theorem tb_nil:HTB Γ P .nil:=by
 intro op pos whole σ hc k ρ h tk Q E g R hq hx
 cases op
 .exact isTrue_and_nil (hq true ρ σ h tk .refl trivial R g)
 .exact isTrue_or_nil (hq false ρ σ h tk .refl trivial R g)
theorem tb_cns{a b:IE}(A:HT Γ P a)(B:HTB Γ P b):HTB Γ P (.cns a b):=by
 intro op pos whole σ hc k ρ h tk Q E g R hq hx
 obtain⟨h1,h2⟩:=aa hc
 cases op with
 |And=>
  refine isTrue_and (A σ h1 _ _ h tk _ E g R (λc ρ1 σ1 h1' tk1 x1 s1 R1 g1=>?_) hx)
  cases c
  .exact hq false ρ1 σ1 h1' tk1 x1 trivial R1 g1
  .exact B _ _ _ σ1 h2 _ _ h1' tk1 _ E g1 R1 (hq.up x1) (hx.up x1)
 |Or=>
  refine isTrue_or (A σ h1 _ _ h tk _ E g R (λc ρ1 σ1 h1' tk1 x1 s1 R1 g1=>?_) hx)
  cases c
  .exact B _ _ _ σ1 h2 _ _ h1' tk1 _ E g1 R1 (hq.up x1) (hx.up x1)
  .exact hq true ρ1 σ1 h1' tk1 x1 trivial R1 g1
noncomputable abbrev HDp(Γ:Fx prog w)(P:Pm)(e:IE):Prop:=∀pos σ,(wf e).d Γ.env.scope=true->HD Γ P.x (evalPairs (pairTrees (tt e).k (tt e).w Γ.env pos)) σ (λk=>(ev e).d P σ k)
theorem d_nil:HDp Γ P .nil:=by
 intro pos σ hc k ρ h tk Q E g R hq hx
 exact pairTrees_nil_walk (hq [] [] ρ σ h tk .refl (λ_ h=>nomatch h) rfl rfl R g)
theorem d_dcn{j p:Nat}{v r:IE}(A:HE Γ P v)(B:HDp Γ P r):HDp Γ P (.dcn j p v r):=by
 intro pos σ hc k ρ h tk Q E g R hq hx
 obtain⟨h1,h2⟩:=aa hc
 refine pairTrees_cons_walk (Constant_str (A σ h1 _ _ h _ _ E g R (λx ρ1 σ1 h1 tk1 x1 s1 R1 g1=>B pos σ1 h2 _ _ h1 tk1 _ E g1 R1 (λkvs ps ρ2 σ2 h2 tk2 x2 s2 a2 p2 R2 g2=>?_) (hx.up x1)) hx))
 refine hq ((j,x)::kvs) ((.str (nm j) _,iv ρ1 x)::ps) ρ2 σ2 h2 tk2 (x1.trans x2) (λq hq=>?_) a2 ?_ R2 g2
 .rcases List.mem_cons.mp hq with rfl|hq
  .exact s1.up x2.1.le
  .exact s2 q hq
 .show(nm j,iv ρ1 x)::strPairs ps=(nm j,iv ρ2 x)::_
  rw[p2,x2.1.iv s1]
theorem nodB_ok:∀{l:List Nat},nodB l=true->l.Nodup
 |[],_=>.nil
 |x::r,h=>by
  have h:bi (mem x r) false (nodB r)=true:=h
  rcases bi_e h with⟨-,h⟩|⟨hm,h⟩
  .cases h
  .exact List.nodup_cons.mpr ⟨λm=>Bool.noConfusion ((mem_eq.mpr m).symm.trans hm),nodB_ok h⟩
theorem fst_eq:∀{l:List (Nat×V)},(List.rec [] (λp _ ih=>p.1::ih) l:List Nat)=l.map (·.1)
 |[]=>rfl
 |p::r=>congrArg (p.1::·) (fst_eq (l:=r))
theorem nm_nod{l:List (Nat×V)}{f:Nat×V->Value}(h:(l.map (·.1)).Nodup):((l.map λp=>(nm p.1,f p)).map (·.1)).Nodup:=by
 rw[List.map_map]
 rw[show(Prod.fst∘λp=>(nm p.1,f p))=nm∘(λp:Nat×V=>p.1)from rfl,←List.map_map]
 exact List.Pairwise.map _ (λ_ _ hn e=>hn (nm_inj e)) h
theorem e_dic{a:IE}{p:Nat}(A:∀I ot,HDp (Γ.it I ot) P a):HE Γ P (.dic a p):=by
 intro σ hc k ρ h tk Q E g R hq hx
 refine aa2 (λh1 h2 h3=>?_) hc
 refine elEA (λm F0 cv=>?_)<|R.fr
 refine kdn_eval (knd:=PySem.strKind prog w) F0 R.nw (Top.nolimit R.tp) (toK_ok a).1 (toK_ok a).2 (λe=>?_) (Nat.le_of_ble_eq_true h2) λd h' o F N lt ns hs=>?_
 .have e1:(tt a).k.length=0:=congrArg List.length e
  have:=Nat.le_of_ble_eq_true h1
  omega
 have R1:Rl (Γ.it d o) ρ σ h':=it_add R F cv (λp hp=>Nat.ne_of_lt (lt p hp)) N
 refine A d o _ σ h3 _ ρ h' tk _ E g R1 (λkvs ps ρ2 σ2 h2 tk2 x2 s2 a2 p2 R2 g2=>?_) (EX.it hx)
 obtain⟨hn,g2⟩:=cd_e g2
 rw[fst_eq]at hn
 refine elEA (λm2 F2 cv2=>?_)<|R2.fr
 have R3:=it_drop R2
 refine kdn_made_str (s:=Γ.sh h2 tk2) (g:=λx=>(d,x)::Γ.lg ρ2 σ2) F2 (news_perm R2.nw it_perm.symm) (UpdF.of_nd (nd_perm R2.nd it_perm.symm) .head) hs a2 (by rw[p2];exact nm_nod (nodB_ok hn)) λh4 o' F4 N4 D4=>?_
 rw[p2]at D4
 refine new_neX (a:=d) (ob:=o') R3 g2 0 o' F4 cv2 N4 (it_off R2) p2_obj ⟨λq hq=>(s2 q hq).up p2_pre.le,by rw[p2_n];exact Nat.lt_succ_self _⟩ ⟨⟨_,?_,by rw[List.length_map];exact Nat.le_refl _,λj=>valueAt_S kvs⟩,ns⟩ λρ' σ' x sc R' g' ev _ _ _=>?_
 .rw[p2_obj,show List.map (λp=>(nm p.1,iv (ρ2.p2 d 0 o') p.2)) kvs=List.map (λp=>(nm p.1,iv ρ2 p.2)) kvs from List.map_congr_left λp hp=>congrArg (Prod.mk _) (p2_pre.iv (s2 p hp))]
  exact D4
 .have:=hq _ ρ' σ' h4 (tk2+ps.length) (x2.trans x) sc R' g'
  rw[ev]at this
  exact this
end
end Mine.Q
namespace Mine.Q
section
variable{prog:Program}{w:World}{lv:Bool}{Γ:Fx prog w}{P:Pm}{ρ ρ':Rho}{σ:S}{h h':Heap}{tk n d:Nat}{k:KV}{E:Value->Shared->Prop}
theorem forIn_fold{α β:Type}{f:α->β->Sem (ForInStep β)}{g:α->β->β}:∀{l:List α} (c:β),(∀x∈l,∀c,f x c=pure (.yield (g x c)))->forIn l c f=pure (l.foldl (λc x=>g x c) c)
 |[],c,_=>rfl
 |x::l,c,h=>by
  rw[List.forIn_cons,h x (.head _),pure_bind]
  exact forIn_fold _ λy hy=>h y (.tail _ hy)
noncomputable def clsG(cells:List (Str×Addr))(x:Str×NameKind)(cs:List (Str×Addr)):List (Str×Addr):=if x.2==.free then(x.1,(cells.lookup x.1).getD 0)::cs else cs
noncomputable def clsL(cells:List (Str×Addr))(names:List (Str×NameKind))(acc:List (Str×Addr)):List (Str×Addr):=names.foldl (λc x=>clsG cells x c) acc
theorem clos_eq{sc:Scope}{env:Env}(h:∀y∈sc.names,y.2=.free->∃c,env.cells.lookup y.1=some c):closureFor sc env=pure (clsL env.cells sc.names []):=by
 simp only[closureFor]
 rw[forIn_fold (g:=clsG env.cells) [] λx hx c=>?_]
 .rfl
 .obtain⟨n,kind⟩:=x
  unfold clsG
  by_cases e:kind=.free
  .subst e
   obtain⟨c',hc⟩:=h _ hx rfl
   have hc:env.cells.lookup n=some c':=hc
   simp[cellOf,hc]
  .have:(kind==NameKind.free)=false:=by simpa using e
   simp[this]
theorem cls_lk{cells:List (Str×Addr)}{x:Str}{c:Addr}(hc:cells.lookup x=some c):∀(names:List (Str×NameKind)) (acc:List (Str×Addr)),(∀p∈acc,p.1=x->p.2=c)->((∃p∈acc,p.1=x)\/∃p∈names,p.1=x/\p.2=.free)->(clsL cells names acc).lookup x=some c
 |[],acc,h1,h2=>by
  show acc.lookup x=some c
  rcases h2 with h2|⟨_,h,_⟩
  .induction acc with
   |nil=>refine elEA (λ_ h _=>?_) h2;clear h2;cases h
   |cons p r ih=>
    rw[List.lookup_cons]
    rcases e:x==p.1 with _|_
    .refine ih (λq hq=>h1 q (.tail _ hq)) ?_
     refine elEA (λq hq eq=>?_) h2;clear h2
     rcases List.mem_cons.mp hq with rfl|hq
     .rw[eq,beq_self_eq_true]at e;cases e
     .exact⟨q,hq,eq⟩
    .exact congrArg some (h1 p (.head _) (eq_of_beq e).symm)
  .cases h
 |y::names,acc,h1,h2=>by
  show(clsL cells names (clsG cells y acc)).lookup x=some c
  refine cls_lk hc names _ (λp hp e=>?_) ?_
  .unfold clsG at hp
   split at hp
   .rcases List.mem_cons.mp hp with rfl|hp
    .show(cells.lookup y.1).getD 0=c
     rw[show y.1=x from e,hc];rfl
    .exact h1 p hp e
   .exact h1 p hp e
  .rcases h2 with⟨p,hp,e⟩|⟨p,hp,e⟩
   .refine .inl ⟨p,?_,e⟩
    unfold clsG
    split
    .exact .tail _ hp
    .exact hp
   .rcases List.mem_cons.mp hp with rfl|hp
    .refine .inl ⟨(p.1,(cells.lookup p.1).getD 0),?_,e.1⟩
     unfold clsG
     rw[e.2]
     exact .head _
    .exact .inr ⟨p,hp,e⟩
theorem rel_lk{cs:Scope}{x:Str}:∀{names:List (Str×NameKind)},(names.map λ(n,k)=>if(k==.free&&cs.kind==.function&&cs.names.lookup n==some .cell)then(n,NameKind.cell)else(n,k)).lookup x=(names.lookup x).map λk=>if(k==.free&&cs.kind==.function&&cs.names.lookup x==some .cell)then NameKind.cell else k
 |[]=>rfl
 |(n,k)::r=>by
  show List.lookup x ((if _ then(n,NameKind.cell)else(n,k))::_)=_
  have ih:=@rel_lk cs x r
  rcases e:x==n with _|_
  .rw[show List.lookup x ((n,k)::r)=List.lookup x r by rw[List.lookup_cons,e],←ih]
   split<;>simp[List.lookup_cons,e]
  .obtain rfl:=eq_of_beq e
   rw[show List.lookup x ((x,k)::r)=some k by rw[List.lookup_cons,e]]
   by_cases q:(k==NameKind.free&&cs.kind==.function&&cs.names.lookup x==some .cell)=true
   .rw[if_pos q]
    show _=some (if _ then _ else _)
    rw[if_pos q,List.lookup_cons,e]
   .rw[if_neg q]
    show _=some (if _ then _ else _)
    rw[if_neg q,List.lookup_cons,e]
theorem toSc_lk{sn:List (Nat×Nat)}{x:Str}{k:NameKind}(h:(toSc sn).names.lookup x=some k):k≠.cell:=by
 have:∀y∈(toSc sn).names,y.2≠.cell:=λy hy=>by
  refine elEA (λz hz r230=>?_)<|List.mem_map.mp hy;subst r230
  show(match z.2 with|0=>NameKind.local|1=>.globalImplicit|_=>.free)≠.cell
  split<;>exact λe=>NameKind.noConfusion e
 have hm:(x,k)∈(toSc sn).names:=by
  generalize (toSc sn).names=l at h
  induction l with
  |nil=>cases h
  |cons p r ih=>
   rw[List.lookup_cons]at h
   rcases e:x==p.1 with _|_
   .rw[e]at h;exact .tail _ (ih h)
   .rw[e]at h;cases h;rw[eq_of_beq e];exact .head _
 exact this _ hm
theorem toSc_cell{sn:List (Nat×Nat)}:∀y∈(toSc sn).names,y.2≠.cell:=λy hy=>by
 refine elEA (λz hz r231=>?_)<|List.mem_map.mp hy;subst r231
 show(match z.2 with|0=>NameKind.local|1=>.globalImplicit|_=>.free)≠.cell
 split<;>exact λe=>NameKind.noConfusion e
theorem rel_cell{cs:Scope}{sn:List (Nat×Nat)}{x:Str}(h:(relS cs (toSc sn)).names.lookup x=some .cell):(toSc sn).names.lookup x=some .free/\cs.names.lookup x=some .cell:=by
 have h:_=some NameKind.cell:=(rel_lk (cs:=cs) (x:=x) (names:=(toSc sn).names)).symm.trans h
 rcases e:(toSc sn).names.lookup x with _|k
 .rw[e]at h;cases h
 .rw[e]at h
  have h:(if(k==.free&&cs.kind==.function&&cs.names.lookup x==some .cell)then NameKind.cell else k)=.cell:=Option.some.inj h
  split at h
  .rename_i q
   simp only[Bool.and_eq_true,beq_iff_eq]at q
   exact⟨congrArg some q.1.1,q.2⟩
  .exact absurd h (toSc_lk e)
end
end Mine.Q
namespace Mine.Q
section
variable{prog:Program}{w:World}{lv:Bool}{Γ:Fx prog w}{P:Pm}{ρ ρ' ρ2:Rho}{σ σ2:S}{h h' h1 h2:Heap}{tk n d:Nat}{k:KV}{E:Value->Shared->Prop}{m m₂:Str->Option Value}{sn:List (Nat×Nat)}{I C D:Addr}{oI oC oD:Obj}
noncomputable abbrev Fx.cl(Γ:Fx prog w)(sn:List (Nat×Nat)):List (Str×Addr):=clsL Γ.env.cells (toSc sn).names []
noncomputable def Fx.comp(Γ:Fx prog w)(m m₂:Str->Option Value)(sn:List (Nat×Nat))(I C D:Addr)(oI oC oD:Obj):Fx prog w:=
 {Γ with
  env:=compEnvC (toSc sn) (Γ.cl sn) C Γ.env
  its:=(I,oI)::(C,oC)::(D,oD)::Γ.its
  tn:=false
  cov:=λm' ρ σ=>m'=m/\(∀i v,lk σ.vs i=some v->m₂ (nm i)=some (iv ρ v))/\CellsOk Γ ρ
  ct:=λh=>nomatch h
  cx:=λm' ρ ρ' σ σ' x hs ev H=>⟨H.1,λi v h=>by rw[ev]at h;rw[x.iv (hs _ (lk_mem h))];exact H.2.1 i v h,λi n a b=>⟨Nat.lt_of_lt_of_le (H.2.2 i n a b).1 x.le,by rw[x.num (H.2.2 i n a b).1];exact(H.2.2 i n a b).2⟩⟩}
noncomputable def Free(Γ:Fx prog w)(sn:List (Nat×Nat)):Prop:=∀y∈(toSc sn).names,y.2=.free->Γ.env.scope.names.lookup y.1=some .cell
theorem lookup_mem{α:Type}{x:Str}{a:α}:∀{l:List (Str×α)},l.lookup x=some a->(x,a)∈l
 |[],h=>nomatch h
 |p::r,h=>by
  rw[List.lookup_cons]at h
  rcases e:x==p.1 with _|_
  .rw[e]at h;exact .tail _ (lookup_mem h)
  .rw[e]at h;cases h;rw[eq_of_beq e];exact .head _
theorem cl_of(hN:Nm Γ)(hf:Free Γ sn){x:Str}(h:(relS Γ.env.scope (toSc sn)).names.lookup x=some .cell):∃c,Γ.env.cells.lookup x=some c/\(Γ.cl sn).lookup x=some c:=by
 obtain⟨h1,h2⟩:=rel_cell h
 obtain⟨c,hc⟩:=hN.cl _ h2
 exact⟨c,hc,cls_lk hc _ _ (λ_ h=>nomatch h) (.inr ⟨_,lookup_mem h1,rfl,rfl⟩)⟩
theorem PG.comp(hP:PG lv P Γ):PG lv (P0 P) (Γ.comp m m₂ sn I C D oI oC oD):=⟨hP.D,hP.cs,hP.out,hP.nh,hP.all⟩
theorem comp_cells(hN:Nm Γ)(hf:Free Γ sn)(H:CellsOk Γ ρ):CellsOk (Γ.comp m m₂ sn I C D oI oC oD) ρ:=λi n a b=>by
 obtain⟨e,hd⟩:=aa a
 have e:=eq_of_beq e
 refine elEA (λc h1 h2=>?_)<|cl_of hN hf e
 have a':cll Γ.env.scope i=true:=by
  unfold cll
  rw[(rel_cell e).2]
  exact hd
 obtain⟨l,q⟩:=H i n a' b
 rw[h1]at q
 exact⟨l,h2.trans q⟩
theorem Nm.comp(hN:Nm Γ)(hf:Free Γ sn)(hC:LCg.NsObj oC m₂):Nm (Γ.comp m m₂ sn I C D oI oC oD) where
 tn:=rfl
 kd:=rfl
 ga:=hN.ga
 bu:=hN.bu
 cl:=λx h=>by
  refine elEA (λc z232 h=>?_)<|cl_of hN hf h;clear z232
  exact⟨c,h⟩
 cv:=λm ρ σ H=>comp_cells hN hf H.2.2
 loc:=λ{i v ρ σ h tk pos Q E} hc hl R q=>by
  refine elEAAA (λm' F z233 hv z234=>?_)<|R.fr;clear z233 z234
  obtain⟨h2,h3⟩:=knd_e hc
  exact LCgL.ld_own (news:=(Γ.comp m m₂ sn I C D oI oC oD).lg ρ σ) R.nw (List.mem_append_right _ (List.mem_append_right _ (.tail _ (.head _)))) hC (hv i v hl) q rfl h2 h3
 cel:=λ{i n o v ρ σ h tk pos Q E} hc hl ho R q=>by
  refine elEAAA (λm' F z235 z236 H=>?_)<|R.fr;clear z235 z236
  obtain⟨h2,h3⟩:=knd_e hc
  exact lcf_cell (news:=(Γ.comp m m₂ sn I C D oI oC oD).lg ρ σ) R.nw (comp_cells (m:=m) (m₂:=m₂) (I:=I) (C:=C) (D:=D) (oI:=oI) (oC:=oC) (oD:=oD) hN hf H i n hc hl).2 (R.mem ho) (R.oko ho) q rfl h2 h3
 glo:=λ{i v ρ σ h tk pos Q E} hc hv R q=>by
  refine elEA (λm' F z237=>?_)<|R.fr;clear z237
  obtain⟨h2,h3⟩:=knd_e hc
  exact LCgL.ld_global (env:=Γ.env) F R.kn R.tp hv q hN.ga rfl h2 h3
 blt:=λ{i v ρ σ h tk pos Q E} hc hv hb hn hd R q=>by
  refine elEA (λm' F z238=>?_)<|R.fr;clear z238
  exact LCgL.ld_built (env:=Γ.env) F R.kn R.tp hv hb hn q hN.ga hN.bu rfl hc hd
theorem comp_perm{a b c:Lg}{x y z:Addr×Obj}:List.Perm (x::y::z::(a++(b++c))) (a++(b++x::y::z::c)):=
 (List.perm_append_comm_assoc [x,y,z] a (b++c)).trans (List.Perm.append_left a (List.perm_append_comm_assoc [x,y,z] b c))
theorem comp_in(hN:Nm Γ)(R:Rl Γ ρ σ h1)(F:Fr ρ.g Γ.L h m)(cv:Γ.cov m ρ σ)(N:News ρ.g Γ.L h ((I,oI)::(C,oC)::(D,oD)::Γ.lg ρ σ))(ND:(ads ((I,oI)::(C,oC)::(D,oD)::Γ.lg ρ σ)).Nodup):Rl (Γ.comp m m₂ sn I C D oI oC oD) ρ ⟨σ.hp,[],σ.nx⟩ h:=
 ⟨⟨R.ln,R.ok,R.so,(λ_ h=>nomatch h),R.hx,R.ll,R.lh,R.dd⟩,⟨R.kn,R.tp,R.bl,(λh=>nomatch h)⟩,⟨m,F,rfl,(λ_ _ h=>nomatch h),hN.cv _ _ _ cv⟩,news_perm N comp_perm,nd_perm ND comp_perm⟩
theorem comp_out(R:Rl Γ ρ σ h1)(cv:Γ.cov m ρ σ)(x:(Γ.comp m m₂ sn I C D oI oC oD).Ext ρ ρ2)(R2:Rl (Γ.comp m m₂ sn I C D oI oC oD) ρ2 σ2 h2):
 ρ2.g=ρ.g/\Γ.Ext ρ ρ2/\Rl Γ ρ2 ⟨σ2.hp,σ.vs,σ2.nx⟩ h2/\Γ.cov m ρ2 ⟨σ2.hp,σ.vs,σ2.nx⟩/\∀(s:Shared) (T:Lg->Prop) (rest:Value->Lg->Prop) y tk2,T (Γ.lg ρ2 ⟨σ2.hp,σ.vs,σ2.nx⟩)->rest y (Γ.lg ρ2 ⟨σ2.hp,σ.vs,σ2.nx⟩)->
  LCg.CompEnd ρ.g Γ.L m {s with heap:=h,toks:=tk} I oI C oC D oD T rest y {s with heap:=h2,toks:=tk2}:=by
 refine elEAAA (λm' F2 r239 z240 z241=>?_)<|R2.fr;subst r239;clear z240 z241
 have eg:=x.2.2 rfl
 have cv2:Γ.cov m' ρ2 ⟨σ2.hp,σ.vs,σ2.nx⟩:=Γ.cx _ _ _ _ _ x.1 R.sv rfl cv
 have N:=news_perm R2.nw (comp_perm (a:=led w ρ2 σ2.hp) (b:=Γ.rest) (c:=Γ.its)).symm
 have ND:=nd_perm R2.nd (comp_perm (a:=led w ρ2 σ2.hp) (b:=Γ.rest) (c:=Γ.its)).symm
 refine mkAAAA eg (.of x.1 eg) ⟨⟨R2.ln,R2.ok,R2.so,λp hp=>(R.sv p hp).up x.1.le,R2.hx,R2.ll,R2.lh,R2.dd⟩,R.toGd.up eg,⟨m',F2,cv2⟩,λq hq=>N q (.tail _ (.tail _ (.tail _ hq))),((List.nodup_cons.mp ((List.nodup_cons.mp (List.nodup_cons.mp ND).2).2)).2)⟩ cv2 (λs T rest y tk2 hT hr=>?_)
 rw[←eg]
 exact comp_end (s₁:={s with heap:=h,toks:=tk}) F2 N ND (.cons .head (.cons .head (.cons .head .nil))) hT λ_=>hr
end
end Mine.Q
namespace Mine.Q
section
variable{prog:Program}{w:World}{lv:Bool}{Γ:Fx prog w}{P:Pm}{ρ ρ' ρ2:Rho}{σ σ2:S}{h h' h1 h2:Heap}{tk n d i:Nat}{v:V}{x:Value}{E:Value->Shared->Prop}{m m₂:Str->Option Value}{sn:List (Nat×Nat)}{I C D:Addr}{oI oC oD:Obj}
noncomputable def like(ρ:Rho):V->Value->Prop
 |.int as c _,x=>∃t,x=.int (lns ρ as+c) t
 |v,x=>x=iv ρ v/\v.sc ρ.n
theorem like.pre(p:Pre ρ ρ')(l:like ρ v x):like ρ' v x:=by
 cases v
 case int as c t=>
  obtain⟨t,e⟩:=l
  exact⟨t,by rw[p.lns];exact e⟩
 all_goals exact⟨l.1.trans (p.iv l.2).symm,V.sc.up l.2 p.le⟩
theorem like.of(hs:v.sc ρ.n):like ρ v (iv ρ v):=by
 cases v
 case int as c t=>exact⟨_,rfl⟩
 all_goals exact⟨rfl,hs⟩
theorem bindI_e{K:S->Bool}(R:Rl Γ ρ σ h)(l:like ρ v x)(g:bindI i v σ K=true):
 ∃ρ' v' hp' nx',Γ.Ext ρ ρ'/\ρ'.g=ρ.g/\v'.sc ρ'.n/\x=iv ρ' v'/\Rl Γ ρ' ⟨hp',σ.vs,nx'⟩ h/\hp'=σ.hp/\K ⟨hp',(i,v')::σ.vs,nx'⟩=true:=by
 cases v
 case int as c t=>
  obtain⟨t,rfl⟩:=l
  have g:tokK σ (λt' σ=>letK σ i (.int as c t') K)=true:=g
  refine tok_ok R g t default λσ' x lt R' e1 e2 g'=>?_
  obtain⟨hp',vs',nx'⟩:=σ'
  have e2:vs'=σ.vs:=e2
  subst e2
  refine mkEEEEAAAAAA _ (.int as c ρ.n) hp' nx' x rfl lt ?_ R' e1 g'
  show _=Value.int _ _
  rw[push_num,(push_pre (ρ:=ρ) (x:=t) (ob:=default)).lns]
 all_goals exact mkEEEEAAAAAA ρ _ σ.hp σ.nx (.refl) rfl l.2 l.1 R rfl g
theorem Rl.bind(R:Rl Γ ρ σ h)(hv:v.sc ρ.n)(F:Fr ρ.g Γ.L h' m)(cv:Γ.cov m ρ ⟨σ.hp,(i,v)::σ.vs,σ.nx⟩)(N:News ρ.g Γ.L h' (Γ.lg ρ σ)):Rl Γ ρ ⟨σ.hp,(i,v)::σ.vs,σ.nx⟩ h':=
 ⟨⟨R.ln,R.ok,R.so,λp hp=>by
   rcases List.mem_cons.mp hp with rfl|hp
   .exact hv
   .exact R.sv p hp,R.hx,R.ll,R.lh,R.dd⟩,R.toGd,⟨m,F,cv⟩,N,R.nd⟩
theorem comp_bind{lv:List (Nat×V)}{c:Nat}(R:Rl (Γ.comp m m₂ sn I C D oI oC oD) ρ ⟨σ.hp,lv,c⟩ h)(hv:v.sc ρ.n)(hm:m₂ (nm i)=some (iv ρ v)):Rl (Γ.comp m m₂ sn I C D oI oC oD) ρ ⟨σ.hp,(i,v)::lv,c⟩ h:=by
 refine elEAAA (λm' F a b c'=>?_)<|R.fr
 refine Rl.bind (σ:=⟨σ.hp,lv,c⟩) R hv F ⟨a,λj u hj=>?_,c'⟩ R.nw
 have hj:bi (Nat.beq j i) (some v) (lk lv j)=some u:=hj
 rcases e:Nat.beq j i with _|_
 .rw[e]at hj;exact b j u hj
 .rw[e]at hj
  have hj:some v=some u:=hj
  cases hj
  rw[Nat.eq_of_beq_eq_true e];exact hm
theorem noX{x:KX}(hx:∀C c σ,x C c σ=false):EX Γ x ρ E:=λe C c ρ' σ' h' tk' _ _ a=>by rw[hx]at a;cases a
variable{elt:IE}{xi xp:Nat}{chk:S->Bool}{K:List V->S->Bool}{T:Lg->Prop}{Pv:Nat->Value->Prop}{Fin:List Value->Lg->Prop}{ρ₀:Rho}{h0:Heap}{tk0:Nat}
theorem ivs_snoc{ys:List V}{y:V}(x:Pre ρ ρ')(hs:scs ρ.n ys):ivs ρ' (ys++[y])=ivs ρ ys++[iv ρ' y]:=by
 unfold ivs
 rw[List.map_append]
 exact congrArg (·++_) (x.ivs hs)
theorem scs_snoc{ys:List V}{y:V}(x:Pre ρ ρ')(hs:scs ρ.n ys)(hy:y.sc ρ'.n):scs ρ'.n (ys++[y]):=λv hv=>(List.mem_append.mp hv).elim (λh=>(hs v h).up x.le) λh=>by rw[List.mem_singleton.mp h];exact hy
theorem acc_snoc{acc:List V->List V}{ys:List V}{y:V}(h:∀l,acc l=ys++l):∀l,acc (y::l)=(ys++[y])++l:=λl=>by rw[h,List.append_assoc];rfl
theorem item_tail{vs:List V}{v:V}(h:∀(j:Nat) u,(v::vs)[j]?=some u->∀x,Pv (i+j) x->like ρ u x)(p:Pre ρ ρ'):∀(j:Nat) u,vs[j]?=some u->∀x,Pv (i+1+j) x->like ρ' u x:=λj u hj x hx=>
 (h (j+1) u (by simpa using hj) x (by rwa[show i+(j+1)=i+1+j by omega])).pre p
theorem rest_U(hP:PG lv P Γ)(hN:Nm Γ)(hf:Free Γ sn)(A:∀(Γ':Fx prog w) P',PG lv P' Γ'->Nm Γ'->IrOk Γ' P' elt)(hw:(wf elt).e (relS Γ.env.scope (toSc sn))=true)
 (hT:∀ρ' σ' h',Γ.Ext ρ₀ ρ'->Rl Γ ρ' σ' h'->chk σ'=true->T (Γ.lg ρ' σ'))
 (hfin:∀ys ρ' σ' h',Γ.Ext ρ₀ ρ'->ρ'.g=ρ₀.g->scs ρ'.n ys->Rl Γ ρ' σ' h'->Γ.cov m ρ' σ'->K ys σ'=true->Fin (ivs ρ' ys) (Γ.lg ρ' σ')):
 ∀(vs:List V) (i:Nat) (acc:List V->List V) (ys:List V) (ρ:Rho) (σ:S) (h₁:Heap),Γ.Ext ρ₀ ρ->ρ.g=ρ₀.g->(∀l,acc l=ys++l)->Rl Γ ρ σ h₁->Γ.cov m ρ σ->scs ρ.n ys->(∀(j:Nat) v,vs[j]?=some v->∀x,Pv (i+j) x->like ρ v x)->
  vLc (P0 P) (ev elt) [(xi,xp)] 0 none σ.vs chk vs acc σ K=true->
  LCg.CompRest prog w Γ.A ρ₀.g Γ.L m Γ.env (toE elt) (nm xi) (toSc sn) (Γ.cl sn) (Γ.sh h0 tk0) T Pv Fin vs.length i (ivs ρ ys) (Γ.lg ρ σ)
 |[],i,acc,ys,ρ,σ,h₁,x0,eg,ha,R,cv,hs,hi,g=>by
  have g:K (acc []) σ=true:=g
  rw[ha,List.append_nil]at g
  exact hfin ys ρ σ h₁ x0 eg hs R cv g
 |v::vs,i,acc,ys,ρ,σ,h₁,x0,eg,ha,R,cv,hs,hi,g=>by
  have g:bindI xi v ⟨σ.hp,[],σ.nx⟩ (λσ'=>(ev elt).e (P0 P) σ' λy σ''=>cd (chk ⟨σ''.hp,σ.vs,σ''.nx⟩) (vLc (P0 P) (ev elt) [(xi,xp)] 0 none σ.vs chk vs (λl=>acc (y::l)) ⟨σ''.hp,σ.vs,σ''.nx⟩ K))=true:=g
  refine LCg.CompRest.succ λx I oI C oC D m₂ h tk E' px hC hx F N off ne=>?_
  rw[←eg]at F N⊢
  have R0:=comp_in (m₂:=m₂) (sn:=sn) hN R F cv N (nd_off3 N R.nd off ne)
  refine elEEEEAAAAAA (λρ1 v' hp' nx' x1 eg1 sc1 ex R1 r242 g1=>?_)<|bindI_e R0 (hi 0 v rfl x px) g;subst r242
  have R2:=comp_bind (σ:=σ) R1 sc1 (hx.trans (congrArg some ex))
  refine(A _ (P0 P) hP.comp (hN.comp hf hC)).e _ hw _ ρ1 h tk _ E' g1 R2 (λy ρ2 σ2 h2 tk2 x2 s2 R3 g3=>?_) (noX λ_ _ _=>rfl)
  obtain⟨hc,g3⟩:=cd_e g3
  refine elAAAA (λeg2 x3 R4 cv4 fin=>?_)<|comp_out (h:=h) (tk:=tk) R cv (x1.trans x2) R3
  refine fin _ _ _ _ tk2 (hT _ _ _ (x0.trans x3) R4 hc) ?_
  have:=rest_U hP hN hf A hw hT hfin vs (i+1) _ (ys++[y]) ρ2 _ _ (x0.trans x3) (eg2.trans eg) (acc_snoc ha) R4 cv4 (scs_snoc x3.1 hs s2) (item_tail hi x3.1) g3
  rw[ivs_snoc x3.1 hs]at this
  rw[eg]
  exact this
theorem rest_T{ct:IE}(hP:PG lv P Γ)(hN:Nm Γ)(hf:Free Γ sn)(A:∀(Γ':Fx prog w) P',PG lv P' Γ'->Nm Γ'->IrOk Γ' P' elt)(B:∀(Γ':Fx prog w) P',PG lv P' Γ'->Nm Γ'->IrOk Γ' P' ct)(hw:(wf elt).e (relS Γ.env.scope (toSc sn))=true)(hw2:(wf ct).t (relS Γ.env.scope (toSc sn))=true)
 (hT:∀ρ' σ' h',Γ.Ext ρ₀ ρ'->Rl Γ ρ' σ' h'->chk σ'=true->T (Γ.lg ρ' σ'))
 (hfin:∀ys ρ' σ' h',Γ.Ext ρ₀ ρ'->ρ'.g=ρ₀.g->scs ρ'.n ys->Rl Γ ρ' σ' h'->Γ.cov m ρ' σ'->K ys σ'=true->Fin (ivs ρ' ys) (Γ.lg ρ' σ')):
 ∀(vs:List V) (i:Nat) (acc:List V->List V) (ys:List V) (ρ:Rho) (σ:S) (h₁:Heap),Γ.Ext ρ₀ ρ->ρ.g=ρ₀.g->(∀l,acc l=ys++l)->Rl Γ ρ σ h₁->Γ.cov m ρ σ->scs ρ.n ys->(∀(j:Nat) v,vs[j]?=some v->∀x,Pv (i+j) x->like ρ v x)->
  vLc (P0 P) (ev elt) [(xi,xp)] 0 (some (ev ct)) σ.vs chk vs acc σ K=true->
  LCt.CompRestT prog w Γ.A ρ₀.g Γ.L m Γ.env (toE ct) (toE elt) (nm xi) (toSc sn) (Γ.cl sn) (Γ.sh h0 tk0) T Pv Fin vs.length i (ivs ρ ys) (Γ.lg ρ σ)
 |[],i,acc,ys,ρ,σ,h₁,x0,eg,ha,R,cv,hs,hi,g=>by
  have g:K (acc []) σ=true:=g
  rw[ha,List.append_nil]at g
  exact hfin ys ρ σ h₁ x0 eg hs R cv g
 |v::vs,i,acc,ys,ρ,σ,h₁,x0,eg,ha,R,cv,hs,hi,g=>by
  have g:bindI xi v ⟨σ.hp,[],σ.nx⟩ (λσ'=>(ev ct).t (P0 P) σ' λb σ'=>bi b ((ev elt).e (P0 P) σ' λy σ''=>cd (chk ⟨σ''.hp,σ.vs,σ''.nx⟩) (vLc (P0 P) (ev elt) [(xi,xp)] 0 (some (ev ct)) σ.vs chk vs (λl=>acc (y::l)) ⟨σ''.hp,σ.vs,σ''.nx⟩ K))
   (cd (chk ⟨σ'.hp,σ.vs,σ'.nx⟩) (vLc (P0 P) (ev elt) [(xi,xp)] 0 (some (ev ct)) σ.vs chk vs acc ⟨σ'.hp,σ.vs,σ'.nx⟩ K)))=true:=g
  refine LCt.CompRestT.succ λx I oI C oC D m₂ h tk E' px hC hx F N off ne=>?_
  rw[←eg]at F N⊢
  have R0:=comp_in (m₂:=m₂) (sn:=sn) hN R F cv N (nd_off3 N R.nd off ne)
  refine elEEEEAAAAAA (λρ1 v' hp' nx' x1 eg1 sc1 ex R1 r243 g1=>?_)<|bindI_e R0 (hi 0 v rfl x px) g;subst r243
  have R2:=comp_bind (σ:=σ) R1 sc1 (hx.trans (congrArg some ex))
  refine(B _ (P0 P) hP.comp (hN.comp hf hC)).t _ hw2 _ ρ1 h tk _ E' g1 R2 (λb ρb σb hb tkb xb _ Rb gb=>?_) (noX λ_ _ _=>rfl)
  rcases b with _|_
  .rw[if_neg (show¬(SB ρb false=true)from Bool.false_ne_true)]
   obtain⟨hc,g3⟩:=cd_e (b:=chk ⟨σb.hp,σ.vs,σb.nx⟩) gb
   refine elAAAA (λeg2 x3 R4 cv4 fin=>?_)<|comp_out (h:=h) (tk:=tk) R cv (x1.trans xb) Rb
   refine fin _ _ _ _ tkb (hT _ _ _ (x0.trans x3) R4 hc) ?_
   have:=rest_T hP hN hf A B hw hw2 hT hfin vs (i+1) _ ys ρb _ _ (x0.trans x3) (eg2.trans eg) ha R4 cv4 (hs.up x3.1.le) (item_tail hi x3.1) g3
   rw[x3.1.ivs hs]at this
   rw[eg]
   exact this
  .show wpAny _ _ _ _ _ _
   refine(A _ (P0 P) hP.comp (hN.comp hf hC)).e _ hw _ ρb hb tkb _ E' gb Rb (λy ρ2 σ2 h2 tk2 x2 s2 R3 g3=>?_) (noX λ_ _ _=>rfl)
   obtain⟨hc,g3⟩:=cd_e g3
   refine elAAAA (λeg2 x3 R4 cv4 fin=>?_)<|comp_out (h:=h) (tk:=tk) R cv ((x1.trans xb).trans x2) R3
   refine fin _ _ _ _ tk2 (hT _ _ _ (x0.trans x3) R4 hc) ?_
   have:=rest_T hP hN hf A B hw hw2 hT hfin vs (i+1) _ (ys++[y]) ρ2 _ _ (x0.trans x3) (eg2.trans eg) (acc_snoc ha) R4 cv4 (scs_snoc x3.1 hs s2) (item_tail hi x3.1) g3
   rw[ivs_snoc x3.1 hs]at this
   rw[eg]
   exact this
theorem rest_P{xj xq:Nat}{tp:Nat}(hP:PG lv P Γ)(hN:Nm Γ)(hf:Free Γ sn)(A:∀(Γ':Fx prog w) P',PG lv P' Γ'->Nm Γ'->IrOk Γ' P' elt)(hw:(wf elt).e (relS Γ.env.scope (toSc sn))=true)
 (hT:∀ρ' σ' h',Γ.Ext ρ₀ ρ'->Rl Γ ρ' σ' h'->chk σ'=true->T (Γ.lg ρ' σ'))
 (hfin:∀ys ρ' σ' h',Γ.Ext ρ₀ ρ'->ρ'.g=ρ₀.g->scs ρ'.n ys->Rl Γ ρ' σ' h'->Γ.cov m ρ' σ'->K ys σ'=true->Fin (ivs ρ' ys) (Γ.lg ρ' σ')):
 ∀(vs:List V) (i:Nat) (acc:List V->List V) (ys:List V) (ρ:Rho) (σ:S) (h₁:Heap),Γ.Ext ρ₀ ρ->ρ.g=ρ₀.g->(∀l,acc l=ys++l)->Rl Γ ρ σ h₁->Γ.cov m ρ σ->scs ρ.n ys->(∀(j:Nat) v,vs[j]?=some v->∀x,Pv (i+j) x->like ρ v x)->
  vLc (P0 P) (ev elt) [(xi,xp),(xj,xq)] (tp+1) none σ.vs chk vs acc σ K=true->
  LCp.CompRestP prog w Γ.A ρ₀.g Γ.L m Γ.env (toE elt) (nm xi) (nm xj) (toSc sn) (Γ.cl sn) (Γ.sh h0 tk0) T Pv Fin vs.length i (ivs ρ ys) (Γ.lg ρ σ)
 |[],i,acc,ys,ρ,σ,h₁,x0,eg,ha,R,cv,hs,hi,g=>by
  have g:K (acc []) σ=true:=g
  rw[ha,List.append_nil]at g
  exact hfin ys ρ σ h₁ x0 eg hs R cv g
 |v::vs,i,acc,ys,ρ,σ,h₁,x0,eg,ha,R,cv,hs,hi,g=>by
  have g:drf v ⟨σ.hp,[],σ.nx⟩ (λ_ o=>O.rec (motive:=λ_=>Bool) (λ_ _=>false) (λus _=>letA [(xi,xp),(xj,xq)] us ⟨σ.hp,[],σ.nx⟩ (λσ'=>(ev elt).e (P0 P) σ' λy σ''=>cd (chk ⟨σ''.hp,σ.vs,σ''.nx⟩) (vLc (P0 P) (ev elt) [(xi,xp),(xj,xq)] (tp+1) none σ.vs chk vs (λl=>acc (y::l)) ⟨σ''.hp,σ.vs,σ''.nx⟩ K))) (λ_ _=>false) (λ_ _=>false) (λ_ _=>false) (λ_ _=>false) (λ_ _=>false) (λ_ _ _ _ _=>false) (λ_=>false) (λ_ _=>false) (λ_ _=>false) (λ_ _=>false) (λ_ _ _=>false) o)=true:=g
  replace g:=drf_e g ρ
  refine elEEAAA (λt o r244 z245 hl g246=>?_) g;revert g246;clear g;intro g;subst r244;clear z245
  replace hl:lk σ.hp t=some o:=hl
  cases o<;>first|exact ff g|skip
  rename_i us c
  have hus:∃a b,us=[a,b]:=by
   rcases us with _|⟨a,us⟩
   .exact ff g
   .rcases us with _|⟨b,us⟩
    .exact ff g
    .rcases us with _|⟨_,_⟩
     .exact⟨a,b,rfl⟩
     .exact ff g
  refine elEE (λa b r247=>?_) hus;subst r247;clear hus
  have sc:=(R.sco hl).2.1
  refine LCp.CompRestP.succ λx px=>⟨ρ.num t,_,iv ρ a,iv ρ b,ρ.num c,(hi 0 _ rfl x px).1,R.mem hl,rfl,rfl,λI oI C oC D m₂ h tk E' hC hx hx2 F N off ne=>?_⟩
  rw[←eg]at F N⊢
  have R0:=comp_in (m₂:=m₂) (sn:=sn) hN R F cv N (nd_off3 N R.nd off ne)
  have R2:=comp_bind (σ:=σ) (comp_bind (σ:=σ) R0 (sc a (.head _)) hx) (sc b (.tail _ (.head _))) hx2
  refine(A _ (P0 P) hP.comp (hN.comp hf hC)).e _ hw _ ρ h tk _ E' g R2 (λy ρ2 σ2 h2 tk2 x2 s2 R3 g3=>?_) (noX λ_ _ _=>rfl)
  obtain⟨hc,g3⟩:=cd_e g3
  refine elAAAA (λeg2 x3 R4 cv4 fin=>?_)<|comp_out (h:=h) (tk:=tk) R cv x2 R3
  refine fin _ _ _ _ tk2 (hT _ _ _ (x0.trans x3) R4 hc) ?_
  have:=rest_P hP hN hf A hw hT hfin vs (i+1) _ (ys++[y]) ρ2 _ _ (x0.trans x3) (eg2.trans eg) (acc_snoc ha) R4 cv4 (scs_snoc x3.1 hs s2) (item_tail hi x3.1) g3
  rw[ivs_snoc x3.1 hs]at this
  rw[eg]
  exact this
end
end Mine.Q
namespace Mine.Q
section
variable{prog:Program}{w:World}{lv:Bool}{Γ:Fx prog w}{P:Pm}{ρ ρ' ρ2:Rho}{σ σ2:S}{h h' h1 h2:Heap}{tk n d i:Nat}{v:V}{x:Value}{E:Value->Shared->Prop}{m m₂:Str->Option Value}{sn:List (Nat×Nat)}{k:KV}
noncomputable def Fx.at(Γ:Fx prog w)(m:Str->Option Value):Fx prog w:=
 {Γ with cov:=λm' ρ σ=>m'=m/\Γ.cov m' ρ σ,cx:=λm' ρ ρ' σ σ' x hs ev H=>⟨H.1,Γ.cx _ _ _ _ _ x hs ev H.2⟩}
theorem at_in(R:Rl Γ ρ σ h)(F:Fr ρ.g Γ.L h m)(cv:Γ.cov m ρ σ):Rl (Γ.at m) ρ σ h:=⟨R.toOk,⟨R.kn,R.tp,R.bl,R.kt⟩,⟨m,F,rfl,cv⟩,R.nw,R.nd⟩
theorem at_out(R:Rl (Γ.at m) ρ σ h):Rl Γ ρ σ h/\Fr ρ.g Γ.L h m/\Γ.cov m ρ σ:=by
 refine elEAA (λm' F r248 cv=>?_)<|R.fr;subst r248
 exact mkAA ⟨R.toOk,⟨R.kn,R.tp,R.bl,R.kt⟩,⟨_,F,cv⟩,R.nw,R.nd⟩ F cv
theorem at_x{e C:Addr}{c:Int}(X:XR (Γ.at m) ρ σ h e C c):XR Γ ρ σ h e C c:=by
 refine elEAA (λm' F r249 cv=>?_)<|X.x;subst r249
 exact⟨X.toOk,⟨X.kn,X.tp,X.bl,X.kt⟩,⟨_,F,cv⟩,X.kp⟩
theorem EX.at{x:KX}(hx:EX Γ x ρ E):EX (Γ.at m) x ρ E:=λe C c ρ' σ' h' tk' a b g=>hx e C c ρ' σ' h' tk' a (at_x b) g
theorem PG.at(hP:PG lv P Γ):PG lv P (Γ.at m):=⟨hP.D,hP.cs,hP.out,hP.nh,hP.all⟩
theorem Nm.at(hN:Nm Γ):Nm (Γ.at m):=⟨hN.tn,hN.kd,hN.ga,hN.bu,hN.cl,λm ρ σ H=>hN.cv m ρ σ H.2,λa b R q=>hN.loc a b (at_out R).1 q,λa b c R q=>hN.cel a b c (at_out R).1 q,λa b R q=>hN.glo a b (at_out R).1 q,λa b c d e R q=>hN.blt a b c d e (at_out R).1 q⟩
theorem off1_mem{D:Addr}{l:Lg}(o:LCg.Off1 D l):∀p∈l,p.1≠D:=by
 induction l with
 |nil=>exact λ_ h=>nomatch h
 |cons q r ih=>
  intro p h
  rcases List.mem_cons.mp h with rfl|h
  .exact o.1
  .exact ih o.2 p h
theorem fold_nset{e:Expr}{env:Env}{x:Value}(h:nset e=true):foldedSetIterable e env x=pure x:=by
 cases e<;>first|rfl|exact ff h
theorem fold_ok(e:IE)(env:Env)(x:Value):foldedSetIterable (toE e) env x=pure x:=fold_nset (toE_nset e)
theorem isNil_ne{β:Type}{e:IE}{a b:β}(h:e≠.nil):isNil e a b=b:=by
 cases e<;>first|rfl|exact absurd rfl h
theorem w_e{b:Bool}{it:IE}{cs:Scope}{K:List V->(S->Bool)->S->Bool}(hc:(wf it).e cs=true)(g:(ev it).w b P σ K=true):(ev it).e P σ (λv σ=>walkK b v σ K)=true:=by
 cases it<;>first|exact g|exact ff g|exact ff hc
theorem newL_ne{ys:List V}{a:Nat}{Q:Value->Shared->Prop}(R:Rl Γ ρ σ h)(g:newK σ (.list (ofV ys)) k=true)(hq:KQ Γ ρ k Q)(hs:scs ρ.n ys)(F:Fr ρ.g Γ.L h' m)(cv:Γ.cov m ρ σ)(N:News ρ.g Γ.L h' ((a,LCg.lst (ivs ρ ys))::Γ.lg ρ σ))(ne:∀p∈Γ.lg ρ σ,p.1≠a):Q (.ref a) (Γ.sh h' tk):=by
 refine new_neX (a:=a) (ob:=LCg.lst (ivs ρ ys)) R g (ivs ρ ys).length default F cv N ne ?_ ⟨λs hh=>(ofV_sc hs s hh).up p2_pre.le,by rw[p2_n];exact Nat.lt_succ_self _⟩ trivial λρ' σ' x sc R' g' ev _ _ _=>?_
 .show listOf _ _=_
  rw[p2_pre.sgs (ofV_sc hs),p2_cnt,sgs_of]
 .have:=hq _ ρ' σ' h' tk x sc R' g'
  rw[ev]at this
  exact this
theorem sameV_e{a b:V}(h:sameV a b=true):a=b:=by
 cases a<;>first|exact ff h|(cases b<;>first|exact ff h|skip)
 .rfl
 .rename_i x y;cases x<;>cases y<;>first|rfl|exact ff h
 .rename_i as c t bs e u
  obtain⟨h1,h⟩:=bi_t (b:=eqN as bs) h
  obtain⟨h2,h3⟩:=bi_t (b:=eqZ c e) h
  rw[eqN_e h1,eqZ_e h2,Nat.eq_of_beq_eq_true h3]
 .rename_i i t j u
  obtain⟨h1,h2⟩:=bi_t (b:=Nat.beq i j) h
  rw[Nat.eq_of_beq_eq_true h1,Nat.eq_of_beq_eq_true h2]
 .exact congrArg _ (Nat.eq_of_beq_eq_true h)
 .exact congrArg _ (Nat.eq_of_beq_eq_true h)
 .rename_i i t j u
  obtain⟨h1,h2⟩:=bi_t (b:=Nat.beq i j) h
  rw[Nat.eq_of_beq_eq_true h1,Nat.eq_of_beq_eq_true h2]
 .exact congrArg _ (Nat.eq_of_beq_eq_true h)
theorem sameVs_e:∀{a b:List V},sameVs a b=true->a=b
 |[],[],_=>rfl
 |[],_::_,h=>nomatch h
 |_::_,[],h=>nomatch h
 |x::r,y::s,h=>by
  obtain⟨h1,h2⟩:=bi_t (b:=sameV x y) (p:=sameVs r s) h
  rw[sameV_e h1,sameVs_e h2]
theorem sameS_e:∀{a b:List Sg},sameS a b=true->a=b
 |[],[],_=>rfl
 |[],_::_,h=>nomatch h
 |_::_,[],h=>nomatch h
 |.it x::r,.it y::s,h=>by
  obtain⟨h1,h2⟩:=bi_t (b:=sameV x y) (p:=sameS r s) h
  rw[sameV_e h1,sameS_e h2]
 |.sg x::r,.sg y::s,h=>by
  obtain⟨h1,h2⟩:=bi_t (b:=Nat.beq x y) (p:=sameS r s) h
  rw[Nat.eq_of_beq_eq_true h1,sameS_e h2]
 |.sg _::_,.it _::_,h=>nomatch h
 |.it _::_,.sg _::_,h=>nomatch h
theorem walk_e{b:Bool}{v:V}{K:List V->(S->Bool)->S->Bool}(g:walkK b v σ K=true)(ρ:Rho):(∃n vs c chk,v=.ref n/\lk σ.hp n=some (.list (ofV vs) c)/\vs.length<=900/\K vs chk σ=true/\∀σ',chk σ'=true->lk σ'.hp n=some (.list (ofV vs) c))\/
 (b=false/\∃n vs c chk,v=.ref n/\lk σ.hp n=some (.tup vs c)/\vs.length<=900/\K vs chk σ=true/\∀σ',chk σ'=true->lk σ'.hp n=some (.tup vs c))\/
 (b=false/\∃n kvs o chk,v=.ref n/\lk σ.hp n=some (.dI o kvs)/\kvs.length<=900/\K (kvs.map λp=>.int [] (Int.ofNat p.1) 0) chk σ=true/\∀σ',chk σ'=true->∃kvs',lk σ'.hp n=some (.dI o kvs')):=by
 replace g:=drf_e g ρ
 refine elEEAAA (λn ob r250 z251 hl g252=>?_) g;revert g252;clear g;intro g;subst r250;clear z251
 cases ob<;>first|exact ff g|skip
 .rename_i ss c
  replace g:=its_e g
  refine elEA (λvs r253 g254=>?_) g;revert g254;clear g;intro g;subst r253
  replace g:=cd_e g
  obtain⟨hz,g⟩:=g
  rw[len_eq]at hz
  refine .inl ⟨n,vs,c,_,rfl,hl,Nat.le_of_ble_eq_true hz,g,λσ' hk=>?_⟩
  replace hk:=at_e hk
  refine elEA (λo' hl' g255=>?_) hk;revert g255;clear hk;intro hk
  cases o'<;>first|exact ff hk|skip
  obtain⟨e1,e2⟩:=bi_t (b:=Nat.beq c _) hk
  rw[hl',←Nat.eq_of_beq_eq_true e1,sameS_e e2]
 .rename_i vs c
  rcases bi_e (b:=b) (p:=false) g with⟨-,g⟩|⟨hb,g⟩
  .exact ff g
  replace g:=cd_e g
  obtain⟨hz,g⟩:=g
  rw[len_eq]at hz
  refine .inr (.inl ⟨hb,n,vs,c,_,rfl,hl,Nat.le_of_ble_eq_true hz,g,λσ' hk=>?_⟩)
  replace hk:=at_e hk
  refine elEA (λo' hl' g256=>?_) hk;revert g256;clear hk;intro hk
  cases o'<;>first|exact ff hk|skip
  obtain⟨e1,e2⟩:=bi_t (b:=Nat.beq c _) hk
  rw[hl',←Nat.eq_of_beq_eq_true e1,sameVs_e e2]
 .rename_i o kvs
  rcases bi_e (b:=b) (p:=false) g with⟨-,g⟩|⟨hb,g⟩
  .exact ff g
  replace g:=cd_e g
  obtain⟨hz,g⟩:=g
  rw[len_eq]at hz
  have e:∀l:List (Nat×V),(List.rec [] (λp _ ih=>.int [] (Int.ofNat p.1) 0::ih) l:List V)=l.map λp=>.int [] (Int.ofNat p.1) 0:=λl=>by
   induction l with
   |nil=>rfl
   |cons p r ih=>exact congrArg (_::·) ih
  rw[e]at g
  refine .inr (.inr ⟨hb,n,kvs,o,_,rfl,hl,Nat.le_of_ble_eq_true hz,g,λσ' hk=>?_⟩)
  replace hk:=at_e hk
  refine elEA (λo' hl' g257=>?_) hk;revert g257;clear hk;intro hk
  cases o'<;>first|exact ff hk|skip
  rw[Nat.eq_of_beq_eq_true hk]
  exact⟨_,hl'⟩
end
end Mine.Q
namespace Mine.Q
section
variable{prog:Program}{w:World}{lv:Bool}{Γ:Fx prog w}{P:Pm}{ρ ρ' ρ2:Rho}{σ σ2:S}{h h' h1 h2:Heap}{tk n d i:Nat}{v:V}{x:Value}{E:Value->Shared->Prop}{m m₂:Str->Option Value}{sn is:List (Nat×Nat)}{tp:Nat}{k:KV}
structure LcOk(cs:Scope)(sn is:List (Nat×Nat))(tp:Nat):Prop where
 nl:∀y∈(toSc sn).names,y.2=.local->(toSc sn).names.lookup y.1=some .local
 fr:∀y∈(toSc sn).names,y.2=.free->cs.names.lookup y.1=some .cell
 lo:∀x∈is,(toSc sn).names.lookup (nm x.1)=some .local
 ln:(Nat.rec (motive:=λ_=>Nat) 1 (λ_ _=>2) tp)=is.length
 nd:(is.map (·.1)).Nodup
theorem lcB_e{cs:Scope}(h:lcB cs sn is tp=true):LcOk cs sn is tp:=by
 refine aa4 (λh1 h2 h3 h4 h5=>?_) h
 refine⟨λy hy e=>?_,λy hy e=>?_,λx hx=>eq_of_beq (List.all_eq_true.mp h3 x hx),Nat.eq_of_beq_eq_true h4,nodB_ok h5⟩
 .have:=List.all_eq_true.mp h1 y hy
  rw[e]at this
  exact eq_of_beq this
 .have:=List.all_eq_true.mp h2 y hy
  rw[e]at this
  exact eq_of_beq this
theorem LcOk.clos(L:LcOk Γ.env.scope sn is tp)(hN:Nm Γ):closureFor (toSc sn) Γ.env=pure (Γ.cl sn):=clos_eq λy hy e=>hN.cl _ (L.fr y hy e)
theorem srcAt{vs:List V}{c:Nat}(R:Rl Γ ρ σ h)(x:Γ.Ext ρ ρ')(eg:ρ'.g=ρ.g)(hl:lk σ.hp n=some (.list (ofV vs) c))(R':Rl Γ ρ' σ2 h')(hl':lk σ2.hp n=some (.list (ofV vs) c)):LCg.SrcAt ρ.g (ρ.num n) (ivs ρ vs).toArray (Γ.lg ρ' σ2):=by
 refine .inr ⟨io w ρ' (.list (ofV vs) c),?_,rfl,ρ'.num c,?_⟩
 .rw[←x.1.num (R.sco hl).1]
  exact R'.mem hl'
 .show Data.seq (sgs ρ' (ofV vs)).toArray _=_
  rw[x.1.sgs (R.sco hl).2.1,sgs_of]
theorem srcMem{vs:List V}{c:Nat}(R:Rl Γ ρ σ h)(hl:lk σ.hp n=some (.list (ofV vs) c)):(ρ.num n,({cls:=.type "list",data:=.seq (ivs ρ vs).toArray (ρ.num c)}:Obj))∈Γ.lg ρ σ:=by
 have:=R.mem hl
 rwa[show io w ρ (.list (ofV vs) c)=({cls:=.type "list",data:=.seq (ivs ρ vs).toArray (ρ.num c)}:Obj)by show listOf _ _=_;rw[sgs_of]]at this
theorem items_l{vs:List V}(hs:scs ρ.n vs):∀(j:Nat) v,vs[j]?=some v->∀x,(ivs ρ vs).toArray[0+j]?=some x->like ρ v x:=λj v hj x hx=>by
 rw[Nat.zero_add,List.getElem?_toArray]at hx
 unfold ivs at hx
 rw[List.getElem?_map,hj]at hx
 cases hx
 exact .of (hs v (List.mem_of_getElem? hj))
theorem sz_l{vs:List V}(h:vs.length<=900):(ivs ρ vs).toArray.size<=sizeLine:=by
 rw[List.size_toArray,show(ivs ρ vs).length=vs.length from List.length_map ..]
 exact fits_line (Nat.le_trans h (Nat.le_of_ble_eq_true rfl))
theorem finE{Q:Value->Shared->Prop}(hq:KQ Γ ρ k Q){ρ₀:Rho}(x0:Γ.Ext ρ ρ₀){g:Heap}{t:Nat}:∀ys ρ' σ' h',Γ.Ext ρ₀ ρ'->ρ'.g=ρ₀.g->scs ρ'.n ys->Rl Γ ρ' σ' h'->Γ.cov m ρ' σ'->newK σ' (.list (ofV ys)) k=true->LCg.FinE ρ₀.g Γ.L m (Γ.sh g t) Q (ivs ρ' ys) (Γ.lg ρ' σ'):=
 λys ρ' σ' h' x eg hs R cv g D hh tk F N o1=>by
  rw[←eg]at F N
  exact newL_ne R g (hq.up (x0.trans x)) hs F cv N (off1_mem o1)
theorem w_l{it:IE}{K:List V->(S->Bool)->S->Bool}(A:IrOk Γ P it)(hc:(wf it).e Γ.env.scope=true){Q:Value->Shared->Prop}(R:Rl Γ ρ σ h)(g:(ev it).w true P σ K=true)(hx:EX Γ P.x ρ E)
 (hq:∀v ρ1 σ1 h1 tk1,Γ.Ext ρ ρ1->v.sc ρ1.n->Rl Γ ρ1 σ1 h1->walkK true v σ1 K=true->Q (iv ρ1 v) (Γ.sh h1 tk1)):Γ.wp (eval (toE it) Γ.env) Q E h tk:=
 A.e σ hc _ ρ h tk Q E (w_e hc g) R hq hx
theorem lc_list(ρ:Rho){v:V}{K:List V->S->Bool}{elt:ME}{c:Option ME}(g:walkK true v σ (λvs chk σ=>S.rec (λhp lv nx=>vLc (P0 P) elt is tp c lv chk vs (λl=>l) ⟨hp,lv,nx⟩ K) σ)=true):
 ∃n vs c' chk,v=.ref n/\lk σ.hp n=some (.list (ofV vs) c')/\vs.length<=900/\vLc (P0 P) elt is tp c σ.vs chk vs (λl=>l) σ K=true/\∀σ',chk σ'=true->lk σ'.hp n=some (.list (ofV vs) c'):=by
 rcases walk_e g ρ with h|⟨h,-⟩|⟨h,-⟩
 .exact h
 .cases h
 .cases h
theorem e_lc{elt it c:IE}{p:Nat}(hP:PG lv P Γ)(hN:Nm Γ)(A:∀(Γ':Fx prog w) P',PG lv P' Γ'->Nm Γ'->IrOk Γ' P' elt)(B:∀(Γ':Fx prog w) P',PG lv P' Γ'->Nm Γ'->IrOk Γ' P' it)(C:∀(Γ':Fx prog w) P',PG lv P' Γ'->Nm Γ'->IrOk Γ' P' c):HE Γ P (.lc elt is tp it c sn p):=by
 intro σ hc k ρ h tk Q E g R hq hx
 refine aa3 (λh1 h2 h3 h4=>?_) hc
 have L:=lcB_e h2
 refine elEA (λm F0 cv0=>?_)<|R.fr
 have hN':=hN.at (m:=m)
 have hP':=hP.at (m:=m)
 have R':=at_in R F0 cv0
 have eg:∀{ρ1},(Γ.at m).Ext ρ ρ1->ρ1.g=ρ.g:=λx=>x.2.2 hN.tn
 have g:(ev it).w true P σ (λvs chk σ=>S.rec (λhp lv nx=>vLc (P0 P) (ev elt) is tp (isNil c none (some (ev c))) lv chk vs (λl=>l) ⟨hp,lv,nx⟩ λys σ=>newK σ (.list (ofV ys)) k) σ)=true:=g
 have hq':KQ (Γ.at m) ρ k Q:=λv ρ' σ' h' tk' x sc R g=>hq v ρ' σ' h' tk' x sc (at_out R).1 g
 rcases tp with _|tp
 .obtain⟨xi,xp,rfl⟩:∃xi xp,is=[(xi,xp)]:=by
   have:=L.ln
   rcases is with _|⟨a,r⟩
   .cases this
   .rcases r with _|⟨_,_⟩
    .exact⟨a.1,a.2,rfl⟩
    .cases this
  by_cases hcn:c=.nil
  .subst hcn
   refine LCg.ListComp_U F0 (L.clos hN) toSc_cell rfl L.nl (L.lo _ (.head _)) (w_l (B (Γ.at m) P hP' hN') h1 R' g hx.at λv ρ1 σ1 h1 tk1 x1 s1 R1 g1=>?_) (fold_ok it _)
   refine elEEEEAAAA (λn vs c' chk r258 hl hz g259 g260=>?_)<|lc_list ρ1 g1;subst r258;revert g259 g260;intro g1 hk
   refine elAA (λR2 F1 cv1=>?_)<|at_out R1
   rw[←eg x1]
   refine LCg.CompSrc.ledger (Γ.hd hP.nh) F1 R1.nw (srcMem R1 hl) (sz_l hz) λg=>?_
   have:=rest_U (Γ:=Γ.at m) (ρ₀:=ρ1) (T:=LCg.SrcAt ρ1.g (ρ1.num n) (ivs ρ1 vs).toArray) (Pv:=λi v=>(ivs ρ1 vs).toArray[i]?=some v) (h0:=g) (tk0:=tk1) hP' hN' L.fr A h3 (λρ' σ' h' x R' hc=>srcAt R1 x (x.2.2 hN.tn) hl R' (hk _ hc)) (finE (g:=g) (t:=tk1) hq' x1) vs 0 (λl=>l) [] ρ1 σ1 h1 .refl rfl (λ_=>rfl) R1 ⟨rfl,cv1⟩ (λ_ h=>nomatch h) (items_l λv hv=>(R2.sco hl).2.1 (.it v) (ofV_mem hv)) g1
   rw[show(ivs ρ1 vs).toArray.size=vs.length by rw[List.size_toArray];exact List.length_map ..]
   exact this
  .have hcs:∀(env:Env),eval (toE (.lc elt [(xi,xp)] 0 it c sn p)) env=eval (.ListComp (toE elt) [⟨.Name (nm xi) (dp xp),toE it,[toE c],0⟩] (toSc sn) (dp p)) env:=λenv=>by
    show eval (.ListComp (toE elt) [⟨_,_,isNil c [] [toE c],0⟩] (toSc sn) (dp p)) env=_
    rw[isNil_ne hcn];rfl
   rw[hcs _]
   rw[isNil_ne hcn]at h4
   rw[isNil_ne hcn]at g
   obtain⟨-,h4⟩:=aa h4
   refine LCt.ListComp_T F0 (L.clos hN) toSc_cell rfl L.nl (L.lo _ (.head _)) (w_l (B (Γ.at m) P hP' hN') h1 R' g hx.at λv ρ1 σ1 h1 tk1 x1 s1 R1 g1=>?_) (fold_ok it _)
   refine elEEEEAAAA (λn vs c' chk r261 hl hz g262 g263=>?_)<|lc_list ρ1 g1;subst r261;revert g262 g263;intro g1 hk
   refine elAA (λR2 F1 cv1=>?_)<|at_out R1
   rw[←eg x1]
   refine LCt.CompSrcT.ledger (Γ.hd hP.nh) F1 R1.nw (srcMem R1 hl) (sz_l hz) λg=>?_
   have:=rest_T (Γ:=Γ.at m) (ρ₀:=ρ1) (T:=LCg.SrcAt ρ1.g (ρ1.num n) (ivs ρ1 vs).toArray) (Pv:=λi v=>(ivs ρ1 vs).toArray[i]?=some v) (h0:=g) (tk0:=tk1) hP' hN' L.fr A C h3 h4 (λρ' σ' h' x R' hc=>srcAt R1 x (x.2.2 hN.tn) hl R' (hk _ hc)) (finE (g:=g) (t:=tk1) hq' x1) vs 0 (λl=>l) [] ρ1 σ1 h1 .refl rfl (λ_=>rfl) R1 ⟨rfl,cv1⟩ (λ_ h=>nomatch h) (items_l λv hv=>(R2.sco hl).2.1 (.it v) (ofV_mem hv)) g1
   rw[show(ivs ρ1 vs).toArray.size=vs.length by rw[List.size_toArray];exact List.length_map ..]
   exact this
 .obtain⟨xi,xp,xj,xq,rfl⟩:∃xi xp xj xq,is=[(xi,xp),(xj,xq)]:=by
   have:=L.ln
   rcases is with _|⟨a,r⟩
   .cases this
   .rcases r with _|⟨b,r⟩
    .cases this
    .rcases r with _|⟨_,_⟩
     .exact⟨a.1,a.2,b.1,b.2,rfl⟩
     .cases this
  have hcn:c=.nil:=Classical.byContradiction λhcn=>by
   rw[isNil_ne hcn]at h4
   exact ff h4
  subst hcn
  have hne:nm xi≠nm xj:=λe=>by
   have:=(List.nodup_cons.mp L.nd).1
   rw[nm_inj e]at this
   exact this (.head _)
  refine LCp.ListComp_P F0 (L.clos hN) toSc_cell rfl L.nl (L.lo _ (.head _)) (L.lo _ (.tail _ (.head _))) hne (w_l (B (Γ.at m) P hP' hN') h1 R' g hx.at λv ρ1 σ1 h1 tk1 x1 s1 R1 g1=>?_) (fold_ok it _)
  refine elEEEEAAAA (λn vs c' chk r264 hl hz g265 g266=>?_)<|lc_list ρ1 g1;subst r264;revert g265 g266;intro g1 hk
  refine elAA (λR2 F1 cv1=>?_)<|at_out R1
  rw[←eg x1]
  refine LCp.SrcLP.ledger (Γ.hd hP.nh) F1 R1.nw (srcMem R1 hl) (sz_l hz) λg=>?_
  have:=rest_P (Γ:=Γ.at m) (ρ₀:=ρ1) (T:=LCg.SrcAt ρ1.g (ρ1.num n) (ivs ρ1 vs).toArray) (Pv:=λi v=>(ivs ρ1 vs).toArray[i]?=some v) (h0:=g) (tk0:=tk1) hP' hN' L.fr A h3 (λρ' σ' h' x R' hc=>srcAt R1 x (x.2.2 hN.tn) hl R' (hk _ hc)) (finE (g:=g) (t:=tk1) hq' x1) vs 0 (λl=>l) [] ρ1 σ1 h1 .refl rfl (λ_=>rfl) R1 ⟨rfl,cv1⟩ (λ_ h=>nomatch h) (items_l λv hv=>(R2.sco hl).2.1 (.it v) (ofV_mem hv)) g1
  rw[show(ivs ρ1 vs).toArray.size=vs.length by rw[List.size_toArray];exact List.length_map ..]
  exact this
theorem noB{e:IE}(h:∀cs,(wf e).b cs=false):HB Γ P e:=λ_ _ _ hc=>ff ((h _).symm.trans hc)
theorem noTB{e:IE}(h:∀cs,(wf e).tb cs=false):HTB Γ P e:=λ_ _ _ _ hc=>ff ((h _).symm.trans hc)
theorem noA{e:IE}(h:∀cs,(wf e).a cs=false):HA Γ P e:=λ_ _ hc=>ff ((h _).symm.trans hc)
theorem noD{e:IE}(h:∀cs,(wf e).d cs=false):HDp Γ P e:=λ_ _ hc=>ff ((h _).symm.trans hc)
theorem noT{e:IE}(h:∀cs,(wf e).t cs=false):HT Γ P e:=λ_ hc=>ff ((h _).symm.trans hc)
theorem noE{e:IE}(h:∀cs,(wf e).e cs=false):HE Γ P e:=λ_ hc=>ff ((h _).symm.trans hc)
theorem onlyE{e:IE}(E:HE Γ P e)(ha:∀cs,(wf e).a cs=false)(hb:∀cs,(wf e).b cs=false)(ht:∀cs,(wf e).t cs=false)(htb:∀cs,(wf e).tb cs=false)(hd:∀cs,(wf e).d cs=false):IrOk Γ P e:=
 ⟨E,noA ha,noB hb,noT ht,noTB htb,noD hd⟩
theorem onlyET{e:IE}(E:HE Γ P e)(T:HT Γ P e)(ha:∀cs,(wf e).a cs=false)(hb:∀cs,(wf e).b cs=false)(htb:∀cs,(wf e).tb cs=false)(hd:∀cs,(wf e).d cs=false):IrOk Γ P e:=
 ⟨E,noA ha,noB hb,T,noTB htb,noD hd⟩
theorem ir_ok(ir:IE):∀(Γ:Fx prog w) (P:Pm),PG lv P Γ->Nm Γ->IrOk Γ P ir:=by
 induction ir
 case loc=>exact λΓ P hP hN=>onlyE (e_loc hN) (λ_=>rfl) (λ_=>rfl) (λ_=>rfl) (λ_=>rfl) (λ_=>rfl)
 case gi=>exact λΓ P hP hN=>onlyE (e_gi hN) (λ_=>rfl) (λ_=>rfl) (λ_=>rfl) (λ_=>rfl) (λ_=>rfl)
 case gr=>exact λΓ P hP hN=>onlyE (e_gr hN) (λ_=>rfl) (λ_=>rfl) (λ_=>rfl) (λ_=>rfl) (λ_=>rfl)
 case int=>exact λΓ P hP hN=>onlyE e_int (λ_=>rfl) (λ_=>rfl) (λ_=>rfl) (λ_=>rfl) (λ_=>rfl)
 case neg=>exact λΓ P hP hN=>onlyE e_neg (λ_=>rfl) (λ_=>rfl) (λ_=>rfl) (λ_=>rfl) (λ_=>rfl)
 case str=>exact λΓ P hP hN=>onlyE e_str (λ_=>rfl) (λ_=>rfl) (λ_=>rfl) (λ_=>rfl) (λ_=>rfl)
 case non=>exact λΓ P hP hN=>onlyE e_non (λ_=>rfl) (λ_=>rfl) (λ_=>rfl) (λ_=>rfl) (λ_=>rfl)
 case boo=>exact λΓ P hP hN=>onlyE e_boo (λ_=>rfl) (λ_=>rfl) (λ_=>rfl) (λ_=>rfl) (λ_=>rfl)
 case att e i p A=>exact λΓ P hP hN=>onlyE (e_att (A Γ P hP hN).e) (λ_=>rfl) (λ_=>rfl) (λ_=>rfl) (λ_=>rfl) (λ_=>rfl)
 case sub a b p A B=>exact λΓ P hP hN=>onlyE (e_sub (A Γ P hP hN).e (B Γ P hP hN).e) (λ_=>rfl) (λ_=>rfl) (λ_=>rfl) (λ_=>rfl) (λ_=>rfl)
 case upt a b p q A B=>exact λΓ P hP hN=>onlyE (e_upt (A Γ P hP hN).e (B Γ P hP hN).e) (λ_=>rfl) (λ_=>rfl) (λ_=>rfl) (λ_=>rfl) (λ_=>rfl)
 case frm a b p q A B=>exact λΓ P hP hN=>onlyE (e_frm (A Γ P hP hN).e (B Γ P hP hN).e) (λ_=>rfl) (λ_=>rfl) (λ_=>rfl) (λ_=>rfl) (λ_=>rfl)
 case cmp op a b p A B=>exact λΓ P hP hN=>onlyET (e_cmp (A Γ P hP hN).e (B Γ P hP hN).e) (t_cmp (A Γ P hP hN).e (B Γ P hP hN).e) (λ_=>rfl) (λ_=>rfl) (λ_=>rfl) (λ_=>rfl)
 case bo op a p A=>exact λΓ P hP hN=>onlyET (λσ hc=>(A Γ P hP hN).b _ _ σ hc) (λσ hc=>(A Γ P hP hN).tb _ _ _ σ hc) (λ_=>rfl) (λ_=>rfl) (λ_=>rfl) (λ_=>rfl)
 case not_ a p A=>exact λΓ P hP hN=>onlyET (e_not (A Γ P hP hN).e) (t_not (A Γ P hP hN).t) (λ_=>rfl) (λ_=>rfl) (λ_=>rfl) (λ_=>rfl)
 case ite t a b p T A B=>exact λΓ P hP hN=>onlyE (e_ite (T Γ P hP hN).t (A Γ P hP hN).e (B Γ P hP hN).e) (λ_=>rfl) (λ_=>rfl) (λ_=>rfl) (λ_=>rfl) (λ_=>rfl)
 case bin op a b p A B=>exact λΓ P hP hN=>onlyE (e_bin (A Γ P hP hN).e (B Γ P hP hN).e) (λ_=>rfl) (λ_=>rfl) (λ_=>rfl) (λ_=>rfl) (λ_=>rfl)
 case lis a p A=>exact λΓ P hP hN=>onlyE (e_lis (A Γ P hP hN).a) (λ_=>rfl) (λ_=>rfl) (λ_=>rfl) (λ_=>rfl) (λ_=>rfl)
 case tup a p A=>exact λΓ P hP hN=>onlyE (e_tup (A Γ P hP hN).a) (λ_=>rfl) (λ_=>rfl) (λ_=>rfl) (λ_=>rfl) (λ_=>rfl)
 case dic a p A=>exact λΓ P hP hN=>onlyE (e_dic λI ot=>(A (Γ.it I ot) P hP.it hN.it).d) (λ_=>rfl) (λ_=>rfl) (λ_=>rfl) (λ_=>rfl) (λ_=>rfl)
 case emp=>exact λΓ P hP hN=>onlyE e_emp (λ_=>rfl) (λ_=>rfl) (λ_=>rfl) (λ_=>rfl) (λ_=>rfl)
 case nil=>exact λΓ P hP hN=>⟨noE λ_=>rfl,a_nil,noB λ_=>rfl,noT λ_=>rfl,tb_nil,d_nil⟩
 case cns a b A B=>exact λΓ P hP hN=>⟨noE λ_=>rfl,a_cns (A Γ P hP hN).e (B Γ P hP hN).a,b_cns (A Γ P hP hN).e (B Γ P hP hN).b,noT λ_=>rfl,tb_cns (A Γ P hP hN).t (B Γ P hP hN).tb,noD λ_=>rfl⟩
 case pl a A=>exact λΓ P hP hN=>⟨noE λ_=>rfl,noA λ_=>rfl,noB λ_=>rfl,t_pl (A Γ P hP hN).e,noTB λ_=>rfl,noD λ_=>rfl⟩
 case dcn j p v r A B=>exact λΓ P hP hN=>⟨noE λ_=>rfl,noA λ_=>rfl,noB λ_=>rfl,noT λ_=>rfl,noTB λ_=>rfl,d_dcn (A Γ P hP hN).e (B Γ P hP hN).d⟩
 case cal f a as p q A=>exact λΓ P hP hN=>onlyE (e_cal hN hP (A Γ P hP hN)) (λ_=>rfl) (λ_=>rfl) (λ_=>rfl) (λ_=>rfl) (λ_=>rfl)
 case new f a as p q A=>exact λΓ P hP hN=>onlyE (e_new hN hP (A Γ P hP hN)) (λ_=>rfl) (λ_=>rfl) (λ_=>rfl) (λ_=>rfl) (λ_=>rfl)
 case met o i a p q O A=>exact λΓ P hP hN=>onlyE (e_met (.inl hP) (O Γ P hP hN).e (A Γ P hP hN).a) (λ_=>rfl) (λ_=>rfl) (λ_=>rfl) (λ_=>rfl) (λ_=>rfl)
 case blt b a p q A=>exact λΓ P hP hN=>onlyE (e_blt hN hP (A Γ P hP hN).a) (λ_=>rfl) (λ_=>rfl) (λ_=>rfl) (λ_=>rfl) (λ_=>rfl)
 case isi b a p q r A=>exact λΓ P hP hN=>onlyE (e_isi hN (A Γ P hP hN).e) (λ_=>rfl) (λ_=>rfl) (λ_=>rfl) (λ_=>rfl) (λ_=>rfl)
 case cel=>exact λΓ P hP hN=>onlyE (e_cel hN hP) (λ_=>rfl) (λ_=>rfl) (λ_=>rfl) (λ_=>rfl) (λ_=>rfl)
 case rng=>exact λΓ P hP hN=>onlyE (noE λ_=>rfl) (λ_=>rfl) (λ_=>rfl) (λ_=>rfl) (λ_=>rfl) (λ_=>rfl)
 case lc elt is tp it c sn p A B C=>exact λΓ P hP hN=>onlyE (e_lc hP hN A B C) (λ_=>rfl) (λ_=>rfl) (λ_=>rfl) (λ_=>rfl) (λ_=>rfl)
end
end Mine.Q
namespace Mine.Q
section
variable{prog:Program}{w:World}{lv:Bool}{Γ:Fx prog w}{P:Pm}{ρ ρ' ρ2:Rho}{σ σ2:S}{h h' h1 h2:Heap}{tk n d i:Nat}{v:V}{x:Value}{E:Value->Shared->Prop}{m m₂:Str->Option Value}{k:KV}{I:Addr}{ot:Obj}
noncomputable def Fx.nt(Γ:Fx prog w):Fx prog w:={Γ with tn:=false,ct:=λh=>nomatch h}
theorem nt_in(R:Rl Γ ρ σ h):Rl Γ.nt ρ σ h:=⟨R.toOk,⟨R.kn,R.tp,R.bl,λh=>nomatch h⟩,R.fr,R.nw,R.nd⟩
theorem nt_ext(x:Γ.nt.Ext ρ ρ'):Γ.Ext ρ ρ':=mkAA x.1 x.2.1 (λ_=>x.2.2 rfl)
theorem nt_out(R:Rl Γ ρ σ h)(x:Γ.nt.Ext ρ ρ')(R':Rl Γ.nt ρ' σ2 h'):Rl Γ ρ' σ2 h':=⟨R'.toOk,⟨R'.kn,R'.tp,R'.bl,λt=>by rw[x.2.2 rfl];exact R.kt t⟩,R'.fr,R'.nw,R'.nd⟩
theorem EX.nt{x:KX}(R:Rl Γ ρ σ h)(hx:EX Γ x ρ E):EX Γ.nt x ρ E:=λe C c ρ' σ' h' tk' a X g=>hx e C c ρ' σ' h' tk' (nt_ext a) ⟨X.toOk,⟨X.kn,X.tp,X.bl,λt=>by rw[a.2.2 rfl];exact R.kt t⟩,X.x,X.kp⟩ g
theorem HH.nt{α β:Type}{x:KX}{Iv:Rho->β->α}{sc:Nat->β->Prop}{c:Sem α}{vc:(β->S->Bool)->Bool}(H:HH Γ.nt x Iv sc c σ vc):HH Γ x Iv sc c σ vc:=λk ρ h tk Q E g R hq hx=>
 H k ρ h tk Q E g (nt_in R) (λv ρ' σ' h' tk' a s R' g'=>hq v ρ' σ' h' tk' (nt_ext a) s (nt_out R a R') g') (hx.nt R)
theorem PG.nt(hP:PG lv P Γ):PG lv P Γ.nt:=⟨hP.D,hP.cs,hP.out,hP.nh,hP.all⟩
noncomputable def Fx.hm(Γ:Fx prog w)(e:Addr):Fx prog w:={Γ with A:=Γ.A.mark (some (.ref e)),tn:=false,ct:=(λh=>nomatch h),hc:=true,hd:=(λh=>nomatch h),fr:=Γ.fr,dp:=Γ.dp,un:=Γ.un}
structure St(Γ:Fx prog w):Prop where
 nn:Nm Γ.nt
 cv:∀m ρ σ,Γ.cov m ρ σ↔(∀i v,lk σ.vs i=some v->m (nm i)=some (iv ρ v))/\CellsOk Γ ρ
 ll:Γ.env.locals=Γ.L
 fe:Γ.fenv=Γ.env
 nh:Γ.hc=false
 hn:∀e,Nm (Γ.hm e)
theorem St.it(hS:St Γ):St (Γ.it I ot):=⟨hS.nn.it (I:=I) (ot:=ot),hS.cv,hS.ll,hS.fe,hS.nh,λe=>(hS.hn e).it (I:=I) (ot:=ot)⟩
structure IO(Γ:Fx prog w)(P:Pm)(ir:IE):Prop where
 e:∀σ,(wf ir).e Γ.env.scope=true->HH Γ P.x iv V.sc (eval (toE ir) Γ.env) σ (λk=>(ev ir).e P σ k)
 a:∀pos σ,(wf ir).a Γ.env.scope=true->HH Γ P.x ivs scs (spliced (backTo pos (starEach (toL ir) Γ.env))) σ (λk=>(ev ir).a P σ k)
 t:∀σ,(wf ir).t Γ.env.scope=true->HH Γ P.x SB sB (isTrue (toE ir) Γ.env (eval (toE ir) Γ.env)) σ (λk=>(ev ir).t P σ k)
theorem io_ok(hP:PG lv P Γ)(hS:St Γ)(ir:IE):IO Γ P ir:=by
 have A:=ir_ok ir Γ.nt P hP.nt hS.nn
 exact⟨λσ hc=>(A.e σ hc).nt,λpos σ hc=>(A.a pos σ hc).nt,λσ hc=>(A.t σ hc).nt⟩
theorem cls_no(hS:St Γ):(Γ.env.scope.kind==.class||Γ.env.scope.kind==.module&&Γ.env.locals !=Γ.env.globals)=false:=by
 rw[show Γ.env.scope.kind=.function from hS.nn.kd];rfl
theorem cells_same(H:CellsOk Γ ρ)(x:Pre ρ ρ'):CellsOk Γ ρ':=λi n a b=>⟨Nat.lt_of_lt_of_le (H i n a b).1 x.le,by rw[x.num (H i n a b).1];exact(H i n a b).2⟩
theorem store_ok{Q:Unit->Shared->Prop}(hS:St Γ)(hi:lcl Γ.env.scope i=true\/Γ.env.scope.names.lookup (nm i)=some .local)(R:Rl Γ ρ σ h)(hv:v.sc ρ.n)(hq:∀h' tk',Rl Γ ρ ⟨σ.hp,(i,v)::σ.vs,σ.nx⟩ h'->Q () (Γ.sh h' tk')):Γ.wp (storeName Γ.env (nm i) (iv ρ v)) Q E h tk:=by
 refine elEA (λm F cv=>?_)<|R.fr
 have hl:Γ.env.kindOf (nm i)=some .local:=hi.elim (λh=>(knd_e h).1) id
 refine wpAny_storeName_local hl (by rw[hS.ll];exact F.ns) (λh' hn hs=>?_) (cls_no hS)
 rw[hS.ll]at hn hs
 refine hq h' _ (R.bind hv (F.set hn hs) ((hS.cv _ _ _).mpr ⟨λj u hj=>?_,((hS.cv _ _ _).mp cv).2⟩) (R.nw.set hs))
 have hj:bi (Nat.beq j i) (some v) (lk σ.vs j)=some u:=hj
 rw[nm_iff,beq_comm']
 rcases e:Nat.beq j i with _|_
 .rw[e]at hj;exact((hS.cv _ _ _).mp cv).1 j u hj
 .rw[e]at hj;exact congrArg (Option.map (iv ρ)) hj
end
end Mine.Q
namespace Mine.Q
section
variable{prog:Program}{w:World}{lv:Bool}{Γ:Fx prog w}{P:Pm}{ρ ρ' ρ2:Rho}{σ σ2:S}{h h' h1 h2:Heap}{tk n d i:Nat}{v:V}{x:Value}{E:Value->Shared->Prop}{m m₂:Str->Option Value}{k:KV}{K:S->Bool}{I:Addr}{ot:Obj}{is:List (Nat×Nat)}
theorem ncomp_ok{e:IE}(h:isLc e=false):ncomp (toE e)=true:=by cases e<;>first|rfl|cases h
theorem swaps_ok{value:Expr}{t:Option Expr}{n:Nat}{env:Env}(h:ncomp value=true):swapsWith value t n env=pure false:=by
 cases value<;>first|rfl|cases h
theorem not_f{b:Bool}(h:(!b)=true):b=false:=by simpa using h
theorem each_len{env:Env}:∀{is:List (Nat×Nat)},(assignEach (toN is) env).length=is.length/\(assignEach (toN is) env).findIdx? (λx=>x.1)=none
 |[]=>⟨rfl,rfl⟩
 |(i,p)::is=>by
  obtain⟨e1,e2⟩:=each_len (env:=env) (is:=is)
  refine⟨congrArg (·+1) e1,?_⟩
  show List.findIdx? _ ((false,_)::assignEach (toN is) env)=none
  rw[List.findIdx?_cons,e2];rfl
theorem letA_len:∀{is:List (Nat×Nat)} {vs:List V} {σ:S},letA is vs σ K=true->is.length=vs.length
 |[],[],_,_=>rfl
 |[],_::_,_,g=>ff g
 |_::_,[],_,g=>ff g
 |i::is,v::vs,σ,g=>congrArg Nat.succ (letA_len (is:=is) (vs:=vs) (σ:=⟨σ.hp,(i.1,v)::σ.vs,σ.nx⟩) g)
theorem unp_in(hS:St Γ){Q:Unit->Shared->Prop}:∀{is:List (Nat×Nat)} {vs:List V} {σ:S} {h:Heap} {tk:Nat},wfN Γ.env.scope is=true->letA is vs σ K=true->Rl Γ ρ σ h->scs ρ.n vs->(∀σ' h' tk',Rl Γ ρ σ' h'->K σ'=true->Q () (Γ.sh h' tk'))->
 Γ.wp (assignInOrder ((assignEach (toN is) Γ.env).map (λx=>x.2)) (ivs ρ vs)) Q E h tk
 |[],[],σ,h,tk,hc,g,R,hv,hq=>assignInOrder_nil (hq σ h tk R g)
 |[],_::_,_,_,_,_,g,_,_,_=>ff g
 |_::_,[],_,_,_,_,g,_,_,_=>ff g
 |(i,p)::is,v::vs,σ,h,tk,hc,g,R,hv,hq=>by
  obtain⟨h1,h2⟩:=aa hc
  refine assignInOrder_cons (assign_Name (store_ok hS (.inr (eq_of_beq h1)) R (hv v (.head _)) λh' tk' R'=>?_))
  exact unp_in hS (is:=is) (vs:=vs) h2 g R' (λy hy=>hv y (.tail _ hy)) hq
theorem gUnp_ok{k0:Nat}{pos:Pos}{Q:Unit->Shared->Prop}(hS:St Γ)(hc:wfN Γ.env.scope is=true)(R:Rl Γ ρ σ h)(g:gUnp is v σ K=true)
 (hq:∀σ' h' tk',Rl Γ ρ σ' h'->K σ'=true->Q () (Γ.sh h' tk')):Γ.wp (assign (.Tuple (toN is) k0 pos) Γ.env (iv ρ v)) Q E h tk:=by
 replace g:=drf_e g ρ
 refine elEEAAA (λn ob r267 z268 hl g269=>?_) g;revert g269;clear g;intro g;subst r267;clear z268
 cases ob<;>first|exact ff g|skip
 rename_i vs c
 have g:letA is vs σ K=true:=g
 refine elEA (λm F cv=>?_)<|R.fr
 obtain⟨e1,e2⟩:=each_len (env:=Γ.env) (is:=is)
 refine unpackN_ (s:=Γ.sh h tk) F R.nw (R.isTup hl) (Γ.hd hS.nh) (by rw[e1,letA_len g];simp[ivs]) e2 λh' F N=>?_
 exact unp_in hS (vs:=vs) hc g (h:=h') (tk:=tk) ⟨R.toOk,R.toGd,⟨m,F,cv⟩,N,R.nd⟩ (R.sco hl).2.1 hq
theorem cell_ok{c:Nat}{v0:Option V}{Q:Unit->Shared->Prop}(hS:St Γ)(hc:cll Γ.env.scope i=true)(hn:lk Γ.ci i=some n)(hl:lk σ.hp n=some (.cel c v0))(R:Rl Γ ρ σ h)(hv:v.sc ρ.n)(g:putK σ n (λc=>.cel c (some v)) K=true)
 (hq:∀ρ' σ' h',Γ.Ext ρ ρ'->Rl Γ ρ' σ' h'->K σ'=true->Q () (Γ.sh h' tk)):Γ.wp (storeName Γ.env (nm i) (iv ρ v)) Q E h tk:=by
 refine elEA (λm F cv=>?_)<|R.fr
 obtain⟨-,hcl⟩:=((hS.cv _ _ _).mp cv).2 i n hc hn
 refine put_q R g hl λA B el K9=>?_
 have N:=R.nw
 have ND:=R.nd
 rw[el]at N ND
 have hmem:=N (ρ.num n,io w ρ (.cel c v0)) (List.mem_append_right _ (.head _))
 refine wpAny_storeName_cell hS.nn.kd (knd_e hc).1 hcl ⟨_,hmem.1,R.oko hl⟩ λh' hv' hs=>?_
 refine elEA (λo' ho' hd'=>?_) hv';clear hv'
 have N2:News ρ.g Γ.L h' (A++(ρ.num n,o')::B):=by
  refine elEEAAA (λown rest e hg h1 h2=>?_)<|(UpdF.of_nd ND updF_mid).split
  have q:=hg o'
  rw[e]at N
  rw[q]
  exact N.setAt h1 h2 hs ho'
 have F':Fr ρ.g Γ.L h' m:=⟨F.ns.sameBut hs (Ne.symm hmem.2.1),λb ob e=>(hs.2 b (λq=>by rw[q,hmem.2.2]at e;cases e)).trans (F.keep b ob e),F.above⟩
 refine elEAAA (λσ' x R' g' z270=>?_) (K9 0 o' ⟨λy hy=>by cases hy;exact hv.up push_pre.le,by rw[push_n];exact Nat.lt_succ_self _⟩ (by
  show((ρ.push 0 o').obj ρ.n).data=.cell (some (iv (ρ.push 0 o') v))
  rw[push_obj,push_pre.iv hv];exact hd') h' m F' cv (by
   rw[show io w (ρ.push 0 o') (.cel ρ.n (some v))=o' from push_obj];exact N2));clear z270
 exact hq _ σ' h' x R' g'
noncomputable def HS(Γ:Fx prog w)(P:Pm)(c:Sem Flow)(T:S->Po->Bool):Prop:=
 ∀(o:Po) σ ρ h tk (Q:Flow->Shared->Prop) (E:Value->Shared->Prop),T σ o=true->Rl Γ ρ σ h->(∀ρ' σ' h' tk',Γ.Ext ρ ρ'->Rl Γ ρ' σ' h'->o.nx σ'=true->Q .next (Γ.sh h' tk'))->KQ Γ ρ o.rt (λv=>Q (.ret v))->
  (∀ρ' σ' h' tk',Γ.Ext ρ ρ'->Rl Γ ρ' σ' h'->o.bk σ'=true->Q .brk (Γ.sh h' tk'))->EX Γ P.x ρ E->PassesOwn (model prog w) Γ.A Γ.env E->Γ.wp c Q E h tk
theorem bk_up{p:S->Bool}{q:Shared->Prop}(h:∀ρ'' σ'' h' tk',Γ.Ext ρ ρ''->Rl Γ ρ'' σ'' h'->p σ''=true->q (Γ.sh h' tk'))(x:Γ.Ext ρ ρ'):∀ρ'' σ'' h' tk',Γ.Ext ρ' ρ''->Rl Γ ρ'' σ'' h'->p σ''=true->q (Γ.sh h' tk'):=λa b c d e=>h a b c d (x.trans e)
theorem loopJ{tgt:Expr}{body:List Stmt}{n:Nat}{fp:List Addr}{Pv:Nat->Value->Prop}{Sw:Nat->Heap->Prop}{Ik:Nat->Obj->Prop}{Q:Flow->Shared->Prop}(J:Nat->Rho->S->Prop)
 (W:Walks prog w Γ.A I fp [I] n Pv Sw)(hIL:I≠Γ.L)
 (toSt:∀i it ρ' σ' h',J i ρ' σ'->Rl (Γ.it I it) ρ' σ' h'->Ik i it->Sw i h')(ofSt:∀i h,Sw i h->∃it,h.get? I=some it/\Ik i it)
 (hgo:∀i h tk x (Q:Unit->Shared->Prop) E,Sw (i+1) h->Pv i x->Q () (Γ.sh h tk)->Γ.wp (letOwnedTupleGo tgt (.ref I) x) Q E h tk)
 (turn:∀i it x ρ' σ' h' tk',i<n->Pv i x->J i ρ' σ'->Rl (Γ.it I it) ρ' σ' h'->Γ.wp (assign tgt Γ.env x) (λ_ s₂=>wpAny (model prog w) Γ.A (execs body Γ.env) (λf s₃=>match f with
   |.next|.cont=>∃ρ2 σ2 h2 tk2,s₃=Γ.sh h2 tk2/\J (i+1) ρ2 σ2/\Rl (Γ.it I it) ρ2 σ2 h2
   |.brk=>Q .next s₃
   |.ret v=>Q (.ret v) s₃) E s₂) E h' tk')
 (fin:∀ρ' σ' h' tk',J n ρ' σ'->Rl Γ ρ' σ' h'->Q .next (Γ.sh h' tk'))(hp:PassesOwn (model prog w) Γ.A Γ.env E)
 {it0:Obj}(R0:Rl (Γ.it I it0) ρ σ h)(k0:Ik 0 it0)(j0:J 0 ρ σ):
 codeAny (model prog w) Γ.A (.forLoop tgt (.ref I) body [] Γ.env) (λr s'=>match r with|.ok f=>Q f s'|.error e=>cameBackBy (model prog w) Γ.A Γ.env E e s') (Γ.sh h tk):=by
 refine codeAny_forLoop_any (R:=λr s'=>match r with|.ok f=>Q f s'|.error e=>cameBackBy (model prog w) Γ.A Γ.env E e s')
  (λk s'=>∃i ρ' σ' h' tk' it,s'=Γ.sh h' tk'/\J i ρ' σ'/\Rl (Γ.it I it) ρ' σ' h'/\Ik i it/\i<=n/\k=n+1-i) ?_ (n+1)
  ⟨0,ρ,σ,h,tk,it0,rfl,j0,R0,k0,Nat.zero_le _,rfl⟩
 rintro k s' ⟨i,ρ1,σ1,h1,tk1,it,rfl,j1,R1,k1,hle,rfl⟩
 have R1':=it_drop R1
 have off:=it_off R1
 have gI:=R1.nw (I,it) (it_perm.mem_iff.mp (.head _))
 have next:∀h₁:Heap,(∀b o,b∉[I]->h1.get? b=some o->h₁.get? b=some o)->∃m,Fr ρ1.g Γ.L h₁ m/\Γ.cov m ρ1 σ1/\News ρ1.g Γ.L h₁ (Γ.lg ρ1 σ1):=λh₁ hk₁=>by
  refine elEA (λm F cv=>?_)<|R1'.fr
  exact mkEAA m ⟨F.ns.at' λo e=>hk₁ _ o (by simpa using Ne.symm hIL) e,λb o e=>hk₁ b o (λhm=>by rw[List.mem_singleton.mp hm,gI.2.2]at e;cases e) (F.keep b o e),F.above⟩ cv (λp hp=>⟨hk₁ _ _ (by simpa using off p hp) (R1'.nw p hp).1,(R1'.nw p hp).2⟩)
 have S1:=toSt i it ρ1 σ1 h1 j1 R1 k1
 by_cases hlt:i<n
 .refine W.item i (Γ.sh h1 tk1) _ _ hlt S1 λv h₁ tk₁ hP hst₁ hk₁=>?_
  refine elEAA (λm F cv N=>?_)<|next h₁ hk₁
  refine elEA (λit₁ hit ik=>?_)<|ofSt _ _ hst₁
  have R2:Rl (Γ.it I it₁) ρ1 σ1 h₁:=it_add R1' F cv off λp hp=>by
   rcases List.mem_cons.mp hp with rfl|hp
   .exact⟨hit,gI.2⟩
   .exact N p hp
  refine hgo i h₁ tk₁ v _ _ hst₁ hP ?_
  refine wpAny_mono (wpAny_passesOwn hp (turn i it₁ v ρ1 σ1 h₁ tk₁ hlt hP j1 R2)) (λ_ s₂ h₂=>wpAny_mono (wpAny_passesOwn hp h₂) (λf s₃ h₃=>?_) λ_ _ e=>e) λ_ _ e=>e
  have nx:(∃ρ2 σ2 h2 tk2,s₃=Γ.sh h2 tk2/\J (i+1) ρ2 σ2/\Rl (Γ.it I it₁) ρ2 σ2 h2)->∃m,m<n+1-i/\∃i ρ' σ' h' tk' it,s₃=Γ.sh h' tk'/\J i ρ' σ'/\Rl (Γ.it I it) ρ' σ' h'/\Ik i it/\i<=n/\m=n+1-i:=λ⟨ρ2,σ2,h2,tk2,e,j2,R3⟩=>
   ⟨n+1-(i+1),by omega,i+1,ρ2,σ2,h2,tk2,it₁,e,j2,R3,ik,hlt,rfl⟩
  cases f
  .exact nx h₃
  .exact h₃
  .exact nx h₃
  .exact h₃
 .have hin:i=n:=by omega
  subst hin
  refine W.done (Γ.sh h1 tk1) _ _ S1 λh₁ tk₁ hk₁=>wpAny_execs_nil ?_
  refine elEAA (λm F cv N=>?_)<|next h₁ hk₁
  exact fin ρ1 σ1 h₁ tk₁ j1 ⟨R1'.toOk,R1'.toGd,⟨m,F,cv⟩,N,R1'.nd⟩
theorem loop_ok{tgt:Expr}{bind:V->S->(S->Bool)->Bool}{bodyT:S->Po->Bool}{body:List Stmt}{chk:S->Bool}{Ck:S->Prop}{vs:List V}{o:Po}{after:S->Bool}{fp:List Addr}{Pv:Nat->Value->Prop}{Sw:Nat->Heap->Prop}{Ik:Nat->Obj->Prop}{Q:Flow->Shared->Prop}{ρ₀:Rho}
 (W:Walks prog w Γ.A I fp [I] vs.length Pv Sw)(hIL:I≠Γ.L)
 (toSt:∀i it ρ' σ' h',Γ.Ext ρ₀ ρ'->Rl (Γ.it I it) ρ' σ' h'->Ik i it->Ck σ'->Sw i h')(ofSt:∀i h,Sw i h->∃it,h.get? I=some it/\Ik i it)
 (hgo:∀i h tk x (Q:Unit->Shared->Prop) E,Sw (i+1) h->Pv i x->Q () (Γ.sh h tk)->Γ.wp (letOwnedTupleGo tgt (.ref I) x) Q E h tk)
 (hst:∀it v x ρ σ h tk (K:S->Bool) (Q:Unit->Shared->Prop),Rl (Γ.it I it) ρ σ h->like ρ v x->bind v σ K=true->(∀ρ' σ' h' tk',Γ.Ext ρ ρ'->Rl (Γ.it I it) ρ' σ' h'->K σ'=true->Q () (Γ.sh h' tk'))->Γ.wp (assign tgt Γ.env x) Q E h tk)
 (B:∀it,HS (Γ.it I it) P (execs body Γ.env) bodyT)(hk:∀σ',chk σ'=true->Ck σ')(hi:∀(i:Nat) v,vs[i]?=some v->∀x,Pv i x->like ρ₀ v x)
 (qa:∀ρ' σ' h' tk',Γ.Ext ρ₀ ρ'->Rl Γ ρ' σ' h'->after σ'=true->Q .next (Γ.sh h' tk'))(qr:KQ Γ ρ₀ o.rt (λv=>Q (.ret v)))(hx:EX Γ P.x ρ₀ E)(hp:PassesOwn (model prog w) Γ.A Γ.env E)
 {it0:Obj}(R0:Rl (Γ.it I it0) ρ₀ σ h)(k0:Ik 0 it0)(c0:Ck σ)(g:vL bodyT bind chk o after vs σ=true):
 codeAny (model prog w) Γ.A (.forLoop tgt (.ref I) body [] Γ.env) (λr s'=>match r with|.ok f=>Q f s'|.error e=>cameBackBy (model prog w) Γ.A Γ.env E e s') (Γ.sh h tk):=by
 refine loopJ (λi ρ' σ'=>Γ.Ext ρ₀ ρ'/\Ck σ'/\vL bodyT bind chk o after (vs.drop i) σ'=true) W hIL (λi it ρ' σ' h' j R ik=>toSt i it ρ' σ' h' j.1 R ik j.2.1) ofSt hgo ?_ (λρ' σ' h' tk' j R=>?_) hp R0 k0 ⟨.refl,c0,g⟩
 .intro i it v ρ1 σ1 h1 tk1 hlt hP ⟨x1,c1,g1⟩ R2
  have hv:vs[i]?=some vs[i]:=by simp[hlt]
  have lk0:=hi i _ hv v hP
  rw[List.drop_eq_getElem_cons hlt]at g1
  have g1:bind vs[i] σ1 (λσ=>bodyT σ ⟨λσ'=>cd (chk σ') (vL bodyT bind chk o after (vs.drop (i+1)) σ'),o.rt,after⟩)=true:=g1
  refine hst it vs[i] v ρ1 σ1 h1 tk1 _ _ R2 (lk0.pre x1.1) g1 λρ2 σ2 h2 tk2 x2 R3 g3=>?_
  refine B it _ σ2 ρ2 h2 tk2 _ E g3 R3 (λρ3 σ3 h3 tk3 x3 R4 g4=>?_) (λu ρ3 σ3 h3 tk3 x3 su R4 g4=>?_) (λρ3 σ3 h3 tk3 x3 R4 g4=>?_) (EX.it (hx.up (x1.trans x2))) hp
  .obtain⟨hc,g4⟩:=cd_e g4
   exact⟨ρ3,σ3,h3,tk3,rfl,⟨(x1.trans x2).trans x3,hk _ hc,g4⟩,R4⟩
  .exact qr u ρ3 σ3 h3 tk3 ((x1.trans x2).trans x3) su (it_drop R4) g4
  .exact qa ρ3 σ3 h3 tk3 ((x1.trans x2).trans x3) (it_drop R4) g4
 .refine elAA (λx1 c1 g1=>?_) j;clear j
  rw[List.drop_length]at g1
  exact qa ρ' σ' h' tk' x1 R g1
end
end Mine.Q
namespace Mine.Q
section
variable{prog:Program}{w:World}{lv:Bool}{Γ:Fx prog w}{P:Pm}{ρ ρ' ρ2:Rho}{σ σ2:S}{h h' h1 h2:Heap}{tk n d i:Nat}{v:V}{x:Value}{E:Value->Shared->Prop}{m m₂:Str->Option Value}{k:KV}{K:S->Bool}{I:Addr}{ot:Obj}{is:List (Nat×Nat)}
theorem it_new(R:Rl Γ ρ σ h){it:Obj}(hf:it.isFreed=false):Rl (Γ.it h.objs.size it) ρ σ (h.push it):=by
 refine elEA (λm F cv=>?_)<|R.fr
 refine it_add R (F.push _) cv (λp hp e=>Nat.lt_irrefl _ (by have:=Heap.lt_size (R.nw p hp).1;rwa[e]at this)) λp hp=>?_
 rcases List.mem_cons.mp hp with rfl|hp
 .refine mkAA (Heap.get?_push_size _ hf) (Ne.symm (Nat.ne_of_lt F.ns.lt)) ?_
  rcases z:ρ.g.get? h.objs.size with _|o
  .rfl
  .exact absurd (Heap.lt_size (F.keep _ _ z)) (Nat.lt_irrefl _)
 .exact⟨Heap.get?_push_of_some _ (R.nw p hp).1,(R.nw p hp).2⟩
theorem it_L(R:Rl Γ ρ σ h):(h.objs.size:Addr)≠Γ.L:=by
 refine elEA (λm F cv=>?_)<|R.fr
 exact Ne.symm (Nat.ne_of_lt F.ns.lt)
theorem it_get(R:Rl (Γ.it I ot) ρ σ h):h.get? I=some ot:=(R.nw (I,ot) (it_perm.mem_iff.mp (.head _))).1
theorem get_lt(R:Rl Γ ρ σ h){o:O}(hl:lk σ.hp n=some o):ρ.num n≠h.objs.size:=Nat.ne_of_lt (Heap.lt_size (R.nw _ (R.mem hl)).1)
theorem for_ok(nh:Γ.hc=false){tgt:Expr}{bind:V->S->(S->Bool)->Bool}{bodyT:S->Po->Bool}{body:List Stmt}{o:Po}{after:S->Bool}{Q:Flow->Shared->Prop}
 (hgo:∀(I ax:Addr) i h tk x (Q:Unit->Shared->Prop) E,(h.IsListIter I ax i\/h.IsTupleIter I ax i\/∃z t,x=.int z t)->Q () (Γ.sh h tk)->Γ.wp (letOwnedTupleGo tgt (.ref I) x) Q E h tk)
 (hst:∀I it v x ρ σ h tk (K:S->Bool) (Q:Unit->Shared->Prop),Rl (Γ.it I it) ρ σ h->like ρ v x->bind v σ K=true->(∀ρ' σ' h' tk',Γ.Ext ρ ρ'->Rl (Γ.it I it) ρ' σ' h'->K σ'=true->Q () (Γ.sh h' tk'))->Γ.wp (assign tgt Γ.env x) Q E h tk)
 (B:∀I it,HS (Γ.it I it) P (execs body Γ.env) bodyT)
 (qa:∀ρ' σ' h' tk',Γ.Ext ρ ρ'->Rl Γ ρ' σ' h'->after σ'=true->Q .next (Γ.sh h' tk'))(qr:KQ Γ ρ o.rt (λv=>Q (.ret v)))(hx:EX Γ P.x ρ E)(hp:PassesOwn (model prog w) Γ.A Γ.env E)
 (R:Rl Γ ρ σ h)(g:walkK false v σ (λvs chk σ=>vL bodyT bind chk o after vs σ)=true):
 Γ.wp (pyIter (iv ρ v)) (λit s₂=>codeAny (model prog w) Γ.A (.forLoop tgt it body [] Γ.env) (λr s'=>match r with|.ok f=>Q f s'|.error e=>cameBackBy (model prog w) Γ.A Γ.env E e s') s₂) E h tk:=by
 rcases walk_e g ρ with⟨n,vs,c,chk,rfl,hl,hz,g,hk⟩|⟨-,n,vs,c,chk,rfl,hl,hz,g,hk⟩|⟨-,n,kvs,oi,chk,rfl,hl,hz,g,hk⟩
 .have isL:∀{ρ' σ' h'},Γ.Ext ρ ρ'->Rl Γ ρ' σ' h'->lk σ'.hp n=some (.list (ofV vs) c)->h'.IsList (ρ.num n) (ivs ρ vs).toArray:=λ{ρ' σ' h'} x R' hl'=>by
   have:=R'.isList hl'
   rwa[x.1.num (R.sco hl).1,x.1.sgs (R.sco hl).2.1,sgs_of]at this
  refine wpAny_pyIter_list (s:=Γ.sh h tk) (isL .refl R hl) ?_
  have W:=Walks.list (prog:=prog) (w:=w) (Γ.hd nh) h.objs.size (ρ.num n) (get_lt R hl) (ivs ρ vs).toArray
  rw[show(ivs ρ vs).toArray.size=vs.length by rw[List.size_toArray];exact List.length_map ..]at W
  refine loop_ok (Ck:=λσ'=>lk σ'.hp n=some (.list (ofV vs) c)) (Ik:=λi it=>it.cls=.type "list_iterator"/\it.data=.fields #[.ref (ρ.num n),.int i 0]) W (it_L R) (λi it ρ' σ' h' x R' ik ck=>⟨⟨it,it_get R',ik⟩,isL x (it_drop R') ck⟩)
   (λi h st=>st.1) (λi h tk x Q E st hv=>hgo _ _ _ h tk x Q E (.inl st.1)) (hst _) (B _) hk (λj v hj x hx=>items_l (λv hv=>(R.sco hl).2.1 (.it v) (ofV_mem hv)) j v hj x (by rwa[Nat.zero_add])) qa qr hx hp (it_new R rfl) ⟨rfl,rfl⟩ hl g
 .have isT:∀{ρ' σ' h'},Γ.Ext ρ ρ'->Rl Γ ρ' σ' h'->lk σ'.hp n=some (.tup vs c)->h'.IsTuple (ρ.num n) (ivs ρ vs).toArray:=λ{ρ' σ' h'} x R' hl'=>by
   have:=R'.isTup hl'
   rwa[x.1.num (R.sco hl).1,x.1.ivs (R.sco hl).2.1]at this
  refine wpAny_pyIter_tuple (s:=Γ.sh h tk) (isT .refl R hl) ?_
  have W:=Walks.tuple (prog:=prog) (w:=w) (Γ.hd nh) h.objs.size (ρ.num n) (get_lt R hl) (ivs ρ vs).toArray
  rw[show(ivs ρ vs).toArray.size=vs.length by rw[List.size_toArray];exact List.length_map ..]at W
  refine loop_ok (Ck:=λσ'=>lk σ'.hp n=some (.tup vs c)) (Ik:=λi it=>it.cls=.type "tuple_iterator"/\it.data=.fields #[.ref (ρ.num n),.int i 0]) W (it_L R) (λi it ρ' σ' h' x R' ik ck=>⟨⟨it,it_get R',ik⟩,isT x (it_drop R') ck⟩)
   (λi h st=>st.1) (λi h tk x Q E st hv=>hgo _ _ _ h tk x Q E (.inr (.inl st.1))) (hst _) (B _) hk (λj v hj x hx=>items_l (R.sco hl).2.1 j v hj x (by rwa[Nat.zero_add])) qa qr hx hp (it_new R rfl) ⟨rfl,rfl⟩ hl g
 .obtain⟨d,lo⟩:=R.oko hl
  obtain⟨ep,ha⟩:=KdkAt.of d
  have isD:∀{ρ' σ' h'},Γ.Ext ρ ρ'->Rl Γ ρ' σ' h'->(∃kvs',lk σ'.hp n=some (.dI oi kvs'))->h'.DictAt (PySem.intKind prog w) (ρ.num n) (kvs.map λp=>((p.1:Int),iv ρ p.2)) ep:=λ{ρ' σ' h'} x R' hl'=>by
   obtain⟨kvs',hl'⟩:=hl'
   have q:=(R'.nw _ (R'.mem hl')).1
   rw[x.1.num (R.sco hl).1,show io w ρ' (.dI oi kvs')=ρ.obj oi from x.1.obj (R.sco hl).2.2]at q
   exact ha.dictAt q
  refine wpAny_pyIter_dict (s:=Γ.sh h tk) lo (isD .refl R ⟨_,hl⟩) ?_
  have W:=Walks.dictKeys (prog:=prog) (w:=w) (knd:=PySem.intKind prog w) (Γ.hd nh) h.objs.size (ρ.num n) (get_lt R hl) (kvs.map λp=>((p.1:Int),iv ρ p.2)) ep
  rw[show(kvs.map λp=>((p.1:Int),iv ρ p.2)).length=(kvs.map λp=>V.int [] (Int.ofNat p.1) 0).length by rw[List.length_map,List.length_map]]at W
  refine loop_ok (Ck:=λσ'=>∃kvs',lk σ'.hp n=some (.dI oi kvs')) (Ik:=λi it=>it.cls=.type "dict_keyiterator"/\it.data=.fields #[.ref (ρ.num n),.int i 0,.int (kvs.map λp=>V.int [] (Int.ofNat p.1) 0).length 0,.int ep 0]) W (it_L R) (λi it ρ' σ' h' x R' ik ck=>⟨⟨it,it_get R',ik⟩,isD x (it_drop R') ck⟩)
   (λi h st=>st.1) (λi h tk x Q E st hv=>hgo _ 0 0 h tk x Q E (.inr (.inr (by refine elEEA (λk y z271 h2=>?_) hv;clear z271;clear hv;obtain⟨t,rfl⟩:=Value.isInt_shape h2;exact⟨_,_,rfl⟩)))) (hst _) (B _) hk (λj v hj x hx=>?_) qa qr hx hp (it_new R rfl) ⟨rfl,?_⟩ ⟨_,hl⟩ g
  .refine elEEA (λk y h1 h2=>?_) hx;clear hx
   obtain⟨t,rfl⟩:=Value.isInt_shape h2
   rw[List.getElem?_map]at hj h1
   rcases q:kvs[j]? with _|p
   .rw[q]at hj;cases hj
   .rw[q]at hj h1
    cases hj
    cases h1
    exact⟨t,by rw[lns_nil,Int.zero_add];rfl⟩
  .rw[List.length_map,List.length_map];rfl
end
end Mine.Q
namespace Mine.Q
section
variable{prog:Program}{w:World}{lv:Bool}{Γ:Fx prog w}{P:Pm}{ρ ρ' ρ2:Rho}{σ σ2:S}{h h' h1 h2:Heap}{tk n d i:Nat}{v:V}{x:Value}{E:Value->Shared->Prop}{m m₂:Str->Option Value}{k:KV}{K:S->Bool}{I:Addr}{ot:Obj}{is:List (Nat×Nat)}
theorem dict_nf{K:Type}[DecidableEq K]{knd:PySem.KeyKind prog w K}{o:Obj}{l:List (K×Value)}(h:o.IsDictOf knd l):∀vs,o.data≠.fields vs:=λvs e=>by
 refine elEEAA (λes ep z272 d z273=>?_) h;clear z272 z273;clear h
 rw[d]at e;cases e
theorem nf_o{a:Addr}{o:O}(k:okO prog w ρ a o)(hf:∀o' d,o≠.flt o' d):∀vs,(io w ρ o).data≠.fields vs:=by
 cases o
 case list=>exact λ_ e=>nomatch e
 case tup=>exact λ_ e=>nomatch e
 case inst=>exact λ_ e=>nomatch e
 case attrs=>exact λ_ e=>nomatch e
 case dS=>obtain⟨⟨l,d,-⟩,-⟩:=k;exact dict_nf d
 case dI=>exact dict_nf k.1
 case dK=>obtain⟨⟨l,d,-⟩,-⟩:=k;exact dict_nf d
 case dT=>obtain⟨d,-⟩:=k;exact dict_nf d
 case scr o=>
  refine elEEEA (λvs' ns vn e z274=>?_) k;clear z274;clear k
  intro vs q
  have q:(ρ.obj o).data=_:=q
  rw[e]at q;cases q
 case spt o b=>
  refine elEEEA (λi t n e z275=>?_) k;clear z275;clear k
  intro vs q
  have q:(ρ.obj o).data=_:=q
  rw[e]at q;cases q
 case cel o v=>
  intro vs q
  have:=(Eq.symm k).trans q
  cases this
 case flt o d=>exact absurd rfl (hf o d)
 case fld o c t=>
  refine elEEA (λes nn e z276=>?_) k;clear z276;clear k
  intro vs q
  have q:(ρ.obj o).data=_:=q
  rw[e]at q;cases q
theorem noF_t{a:Nat}{o:O}{r:Hp}(g:noF ((a,o)::r)=true):noF r=true/\∀o' d,o≠.flt o' d:=
 ⟨by cases o<;>first|exact ff g|exact g,λo' d e=>by subst e;exact ff g⟩
theorem noF_e{hp:Hp}(g:noF hp=true)(p)(hm:p∈hp):∀o d,p.2≠.flt o d:=by
 induction hp with
 |nil=>exact absurd hm List.not_mem_nil
 |cons q r ih=>
  obtain⟨g1,g2⟩:=noF_t g
  rcases List.mem_cons.mp hm with rfl|hm
  .exact g2
  .exact ih g1 hm
theorem nf_led(R:Rl Γ ρ σ h)(g:noF σ.hp=true):∀q∈led w ρ σ.hp,∀vs,q.2.data≠.fields vs:=λq hq=>by
 refine elEA (λp hp r277=>?_)<|List.mem_map.mp hq;subst r277
 exact nf_o (R.ok p hp) (noF_e g p hp)
theorem xr_new{e d C:Addr}{c:Int}{t1:Tok}{a0:Value}{es:List DictEntry}{n:Nat}(R:Rl Γ ρ σ h)(nf:noF σ.hp=true)(F:Fr ρ.g Γ.L h' m)(cv:Γ.cov m ρ σ)(N:News ρ.g Γ.L h' ((d,dictOf es n)::(e,excO C d a0 .none .none)::Γ.lg ρ σ))
 (ND:(ads ((d,dictOf es n)::(e,excO C d a0 .none .none)::Γ.lg ρ σ)).Nodup)(hc:getL "code" es=some (some (.int c t1))):XR Γ ρ σ h' e C c:=by
 have sub:List.Sublist (led w ρ σ.hp++Γ.rest) (Γ.lg ρ σ):=List.Sublist.append (List.Sublist.refl _) (List.sublist_append_left _ _)
 have N2:News ρ.g Γ.L h' ((d,dictOf es n)::(e,excO C d a0 .none .none)::(led w ρ σ.hp++Γ.rest)):=λq hq=>N q (((sub.cons_cons _).cons_cons _).subset hq)
 refine⟨R.toOk,R.toGd,⟨m,xin_new R.bl F N2 (ND.sublist (((sub.cons_cons _).cons_cons _).map _)) hc (λq hq=>?_) Γ.lf Γ.kd,cv⟩,λq hq=>?_⟩
 .rcases List.mem_append.mp hq with hq|hq
  .exact nf_led R nf q hq
  .exact Γ.nf q hq
 .have hm:q∈Γ.lg ρ σ:=List.mem_append_right _ (List.mem_append_right _ hq)
  have z:=N q (.tail _ (.tail _ hm))
  obtain⟨d1,d2⟩:=List.nodup_cons.mp ND
  obtain⟨d3,d4⟩:=List.nodup_cons.mp d2
  have hm':q.1∈ads (Γ.lg ρ σ):=List.mem_map_of_mem (f:=(·.1)) hm
  refine mkAAAAA z.1 z.2.2 z.2.1 (λq9=>d3 (q9▸hm')) (λd' a0' head' vs2' z9=>?_) (λz9=>?_)
  .rw[(N _ (.tail _ (.head _))).1]at z9
   injection z9 with z9
   injection z9 with _ zd zf
   injection zd with zd
   injection zf with zf
   have zh:Value.none=head':=by injection zf with zf;injection zf with _ zf;injection zf
   subst zd;subst zh
   exact⟨λq9=>Value.noConfusion q9,λq9=>d1 (q9▸.tail _ hm')⟩
  .have:(ads ((led w ρ σ.hp++Γ.rest)++Γ.its)).Nodup:=by rw[List.append_assoc];exact R.nd
   rw[ads,List.map_append,List.nodup_append]at this
   exact this.2.2 _ z9 _ (List.mem_map_of_mem hq) rfl
theorem fill_Qs23:hd.heap_39=hd.heap_39/\PySem.Challenge.rw_no0258_01=PySem.Challenge.rw_no0258_01:=by k_fill;exact⟨rfl,rfl⟩
theorem raiseC{C:Addr}{a0:Value}{d:Addr}{e:Addr}{s₁:Shared}(hC:C=51\/C=70)(hd0:(hd.heap_39 w.params).In s₁.heap)(he:s₁.heap.get? e=some (excO C d a0 .none .none))(hE:E (.ref e) s₁):MyR E (.ref e) s₁:=by
 rcases hC with rfl|rfl
 .refine' myR_of ?hC ?hB he hE
  (case hC=>exact hd0 _ _ (by k_dflt k_is))
  (case hB=>decide+kernel)
 .refine' myR_of ?hC ?hB he hE
  (case hC=>exact hd0 _ _ (by k_dflt k_is))
  (case hB=>decide+kernel)
theorem rio_ok(nh:Γ.hc=false){c t1 t2:Tok}{y:Str}(hD:Γ.D<=480)(R:Rl Γ ρ σ h)(nf:noF σ.hp=true)(hx:∀e h' tk',XR Γ ρ σ h' e 51 c->E (.ref e) (Γ.sh h' tk')):Γ.wp (call (.ref 51) [.int c t1,.str y t2]) (MyR E) E h tk:=by
 refine elEA (λm F cv=>?_)<|R.fr
 have:=Γ.dp
 have:=Γ.un
 refine io_new Γ.fr (Γ.hd nh) (by omega) (by omega) Γ.lf Γ.kd R.bl F R.kn R.tp R.nw R.nd λe d a0 es n h' tk' hc F' N' ND'=>?_
 exact raiseC (w:=w) (.inl rfl) (R.kn.keeps F'.keep) (N' _ (.tail _ (.head _))).1 (hx e h' tk' (xr_new R nf F' cv N' ND' hc))
theorem ren_ok(nh:Γ.hc=false){t2:Tok}{y:Str}(hD:Γ.D<=470)(R:Rl Γ ρ σ h)(nf:noF σ.hp=true)(hx:∀e h' tk',XR Γ ρ σ h' e 70 (-1)->E (.ref e) (Γ.sh h' tk')):Γ.wp (call (.ref 70) [.str y t2]) (MyR E) E h tk:=by
 refine elEA (λm F cv=>?_)<|R.fr
 have:=Γ.dp
 have:=Γ.un
 refine end_new Γ.fr (Γ.hd nh) (by omega) (by omega) Γ.lf Γ.kd R.bl F R.kn R.tp R.nw R.nd λe d a0 es n t1 h' tk' hc F' N' ND'=>?_
 exact raiseC (w:=w) (.inr rfl) (R.kn.keeps F'.keep) (N' _ (.tail _ (.head _))).1 (hx e h' tk' (xr_new R nf F' cv N' ND' hc))
theorem Rl.garb(R:Rl Γ ρ σ h)(o:Obj):Rl Γ ρ σ (h.push o):=by
 refine elEA (λm F cv=>?_)<|R.fr
 exact⟨R.toOk,R.toGd,⟨m,F.push _,cv⟩,λp hp=>⟨Heap.get?_push_of_some _ (R.nw p hp).1,(R.nw p hp).2⟩,R.nd⟩
noncomputable abbrev rngV(n:Nat):List V:=(List.range n).map λi=>.int [] (Int.ofNat i) 0
theorem rng_eq:∀(n:Nat) (l:List V),(Nat.rec (motive:=λ_=>List V->List V) (λl=>l) (λi ih l=>ih (.int [] (Int.ofNat i) 0::l)) n l)=rngV n++l
 |0,l=>rfl
 |n+1,l=>by
  show(Nat.rec (motive:=λ_=>List V->List V) (λl=>l) (λi ih l=>ih (.int [] (Int.ofNat i) 0::l)) n (.int [] (Int.ofNat n) 0::l))=_
  rw[rng_eq n,rngV,rngV,List.range_succ,List.map_append,List.append_assoc];rfl
theorem rng_size(n:Nat):Builtin.Range.rangeSize 0 (n:Int) 1=(n:Int):=by
 unfold Builtin.Range.rangeSize
 rw[if_pos (by decide)]
 split
 .omega
 .omega
theorem rng_small(n:Nat)(h:n<=900):Builtin.Range.small 0 (n:Int) 1=true:=by
 have:∀n:Nat,n<901->Builtin.Range.small 0 (n:Int) 1=true:=by decide+kernel
 exact this n (by omega)
theorem rng_like(n:Nat):∀(j:Nat) v,(rngV n)[j]?=some v->∀x,(∃t,x=Value.int (0+(j:Int)) t)->like ρ v x:=λj v hj x hx=>by
 obtain⟨t,rfl⟩:=hx
 rw[List.getElem?_map]at hj
 rcases q:(List.range n)[j]? with _|a
 .rw[q]at hj;cases hj
 .rw[q]at hj
  cases hj
  obtain⟨h1,h2⟩:=List.getElem?_eq_some_iff.mp q
  rw[List.getElem_range]at h2
  subst h2
  exact⟨t,by rw[lns_nil];rfl⟩
theorem nm_rng:nsIn (KF w) mainGlobals (nm 159)=some none/\bootBuiltins (nm 159)=some (.type "range"):=⟨bn_range,bb_range⟩
theorem nm_rng':nm 159≠"__name__"/\(nm 159==("__debug__":Str))=false:=by decide+kernel
theorem rng_ok{a:IE}{p q:Nat}{b:Bool}{K:List V->(S->Bool)->S->Bool}{Q:Value->Shared->Prop}(hN:Nm Γ)(A:HE Γ P a)(hc:(wf (.rng a p q)).r Γ.env.scope=true)(R:Rl Γ ρ σ h)(g:(ev (.rng a p q)).w b P σ K=true)(hx:EX Γ P.x ρ E)
 (hq:∀n r ρ1 σ1 h1 tk1 t u v,Γ.Ext ρ ρ1->Rl Γ ρ1 σ1 h1->n<=900->K (rngV n) (λ_=>true) σ1=true->IsRange h1 r 0 n 1 t u v->Q (.ref r) (Γ.sh h1 tk1)):Γ.wp (eval (toE (.rng a p q)) Γ.env) Q E h tk:=by
 obtain⟨h1,h2⟩:=aa hc
 refine Call_ (hN.blt (eq_of_beq h1) (nm_rng (w:=w)).1 (nm_rng (w:=w)).2 nm_rng'.1 nm_rng'.2 R (PyProof.Rows.callWith_type1 (args_cons (A σ h2 _ _ h tk _ E g R (λv ρ1 σ1 h1 tk1 x1 s1 R1 g1=>args_nil ?_) hx) (star_cons (toE_nstar _))) (star_cons (toE_nstar _)) rfl)) eval_call
 replace g1:=lit_e g1
 refine elEEA (λn t r278 g279=>?_) g1;revert g279;clear g1;intro g1;subst r278
 replace g1:=cd_e g1
 obtain⟨hz,g1⟩:=g1
 rw[rng_eq,List.append_nil]at g1
 show Γ.wp (call (.type "range") [iv ρ1 (.int [] n t)]) Q E h1 tk1
 rw[iv_lit]
 exact call_range_1 (hq n _ ρ1 σ1 _ _ _ _ _ x1 (R1.garb _) (Nat.le_of_ble_eq_true hz) g1 (IsRange.new _ _ _ _ _ _ _))
end
end Mine.Q
namespace Mine.Q
section
variable{prog:Program}{w:World}{lv:Bool}{Γ:Fx prog w}{P:Pm}{ρ ρ' ρ2 ρ₀:Rho}{σ σ2:S}{h h' h1 h2:Heap}{tk n d i:Nat}{v:V}{x:Value}{E:Value->Shared->Prop}{m m₂:Str->Option Value}{k:KV}{K:S->Bool}{I:Addr}{ot:Obj}{is:List (Nat×Nat)}
noncomputable def Fx.fv(Γ:Fx prog w)(l:List (Nat×V)):Fx prog w:={Γ with cov:=λ_ _ σ=>σ.vs=l,cx:=λ_ _ _ _ _ _ _ e H=>e.trans H}
theorem fv_in(R:Rl Γ ρ σ h):Rl (Γ.fv σ.vs) ρ σ h:=by
 refine elEA (λm F z280=>?_)<|R.fr;clear z280
 exact⟨R.toOk,⟨R.kn,R.tp,R.bl,R.kt⟩,⟨m,F,rfl⟩,R.nw,R.nd⟩
theorem finA(hS:St Γ)(R0:Rl Γ ρ₀ σ2 h1){Q:Flow->Shared->Prop}(hq:∀ρ' σ' h' tk',Γ.Ext ρ₀ ρ'->Rl Γ ρ' σ' h'->K σ'=true->Q .next (Γ.sh h' tk')){g:Heap}{t:Nat}:∀ys ρ' σ' h',(Γ.nt.at m).Ext ρ₀ ρ'->ρ'.g=ρ₀.g->scs ρ'.n ys->Rl (Γ.nt.at m) ρ' σ' h'->(Γ.nt.at m).cov m ρ' σ'->
 newK σ' (.list (ofV ys)) (λv σ=>letK σ i v K)=true->LCg.FinA ρ₀.g Γ.L m (Γ.sh g t) (nm i) Q (ivs ρ' ys) ((Γ.nt.at m).lg ρ' σ'):=
 λys ρ' σ' h' x eg hs R cv gk D hh tk F N o1=>by
  refine elAA (λR2 z281 cv2=>?_)<|at_out R;clear z281
  have R3:Rl Γ ρ' σ' h':=nt_out R0 x R2
  rw[←eg]at F N
  refine new_neX (Γ:=Γ.fv σ'.vs) (a:=D) (ob:=LCg.lst (ivs ρ' ys)) (fv_in R3) gk (ivs ρ' ys).length default F rfl N (off1_mem o1) ?_ ⟨λs hh=>(ofV_sc hs s hh).up p2_pre.le,by rw[p2_n];exact Nat.lt_succ_self _⟩ trivial λρ4 σ4 x4 sc4 R4 g4 ev4 el4 cv4 eg4=>?_
  .show listOf _ _=_
   rw[p2_pre.sgs (ofV_sc hs),p2_cnt,sgs_of]
  .have cv4:σ4.vs=σ'.vs:=cv4
   obtain⟨c1,c2⟩:=(hS.cv _ _ _).mp cv2
   have g4:K ⟨σ4.hp,(i,.ref ρ'.n)::σ4.vs,σ4.nx⟩=true:=g4
   refine hq ρ4 ⟨σ4.hp,(i,.ref ρ'.n)::σ4.vs,σ4.nx⟩ hh tk (Fx.Ext.trans (Γ:=Γ) (nt_ext (Γ:=Γ) x) (Fx.Ext.of x4.1 eg4)) ⟨⟨R4.ln,R4.ok,R4.so,λp hp=>?_,R4.hx,R4.ll,R4.lh,R4.dd⟩,R3.toGd.up eg4,⟨_,by rw[eg4];exact F,(hS.cv _ _ _).mpr ⟨λj u hj=>?_,cells_same c2 x4.1⟩⟩,R4.nw,R4.nd⟩ g4
   .rcases List.mem_cons.mp hp with rfl|hp
    .exact sc4
    .exact R4.sv p hp
   .have hj:bi (Nat.beq j i) (some (.ref ρ'.n)) (lk σ4.vs j)=some u:=hj
    rw[nm_iff,beq_comm']
    rcases e:Nat.beq j i with _|_
    .rw[e]at hj
     have hj:lk σ4.vs j=some u:=hj
     rw[cv4]at hj
     refine(c1 j u hj).trans (congrArg some (x4.1.iv ?_).symm)
     exact R3.sv _ (lk_mem hj)
    .rw[e]at hj
     have hj:some (V.ref ρ'.n)=some u:=hj
     cases hj
     exact congrArg some ev4.symm
theorem r_rng{it:IE}{cs:Scope}(h:(wf it).r cs=true):∃a p q,it=.rng a p q:=by
 cases it<;>first|exact ff h|exact⟨_,_,_,rfl⟩
theorem asl_ok{e:IE}{q p:Nat}{Q:Flow->Shared->Prop}(hP:PG lv P Γ)(hS:St Γ)(hi:lcl Γ.env.scope i=true)(hc:wfL Γ.env.scope i q e=true)(R:Rl Γ ρ σ h)(g:(ev e).e P σ (λv σ=>letK σ i v K)=true)(hx:EX Γ P.x ρ E)
 (hq:∀ρ' σ' h' tk',Γ.Ext ρ ρ'->Rl Γ ρ' σ' h'->K σ'=true->Q .next (Γ.sh h' tk')):Γ.wp (exec (.Assign [.Name (nm i) (dp q)] (toE e) (dp p)) Γ.env) Q E h tk:=by
 cases e<;>first|exact ff hc|skip
 rename_i elt is tp it c sn ep
 refine aa5 (λw1 w2 h2 h3 h4 h5=>?_) hc
 have L:=lcB_e h4
 have hl:Γ.env.kindOf (nm i)=some .local:=(knd_e hi).1
 have hcn:c=.nil:=Classical.byContradiction λhcn=>by
  rw[isNil_ne hcn]at h3
  exact ff h3
 subst hcn
 refine elEA (λm F0 cv0=>?_)<|R.fr
 have hN':=hS.nn.at (m:=m)
 have hP':=hP.nt.at (m:=m)
 have R':=at_in (nt_in R) F0 cv0
 have A:=ir_ok elt (prog:=prog) (w:=w) (lv:=lv)
 have B:=ir_ok it (prog:=prog) (w:=w) (lv:=lv)
 have eg:∀{ρ1},(Γ.nt.at m).Ext ρ ρ1->ρ1.g=ρ.g:=λx=>x.2.2 rfl
 have sw:∀(elt:Expr) gs n,swapsWith (.ListComp elt gs (toSc sn) (dp ep)) (some (.Name (nm i) (dp q))) n Γ.env=pure true:=λelt gs n=>by
  have e1:(Γ.env.blockKind==.function)=true:=by
   unfold Env.blockKind
   rw[show Γ.env.scope.kind=.function from hS.nn.kd];rfl
  have e2:(Γ.env.kindOf (nm i)==some .local)=true:=by rw[hl];rfl
  show(pure (Γ.env.blockKind==.function&&Γ.env.kindOf (nm i)==some .local&&(dp q).line==(dp ep).line&&!((toSc sn).names.any λ(n,k)=>n==nm i&&(k==.local||k==.cell))):Sem Bool)=pure true
  rw[e1,e2,w1]
  exact congrArg pure w2
 have g:(ev it).w true P σ (λvs chk σ=>S.rec (λhp lv nx=>vLc (P0 P) (ev elt) is tp none lv chk vs (λl=>l) ⟨hp,lv,nx⟩ λys σ=>newK σ (.list (ofV ys)) λv σ=>letK σ i v K) σ)=true:=g
 have hx':EX (Γ.nt.at m) P.x ρ E:=(hx.nt R).at
 rcases tp with _|tp
 .obtain⟨xi,xp,rfl⟩:∃xi xp,is=[(xi,xp)]:=by
   have:=L.ln
   rcases is with _|⟨a,r⟩
   .cases this
   .rcases r with _|⟨_,_⟩
    .exact⟨a.1,a.2,rfl⟩
    .cases this
  refine LCg.Assign_ListComp_U F0 hS.ll (sw _ _ _) (LcOk.clos (Γ:=Γ.nt) L hS.nn) toSc_cell rfl L.nl (L.lo _ (.head _)) hl (cls_no hS) ?_ (fold_ok it _)
  rcases Bool.or_eq_true _ _▸h2 with h2|h2
  .refine w_l (B (Γ.nt.at m) P hP' hN') h2 R' g hx' λv ρ1 σ1 h1 tk1 x1 s1 R1 g1=>?_
   refine elEEEEAAAA (λn vs c' chk r282 hl hz g283 g284=>?_)<|lc_list ρ1 g1;subst r282;revert g283 g284;intro g1 hk
   refine elAA (λR2 F1 cv1=>?_)<|at_out R1
   rw[←eg x1]
   refine LCg.CompSrc.ledger (Γ.hd hP.nh) F1 R1.nw (srcMem R1 hl) (sz_l hz) λg=>?_
   have X1:=nt_ext (Γ:=Γ) (ρ:=ρ) (ρ':=ρ1) x1
   have:=rest_U (Γ:=Γ.nt.at m) (ρ₀:=ρ1) (T:=LCg.SrcAt ρ1.g (ρ1.num n) (ivs ρ1 vs).toArray) (Pv:=λi v=>(ivs ρ1 vs).toArray[i]?=some v) (h0:=g) (tk0:=tk1) hP' hN' L.fr A h5 (λρ' σ' h' x R' hc=>srcAt R1 x (x.2.2 rfl) hl R' (hk _ hc)) (finA (g:=g) (t:=tk1) hS (nt_out R x1 R2) (λρ' σ' h' tk' x=>hq ρ' σ' h' tk' (X1.trans x))) vs 0 (λl=>l) [] ρ1 σ1 h1 .refl rfl (λ_=>rfl) R1 ⟨rfl,cv1⟩ (λ_ h=>nomatch h) (items_l λv hv=>(R2.sco hl).2.1 (.it v) (ofV_mem hv)) g1
   rw[show(ivs ρ1 vs).toArray.size=vs.length by rw[List.size_toArray];exact List.length_map ..]
   exact this
  .obtain⟨-,h2⟩:=aa h2
   refine elEEE (λa pp qq r285=>?_)<|r_rng h2;subst r285
   refine rng_ok (Γ:=Γ.nt.at m) hN' (ir_ok a (Γ.nt.at m) P hP' hN').e h2 R' g hx' λn r ρ1 σ1 h1 tk1 t u v x1 R1 hz g1 hr=>?_
   refine elAA (λR2 F1 cv1=>?_)<|at_out R1
   rw[←eg x1]
   refine LCg.CompSrc.range (Γ.hd hP.nh) F1 R1.nw hr (rng_small n hz) (rng_size n) (fits_line (Nat.le_trans hz (Nat.le_of_ble_eq_true rfl))) λg=>?_
   have X1:=nt_ext (Γ:=Γ) (ρ:=ρ) (ρ':=ρ1) x1
   have:=rest_U (Γ:=Γ.nt.at m) (ρ₀:=ρ1) (T:=λ_=>True) (Pv:=λi v=>∃t,v=.int (0+(i:Int)) t) (h0:=g) (tk0:=tk1) hP' hN' L.fr A h5 (λρ' σ' h' x R' hc=>trivial) (finA (g:=g) (t:=tk1) hS (nt_out R x1 R2) (λρ' σ' h' tk' x=>hq ρ' σ' h' tk' (X1.trans x))) (rngV n) 0 (λl=>l) [] ρ1 σ1 h1 .refl rfl (λ_=>rfl) R1 ⟨rfl,cv1⟩ (λ_ h=>nomatch h) (λj v hj x hx=>rng_like n j v hj x (by rwa[Nat.zero_add]at hx)) g1
   rw[show(rngV n).length=n by rw[List.length_map,List.length_range]]at this
   exact this
 .obtain⟨xi,xp,xj,xq,rfl⟩:∃xi xp xj xq,is=[(xi,xp),(xj,xq)]:=by
   have:=L.ln
   rcases is with _|⟨a,r⟩
   .cases this
   .rcases r with _|⟨b,r⟩
    .cases this
    .rcases r with _|⟨_,_⟩
     .exact⟨a.1,a.2,b.1,b.2,rfl⟩
     .cases this
  have hne:nm xi≠nm xj:=λe=>by
   have:=(List.nodup_cons.mp L.nd).1
   rw[nm_inj e]at this
   exact this (.head _)
  have h2:wfE Γ.env.scope it=true:=by
   rcases Bool.or_eq_true _ _▸h2 with h2|h2
   .exact h2
   .exact ff h2
  refine LCp.Assign_ListComp_P F0 hS.ll (sw _ _ _) (LcOk.clos (Γ:=Γ.nt) L hS.nn) toSc_cell rfl L.nl (L.lo _ (.head _)) (L.lo _ (.tail _ (.head _))) hne hl (cls_no hS) (w_l (B (Γ.nt.at m) P hP' hN') h2 R' g hx' λv ρ1 σ1 h1 tk1 x1 s1 R1 g1=>?_) (fold_ok it _)
  refine elEEEEAAAA (λn vs c' chk r286 hl hz g287 g288=>?_)<|lc_list ρ1 g1;subst r286;revert g287 g288;intro g1 hk
  refine elAA (λR2 F1 cv1=>?_)<|at_out R1
  rw[←eg x1]
  refine LCp.SrcLP.ledger (Γ.hd hP.nh) F1 R1.nw (srcMem R1 hl) (sz_l hz) λg=>?_
  have X1:=nt_ext (Γ:=Γ) (ρ:=ρ) (ρ':=ρ1) x1
  have:=rest_P (Γ:=Γ.nt.at m) (ρ₀:=ρ1) (T:=LCg.SrcAt ρ1.g (ρ1.num n) (ivs ρ1 vs).toArray) (Pv:=λi v=>(ivs ρ1 vs).toArray[i]?=some v) (h0:=g) (tk0:=tk1) hP' hN' L.fr A h5 (λρ' σ' h' x R' hc=>srcAt R1 x (x.2.2 rfl) hl R' (hk _ hc)) (finA (g:=g) (t:=tk1) hS (nt_out R x1 R2) (λρ' σ' h' tk' x=>hq ρ' σ' h' tk' (X1.trans x))) vs 0 (λl=>l) [] ρ1 σ1 h1 .refl rfl (λ_=>rfl) R1 ⟨rfl,cv1⟩ (λ_ h=>nomatch h) (items_l λv hv=>(R2.sco hl).2.1 (.it v) (ofV_mem hv)) g1
  rw[show(ivs ρ1 vs).toArray.size=vs.length by rw[List.size_toArray];exact List.length_map ..]
  exact this
end
end Mine.Q
namespace Mine.Q
noncomputable def noTry(c:IS):Bool:=IS.rec (motive:=λ_=>Bool) true (λ_ _ _ _ _ r=>r) (λ_ _ _ _ _ _ r=>r) (λ_ _ _ _ _ _ r=>r) (λ_ _ _ _ _ _ r=>r) (λ_ _ _ _ _ _ _ r=>r) (λ_ _ _ _ _ _ _ r=>r) (λ_ _ _ _ _ r=>r) (λ_ _ _ _ _ r=>r) (λ_ _ _ r=>r)
 (λ_ _ _ _ _ a b r=>a&&b&&r) (λ_ _=>true) (λ_ _ _ _=>true) (λ_ _ _ _=>true) (λ_=>true) (λ_ _ _ _ _ r=>r) (λ_ _ _ _ _ _ b r=>b&&r) (λ_ _ _ _ _ _ b r=>b&&r) (λ_ _ _ _ _ _ _ _ _=>false) c
section
variable{prog:Program}{w:World}{lv:Bool}{Γ:Fx prog w}{P:Pm}{ρ ρ' ρ2 ρ₀:Rho}{σ σ2:S}{h h' h1 h2:Heap}{tk n d i:Nat}{v:V}{x:Value}{E:Value->Shared->Prop}{m m₂:Str->Option Value}{k:KV}{K:S->Bool}{I:Addr}{ot:Obj}{is:List (Nat×Nat)}
noncomputable def SOk(prog:Program)(w:World)(lv:Bool)(c:IS):Prop:=∀(Γ:Fx prog w) (P:Pm),PG lv P Γ->St Γ->wfS c Γ.env.scope=true->(Γ.tn=false->noTry c=true)->HS Γ P (execs (toS c) Γ.env) (λσ o=>vS c P σ o)
theorem inter_ok(hS:St Γ):interactive Γ.env=false:=by
 unfold interactive
 rw[show Γ.env.scope.kind=.function from hS.nn.kd]
 simp
theorem aug_ok{i:Expr}(h:nslice i=true)(ov iv new:Value):augStore i ov iv new=(do
 holding [new,ov,iv] (setItem ov iv new)
 release [new,ov,iv] []
 pure Flow.next):=by
 cases i<;>first|rfl|cases h
noncomputable def ntup(e:Expr):Bool:=!Nat.beq e.ctorIdx 25
theorem sole_ok{value:Expr}{es:List Expr}{k:Nat}{tp:Pos}{n:Nat}{env:Env}(h:ncomp value=true):swapsWithSole [.Tuple es k tp] value n env=pure false:=by
 cases value<;>first|rfl|cases h
theorem swst_ok{value:Expr}{es:List Expr}{k:Nat}{tp:Pos}{env:Env}(h:ntup value=true):swappedStores [.Tuple es k tp] value env=pure none:=by
 cases value<;>first|rfl|cases h
theorem ntup_ok{e:IE}(h:isTup e=false):ntup (toE e)=true:=by cases e<;>first|rfl|cases h
theorem load_ok{Q:Value->Shared->Prop}(hS:St Γ)(R:Rl Γ ρ σ h)(hi:lcl Γ.env.scope i=true)(hv:lk σ.vs i=some v)(hq:Q (iv ρ v) (Γ.sh h tk)):Γ.wp (loadName Γ.env (nm i)) Q E h tk:=by
 refine elEA (λm F cv=>?_)<|R.fr
 exact wpAny_loadName_local hS.nn.kd (knd_e hi).1 (by rw[hS.ll];exact F.ns) (((hS.cv _ _ _).mp cv).1 i v hv) hq
theorem bindI_st(hS:St Γ){Q:Unit->Shared->Prop}{p:Nat}(hi:lcl Γ.env.scope i=true)(R:Rl Γ ρ σ h)(l:like ρ v x)(g:bindI i v σ K=true)(hq:∀ρ' σ' h' tk',Γ.Ext ρ ρ'->Rl Γ ρ' σ' h'->K σ'=true->Q () (Γ.sh h' tk')):Γ.wp (assign (.Name (nm i) (dp p)) Γ.env x) Q E h tk:=by
 refine elEEEEAAAAAA (λρ1 v' hp' nx' x1 eg1 sc1 r289 R1 r290 g1=>?_)<|bindI_e R l g;subst r289;subst r290
 exact assign_Name (store_ok hS (.inl hi) R1 sc1 λh' tk' R2=>hq ρ1 _ h' tk' x1 R2 g1)
theorem raise_st{a:IE}(hP:PG lv P Γ)(hS:St Γ){i:Nat}{C:Addr}{xp pos rp:Pos}{rest:List Stmt}{Q:Flow->Shared->Prop}{k:List V->S->Bool}(hg:glo Γ.env.scope i=true)(hc:(wf a).a Γ.env.scope=true)
 (hn:nsIn (KF w) mainGlobals (nm i)=some (some (.ref C)))(hk:keepIn (KF w) (.ref C)=true)(R:Rl Γ ρ σ h)(g:(ev a).a P σ k=true)(hx:EX Γ P.x ρ E)
 (hq:∀vs ρ1 σ1 h1 tk1,Γ.Ext ρ ρ1->scs ρ1.n vs->Rl Γ ρ1 σ1 h1->k vs σ1=true->Γ.wp (call (.ref C) (ivs ρ1 vs)) (MyR E) E h1 tk1):
 Γ.wp (execs (.Raise (some (.Call (.Name (nm i) xp) (toL a) [] pos)) none rp::rest) Γ.env) Q E h tk:=by
 refine wpAny_execs_cons (raise_my (Γ.hd hS.nh) ?_)
 refine Call_ (hS.nn.glo (ρ:=ρ) (σ:=σ) hg hn (nt_in R) ?_) eval_call
 exact callW (ir_ok a Γ.nt P hP.nt hS.nn).a hc hk (nt_in R) g (λvs ρ1 σ1 h1 tk1 x1 s1 R1 g1=>hq vs ρ1 σ1 h1 tk1 (nt_ext x1) s1 (nt_out R x1 R1) g1) (hx.nt R)
theorem two_e{vs:List V}{k:V->V->Bool}(g:two vs k=true):∃v u,vs=[v,u]/\k v u=true:=by
 rcases vs with _|⟨v,r⟩
 .exact ff g
 .refine elEA (λu r291 g292=>?_)<|one_e (vs:=r) g;subst r291;revert g292;intro g
  exact mkEEA v u rfl g
theorem gn_io:nsIn (KF w) mainGlobals (nm 83)=some (some (.ref 51)):=gn_51
theorem gn_end:nsIn (KF w) mainGlobals (nm 84)=some (some (.ref 70)):=gn_70
theorem own_name{x:Str}{p:Pos}{it v:Value}{Q:Unit->Shared->Prop}(hq:Q () (Γ.sh h tk)):Γ.wp (letOwnedTupleGo (.Name x p) it v) Q E h tk:=wpAny_pure hq
theorem own_tup{elts:List Expr}{k0:Nat}{pos:Pos}{ax:Addr}{x:Value}{j:Nat}{Q:Unit->Shared->Prop}(hi:h.IsListIter I ax j\/h.IsTupleIter I ax j)(hq:Q () (Γ.sh h tk)):Γ.wp (letOwnedTupleGo (.Tuple elts k0 pos) (.ref I) x) Q E h tk:=by
 rcases hi with hi|hi
 .cases x<;>first|exact wpAny_letOwnedTupleGo_listiter (s:=Γ.sh h tk) hi hq|exact wpAny_pure hq
 .exact owned_tup (s:=Γ.sh h tk) hi hq
theorem s_ok(T:∀b hb p q s r,SOk prog w lv b->SOk prog w lv hb->SOk prog w lv r->SOk prog w lv (.try b hb p q s r)):∀ir:IS,SOk prog w lv ir:=by
 intro ir
 induction ir<;>first|(rename_i A B C;exact T _ _ _ _ _ _ A B C)|skip
 all_goals(intro Γ P hP hS hc hy o σ ρ h tk Q E g R hn hr hb hx hp;have IO:=io_ok hP hS)
 case done=>exact wpAny_execs_nil (hn ρ σ h tk .refl R g)
 case asg i e p q r ih=>
  refine aa3 (λh1 h2 h4 h5=>?_) hc
  refine wpAny_execs_cons (wpAny_Assign_Name ((IO e).e σ h4 _ _ h tk _ E g R (λv ρ1 σ1 h1' tk1 x1 s1 R1 g1=>?_) hx) (swaps_ok (ncomp_ok (not_f h2))))
  refine store_ok hS (.inl h1) R1 s1 λh2 tk2 R2=>?_
  exact ih Γ P hP hS h5 hy o _ ρ1 h2 tk2 Q E g1 R2 (bk_up hn x1) (hr.up x1) (bk_up hb x1) (hx.up x1) hp
 case ast e i v p q r ih=>
  refine aa3 (λh1 h4 h4' h5=>?_) hc
  refine wpAny_execs_cons (plainObj_wpAny_Assign_Attribute ((IO v).e σ h4' _ _ h tk _ E g R (λy ρ1 σ1 h1 tk1 x1 s1 R1 g1=>(IO e).e σ1 h4 _ _ h1 tk1 _ E g1 R1 (λov ρ2 σ2 h2 tk2 x2 s2 R2 g2=>?_) (hx.up x1)) hx) (swaps_ok (ncomp_ok (not_f h1))))
  rw[←x2.1.iv s1]
  refine gSet_ok R2 (s1.up x2.1.le) g2 λρ3 σ3 h3 tk3 x3 R3 g3 _=>?_
  have X:=(x1.trans x2).trans x3
  exact ih Γ P hP hS h5 hy o _ ρ3 h3 tk3 Q E g3 R3 (bk_up hn X) (hr.up X) (bk_up hb X) (hx.up X) hp
 case sst e kx v p q r ih=>
  refine aa4 (λh1 h4 h4k h4' h5=>?_) hc
  refine wpAny_execs_cons (wpAny_Assign_Subscript ((IO v).e σ h4' _ _ h tk _ E g R (λy ρ1 σ1 h1 tk1 x1 s1 R1 g1=>(IO e).e σ1 h4 _ _ h1 tk1 _ E g1 R1 (λov ρ2 σ2 h2 tk2 x2 s2 R2 g2=>(IO kx).e σ2 h4k _ _ h2 tk2 _ E g2 R2 (λkv ρ3 σ3 h3 tk3 x3 s3 R3 g3=>?_) (hx.up (x1.trans x2))) (hx.up x1)) hx) (swaps_ok (ncomp_ok (not_f h1))))
  rw[←(x2.trans x3).1.iv s1,←x3.1.iv s2]
  refine gSetI_ok R3 (s1.up (x2.trans x3).1.le) g3 λρ4 σ4 h4 tk4 x4 R4 g4 _=>?_
  have X:=((x1.trans x2).trans x3).trans x4
  exact ih Γ P hP hS h5 hy o _ ρ4 h4 tk4 Q E g4 R4 (bk_up hn X) (hr.up X) (bk_up hb X) (hx.up X) hp
 case agn i op e p q r ih=>
  refine aa2 (λh1 h4 h5=>?_) hc
  refine elEA (λold ho g=>?_)<|oe_e (o:=lk σ.vs i) g
  have so:=R.sv _ (lk_mem ho)
  refine wpAny_execs_cons (wpAny_AugAssign_Name (load_ok hS R h1 ho ((IO e).e σ h4 _ _ h tk _ E g R (λv ρ1 σ1 h1' tk1 x1 s1 R1 g1=>?_) hx)))
  rw[←x1.1.iv so]
  refine gInp_ok R1 (so.up x1.1.le) g1 λv2 ρ2 σ2 h2' tk2 x2 s2 R2 g2=>?_
  refine store_ok hS (.inl h1) R2 s2 λh3 tk3 R3=>?_
  have X:=x1.trans x2
  exact ih Γ P hP hS h5 hy o _ ρ2 h3 tk3 Q E g2 R3 (bk_up hn X) (hr.up X) (bk_up hb X) (hx.up X) hp
 case aga e i op v p q r ih=>
  refine aa2 (λh4 h4' h5=>?_) hc
  refine wpAny_execs_cons (wpAny_AugAssign_AttributeAny ((IO e).e σ h4 _ _ h tk _ E g R (λov ρ1 σ1 h1 tk1 x1 s1 R1 g1=>gAttr_ok R1 g1 λold ρ2 σ2 h2 tk2 x2 s2 R2 g2=>(IO v).e σ2 h4' _ _ h2 tk2 _ E g2 R2 (λy ρ3 σ3 h3 tk3 x3 s3 R3 g3=>?_) (hx.up (x1.trans x2))) hx))
  rw[←(x2.trans x3).1.iv s1,←x3.1.iv s2]
  refine gInp_ok R3 (s2.up x3.1.le) g3 λz ρ4 σ4 h4 tk4 x4 s4 R4 g4=>?_
  rw[←x4.1.iv (s1.up (x2.trans x3).1.le)]
  refine gSet_ok R4 s4 g4 λρ5 σ5 h5' tk5 x5 R5 g5 _=>?_
  have X:=(((x1.trans x2).trans x3).trans x4).trans x5
  exact ih Γ P hP hS h5 hy o _ ρ5 h5' tk5 Q E g5 R5 (bk_up hn X) (hr.up X) (bk_up hb X) (hx.up X) hp
 case ags e kx op v p q r ih=>
  refine aa3 (λh4 h4k h4' h5=>?_) hc
  refine wpAny_execs_cons (wpAny_AugAssign_Subscript_any ((IO e).e σ h4 _ _ h tk _ E g R (λov ρ1 σ1 h1 tk1 x1 s1 R1 g1=>(IO kx).e σ1 h4k _ _ h1 tk1 _ E g1 R1 (λkv ρ2 σ2 h2 tk2 x2 s2 R2 g2=>?_) (hx.up x1)) hx) (aug_ok (toE_nslice kx)))
  rw[←x2.1.iv s1]
  refine elEAA (λold g3 s3 I=>?_)<|gItem_ok R2 g2
  refine(I E tk2).2 _ λtk3=>?_
  refine(IO v).e σ2 h4' _ _ h2 tk3 _ E g3 R2 (λy ρ4 σ4 h4 tk4 x4 s4 R4 g4=>?_) (hx.up (x1.trans x2))
  rw[←x4.1.iv s3]
  refine gInp_ok R4 (s3.up x4.1.le) g4 λz ρ5 σ5 h5' tk5 x5 s5 R5 g5=>?_
  rw[←(x4.trans x5).1.iv (s1.up x2.1.le),←(x4.trans x5).1.iv s2]
  refine gSetI_ok R5 s5 g5 λρ6 σ6 h6 tk6 x6 R6 g6 _=>?_
  have X:=((x1.trans x2).trans (x4.trans x5)).trans x6
  exact ih Γ P hP hS h5 hy o _ ρ6 h6 tk6 Q E g6 R6 (bk_up hn X) (hr.up X) (bk_up hb X) (hx.up X) hp
 case acl i e p q r ih=>
  refine aa3 (λh1 h2 h4 h5=>?_) hc
  refine wpAny_execs_cons (wpAny_Assign_Name ((IO e).e σ h4 _ _ h tk _ E g R (λv ρ1 σ1 h1' tk1 x1 s1 R1 g1=>?_) hx) (swaps_ok (ncomp_ok (not_f h2))))
  refine elEA (λn hn' g1=>?_)<|oe_e (o:=lk P.cs i) g1
  rw[hP.cs]at hn'
  replace g1:=at_e g1
  refine elEA (λo' hl g293=>?_) g1;revert g293;clear g1;intro g1
  cases o'<;>first|exact ff g1|skip
  refine cell_ok hS h1 hn' hl R1 s1 g1 λρ2 σ2 h2 x2 R2 g2=>?_
  have X:=x1.trans x2
  exact ih Γ P hP hS h5 hy o _ ρ2 h2 _ Q E g2 R2 (bk_up hn X) (hr.up X) (bk_up hb X) (hx.up X) hp
 case asl i e p q r ih=>
  refine aa2 (λh1 h2 h5=>?_) hc
  refine wpAny_execs_cons (asl_ok (K:=λσ=>vS r P σ o) hP hS h1 h2 R g hx λρ1 σ1 h1 tk1 x1 R1 g1=>?_)
  exact ih Γ P hP hS h5 hy o _ ρ1 h1 tk1 Q E g1 R1 (bk_up hn x1) (hr.up x1) (bk_up hb x1) (hx.up x1) hp
 case exp e p r ih=>
  refine aa2 (λh2 h4 h5=>?_) hc
  refine wpAny_execs_cons (wpAny_Expr_any ((IO e).e σ h4 _ _ h tk _ E g R (λv ρ1 σ1 h1 tk1 x1 s1 R1 g1=>?_) hx) (inter_ok hS) (swaps_ok (ncomp_ok (not_f h2))))
  exact ih Γ P hP hS h5 hy o _ ρ1 h1 tk1 Q E g1 R1 (bk_up hn x1) (hr.up x1) (bk_up hb x1) (hx.up x1) hp
 case ite t a b p r iha ihb ih=>
  refine aa3 (λh1 h2 h3 h4=>?_) hc
  have y2:∀e,_:=λe=>aa (aa (hy e)).1
  refine wpAny_execs_cons (wpAny_If ((IO t).t σ h1 _ _ h tk _ E g R (λc ρ1 σ1 h1' tk1 x1 s1 R1 g1=>?_) hx))
  have nx:∀ρ2 σ2 h2 tk2,Γ.Ext ρ1 ρ2->Rl Γ ρ2 σ2 h2->vS r P σ2 o=true->Γ.wp (execs (toS r) Γ.env) Q E h2 tk2:=λρ2 σ2 h2 tk2 x2 R2 g3=>
   ih Γ P hP hS h4 (λe=>(aa (hy e)).2) o σ2 ρ2 h2 tk2 Q E g3 R2 (bk_up hn (x1.trans x2)) (hr.up (x1.trans x2)) (bk_up hb (x1.trans x2)) (hx.up (x1.trans x2)) hp
  cases c
  .exact ihb Γ P hP hS h3 (λe=>(y2 e).2) ⟨λσ=>vS r P σ o,o.rt,o.bk⟩ σ1 ρ1 h1' tk1 _ E g1 R1 nx (hr.up x1) (bk_up hb x1) (hx.up x1) hp
  .exact iha Γ P hP hS h2 (λe=>(y2 e).1) ⟨λσ=>vS r P σ o,o.rt,o.bk⟩ σ1 ρ1 h1' tk1 _ E g1 R1 nx (hr.up x1) (bk_up hb x1) (hx.up x1) hp
 case ret e p=>exact wpAny_execs_cons (wpAny_Return_some ((IO e).e σ hc _ _ h tk _ E g R hr hx))
 case rio as p q t=>
  obtain⟨h1,h2⟩:=aa hc
  replace g:=cd_e g
  obtain⟨hd9,g⟩:=g
  have hd9:P.D<=480:=Nat.le_of_ble_eq_true hd9
  rw[hP.D]at hd9
  refine raise_st hP hS h1 h2 gn_io ke_51 R g hx λvs ρ1 σ1 h1 tk1 x1 s1 R1 g1=>?_
  replace g1:=two_e g1
  refine elEEA (λv u r294 g295=>?_) g1;revert g295;clear g1;intro g1;subst r294
  replace g1:=lit_e g1
  refine elEEA (λc t1 r296 g297=>?_) g1;revert g297;clear g1;intro g1;subst r296
  replace g1:=str_e g1
  refine elEEA (λj t2 r298 g299=>?_) g1;revert g299;clear g1;intro g1;subst r298
  replace g1:=cd_e (b:=noF σ1.hp) g1
  obtain⟨nf,g1⟩:=g1
  show Γ.wp (call (.ref 51) [iv ρ1 _,iv ρ1 _]) _ _ _ _
  rw[iv_lit]
  exact rio_ok hS.nh hd9 R1 nf λe h' tk' X=>hx e 51 c ρ1 σ1 h' tk' x1 X g1
 case ren as p q t=>
  obtain⟨h1,h2⟩:=aa hc
  replace g:=cd_e g
  obtain⟨hd9,g⟩:=g
  have hd9:P.D<=470:=Nat.le_of_ble_eq_true hd9
  rw[hP.D]at hd9
  refine raise_st hP hS h1 h2 gn_end ke_70 R g hx λvs ρ1 σ1 h1 tk1 x1 s1 R1 g1=>?_
  replace g1:=one_e g1
  refine elEA (λu r300 g301=>?_) g1;revert g301;clear g1;intro g1;subst r300
  replace g1:=str_e g1
  refine elEEA (λj t2 r302 g303=>?_) g1;revert g303;clear g1;intro g1;subst r302
  replace g1:=cd_e (b:=noF σ1.hp) g1
  obtain⟨nf,g1⟩:=g1
  exact ren_ok hS.nh hd9 R1 nf λe h' tk' X=>hx e 70 (-1) ρ1 σ1 h' tk' x1 X g1
 case brk p=>exact wpAny_execs_cons (wpAny_Break (hb ρ σ h tk .refl R g))
 case ats is e p q r ih=>
  refine aa4 (λh1 h3 h2 h4 h5=>?_) hc
  refine wpAny_execs_cons (Assign_Tuple ((IO e).e σ h4 _ _ h tk _ E g R (λv ρ1 σ1 h1' tk1 x1 s1 R1 g1=>?_) hx) (sole_ok (ncomp_ok (not_f h2))) (swst_ok (ntup_ok (not_f h3))))
  exact gUnp_ok hS h1 R1 g1 λσ2 h2' tk2 R2 g2=>ih Γ P hP hS h5 hy o _ ρ1 h2' tk2 Q E g2 R2 (bk_up hn x1) (hr.up x1) (bk_up hb x1) (hx.up x1) hp
 case fo i e b p q r ihb ih=>
  refine aa3 (λh1 h4 h4b h5=>?_) hc
  have qa:∀{ρ1},Γ.Ext ρ ρ1->∀ρ' σ' h' tk',Γ.Ext ρ1 ρ'->Rl Γ ρ' σ' h'->vS r P σ' o=true->Γ.wp (execs (toS r) Γ.env) Q E h' tk':=λx1 ρ' σ' h' tk' x' R' g'=>
   ih Γ P hP hS h5 (λe=>(aa (hy e)).2) o _ ρ' h' tk' Q E g' R' (bk_up hn (x1.trans x')) (hr.up (x1.trans x')) (bk_up hb (x1.trans x')) (hx.up (x1.trans x')) hp
  have B:∀I it,HS (Γ.it I it) P (execs (toS b) Γ.env) (λσ o=>vS b P σ o):=λI it=>ihb (Γ.it I it) P hP.it hS.it h4b (λe=>(aa (hy e)).1)
  have hst:∀I it v x ρ σ h tk (K:S->Bool) (Q:Unit->Shared->Prop),Rl (Γ.it I it) ρ σ h->like ρ v x->bindI i v σ K=true->(∀ρ' σ' h' tk',Γ.Ext ρ ρ'->Rl (Γ.it I it) ρ' σ' h'->K σ'=true->Q () (Γ.sh h' tk'))->Γ.wp (assign (.Name (nm i) (dp q)) Γ.env x) Q E h tk:=
   λI it v x ρ σ h tk K Q R l g hq=>bindI_st (Γ:=Γ.it I it) hS.it h1 R l g hq
  have g:(ev e).w false P σ (λvs chk σ=>vL (λσ o=>vS b P σ o) (λv σ k=>bindI i v σ k) chk o (λσ=>vS r P σ o) vs σ)=true:=g
  rcases Bool.or_eq_true _ _▸h4 with h4|h4
  .refine wpAny_execs_cons (wpAny_For ((IO e).e σ h4 _ _ h tk _ E (w_e h4 g) R (λv ρ1 σ1 h1' tk1 x1 s1 R1 g1=>?_) hx) (fold_ok e _))
   exact for_ok hS.nh (bodyT:=λσ o=>vS b P σ o) (λI ax i h tk x Q E _ hq=>own_name hq) hst B (qa x1) (hr.up x1) (hx.up x1) hp R1 g1
  .refine elEEE (λa pp qq r304=>?_)<|r_rng h4;subst r304
   have hN:=hS.nn
   refine wpAny_execs_cons (wpAny_For (rng_ok (Γ:=Γ.nt) hN (ir_ok a Γ.nt P hP.nt hN).e h4 (nt_in R) g (hx.nt R) λn r' ρ1 σ1 h1' tk1 t u v x1 R1 hz g1 hr'=>?_) (fold_ok _ _))
   have X1:=nt_ext (Γ:=Γ) x1
   have R1':=nt_out R x1 R1
   refine wpAny_pyIter_range (s:=Γ.sh h1' tk1) hr' (rng_small n hz) ?_
   rw[rng_size]
   have W:=Walks.range (prog:=prog) (w:=w) (Γ.hd hS.nh) h1'.objs.size 0 1 n
   have hn9:(rngV n).length=n:=by rw[List.length_map,List.length_range]
   rw[←hn9]at W
   refine loop_ok (bind:=λv σ k=>bindI i v σ k) (bodyT:=λσ o=>vS b P σ o) (Ck:=λ_=>True) (Ik:=λi it=>it={cls:=.type "range_iterator",data:=.fields #[rawInt (0+(i:Nat)*1),rawInt (((rngV n).length:Int)-(i:Nat)),rawInt 1]}) W (it_L R1') (λi it ρ' σ' h' x R' ik ck=>?_)
    (λi h st=>⟨_,st,rfl⟩) (λi h tk x Q E _ _ hq=>own_name hq) (hst _) (B _) (λ_ _=>trivial) (λj v hj x hx=>rng_like n j v hj x (by simpa using hx)) (qa X1) (hr.up X1) (hx.up X1) hp (it_new R1' rfl) ?_ trivial g1
   .subst ik
    exact it_get R'
   .rw[hn9];simp
 case ft is e b p q r ihb ih=>
  refine aa3 (λh1 h4 h4b h5=>?_) hc
  have qa:∀{ρ1},Γ.Ext ρ ρ1->∀ρ' σ' h' tk',Γ.Ext ρ1 ρ'->Rl Γ ρ' σ' h'->vS r P σ' o=true->Γ.wp (execs (toS r) Γ.env) Q E h' tk':=λx1 ρ' σ' h' tk' x' R' g'=>
   ih Γ P hP hS h5 (λe=>(aa (hy e)).2) o _ ρ' h' tk' Q E g' R' (bk_up hn (x1.trans x')) (hr.up (x1.trans x')) (bk_up hb (x1.trans x')) (hx.up (x1.trans x')) hp
  have B:∀I it,HS (Γ.it I it) P (execs (toS b) Γ.env) (λσ o=>vS b P σ o):=λI it=>ihb (Γ.it I it) P hP.it hS.it h4b (λe=>(aa (hy e)).1)
  have hst:∀I it v x ρ σ h tk (K:S->Bool) (Q:Unit->Shared->Prop),Rl (Γ.it I it) ρ σ h->like ρ v x->gUnp is v σ K=true->(∀ρ' σ' h' tk',Γ.Ext ρ ρ'->Rl (Γ.it I it) ρ' σ' h'->K σ'=true->Q () (Γ.sh h' tk'))->Γ.wp (assign (.Tuple (toN is) 0 (dp q)) Γ.env x) Q E h tk:=by
   intro I it v x ρ σ h tk K Q R l g hq
   have hv:x=iv ρ v:=by
    refine elEEA (λn o r305 z306=>?_)<|drf_e g ρ;subst r305;clear z306
    exact l.1
   subst hv
   exact gUnp_ok (Γ:=Γ.it I it) hS.it h1 R g λσ' h' tk' R' g'=>hq ρ σ' h' tk' .refl R' g'
  have g:(ev e).w false P σ (λvs chk σ=>vL (λσ o=>vS b P σ o) (λv σ k=>gUnp is v σ k) chk o (λσ=>vS r P σ o) vs σ)=true:=g
  refine wpAny_execs_cons (wpAny_For ((IO e).e σ h4 _ _ h tk _ E (w_e h4 g) R (λv ρ1 σ1 h1' tk1 x1 s1 R1 g1=>?_) hx) (fold_ok e _))
  refine for_ok hS.nh (bodyT:=λσ o=>vS b P σ o) (λI ax i h tk x Q E hit hq=>?_) hst B (qa x1) (hr.up x1) (hx.up x1) hp R1 g1
  rcases hit with hit|hit|⟨z,t,rfl⟩
  .exact own_tup (.inl hit) hq
  .exact own_tup (.inr hit) hq
  .exact wpAny_pure hq
end
end Mine.Q
namespace Mine.Q
section
variable{prog:Program}{w:World}{lv:Bool}{Γ:Fx prog w}{P:Pm}{ρ ρ' ρ2 ρ₀:Rho}{σ σ2:S}{h h' h1 h2:Heap}{tk n d i:Nat}{v:V}{x:Value}{E:Value->Shared->Prop}{m m₂:Str->Option Value}{k:KV}{K:S->Bool}{I:Addr}{ot:Obj}{is:List (Nat×Nat)}
theorem zipA_e{k:List (Nat×V)->Bool}:∀{ps:List Nat} {vs:List V},zipA ps vs k=true->ps.length=vs.length/\k (ps.zip vs)=true:=by
 intro ps
 induction ps generalizing k with
 |nil=>
  intro vs g
  rcases vs with _|⟨_,_⟩
  .exact⟨rfl,g⟩
  .exact ff g
 |cons p r ih=>
  intro vs g
  rcases vs with _|⟨v,vs⟩
  .exact ff g
  .obtain⟨e,g⟩:=ih (k:=λl=>k ((p,v)::l)) g
   exact⟨congrArg (·+1) e,g⟩
theorem zip_mem{α β:Type}{a:α}{b:β}:∀{l:List α} {r:List β},(a,b)∈l.zip r->a∈l/\b∈r
 |x::l,y::r,h=>by
  rcases List.mem_cons.mp h with e|h
  .cases e;exact⟨.head _,.head _⟩
  .obtain⟨p,q⟩:=zip_mem h;exact⟨.tail _ p,.tail _ q⟩
theorem zip_fst_sub{α β:Type}:∀{l:List α} {r:List β},List.Sublist ((l.zip r).map (λp=>p.1)) l
 |[],_=>.refl _
 |_::_,[]=>List.nil_sublist _
 |a::l,b::r=>(zip_fst_sub (l:=l) (r:=r)).cons_cons a
theorem gpre{g:Heap}:Pre ρ {ρ with g:=g}:=mkAAAA ⟨[],(List.append_nil _).symm⟩ rfl rfl rfl rfl
theorem pre_wc(x:Pre ρ ρ2):∃B,Pre ρ (ρ.wc (ρ.c++B))/\Pre ρ2 (ρ.wc (ρ.c++B))/\(ρ.wc (ρ.c++B)).n=ρ2.n:=by
 refine elAAAA (λn307 e2 e3 e4 e5=>?_) x;obtain⟨B,e⟩:=n307;clear x
 exact mkEAA B wc_pre ⟨⟨[],by rw[List.append_nil];exact e.symm⟩,e2.symm,e3.symm,e4.symm,e5.symm⟩ (by show(ρ.c++B).length=ρ2.c.length;rw[e])
theorem Ok.re{hp:Hp}{l:List (Nat×V)}{nx:Nat}(x:Pre ρ ρ')(e:ρ'.n=ρ.n)(K:Ok prog w ρ ⟨hp,l,nx⟩):Ok prog w ρ' ⟨hp,[],nx⟩:=by
 have:=(Ok.up x K).bare
 rw[e,show ρ.n=nx from K.ln]at this
 exact this
theorem spP_of{kk:V->Hp->Nat->Bool}(x:Pre ρ ρ2){vv:V}(hv:vv.sc ρ2.n)(K:Ok prog w ρ2 σ)(g:kk vv σ.hp σ.nx=true):SpP prog w ρ kk (iv ρ2 vv) (led w ρ2 σ.hp):=by
 refine elEAA (λB x1 x2 e=>?_)<|pre_wc x
 exact mkEEEEAAAA B vv σ.hp σ.nx (by rw[e];exact hv) (K.re x2 e) g ((x2.iv hv).symm) ((x2.led K.so).symm)
theorem spX_of{kx:Nat->Int->Hp->Nat->Bool}{C:Addr}{c:Int}(x:Pre ρ ρ2)(K:Ok prog w ρ2 σ)(g:kx C c σ.hp σ.nx=true):SpX prog w ρ kx C c (led w ρ2 σ.hp):=by
 refine elEAA (λB x1 x2 e=>?_)<|pre_wc x
 exact mkEEEAA B σ.hp σ.nx (K.re x2 e) g ((x2.led K.so).symm)
theorem unb_lk{c i:Nat}:∀{l:List (Nat×V)},lk (unb c l) i=bi (Nat.beq i c) none (lk l i)
 |[]=>by cases Nat.beq i c<;>rfl
 |p::l=>by
  show lk (bi (Nat.beq c p.1) (unb c l) (p::unb c l)) i=bi (Nat.beq i c) none (lk (p::l) i)
  rw[lk_cons]
  rcases e:Nat.beq c p.1 with _|_
  .show lk (p::unb c l) i=_
   rw[lk_cons,unb_lk (l:=l)]
   rcases q:Nat.beq i p.1 with _|_
   .rfl
   .have:=Nat.eq_of_beq_eq_true q
    subst this
    rw[beq_comm',e];rfl
  .have:=Nat.eq_of_beq_eq_true e
   subst this
   show lk (unb p.1 l) i=_
   rw[unb_lk]
   cases q:Nat.beq i p.1<;>rfl
theorem zip_in{ps:List Nat}{vs:List V}{i:Nat}{v:V}(h:lk (ps.zip vs) i=some v):(nm i,iv ρ v)∈(ps.map nm).zip (ivs ρ vs):=by
 show _∈(ps.map nm).zip (vs.map (iv ρ))
 rw[List.zip_map]
 exact List.mem_map.mpr ⟨(i,v),lk_mem h,rfl⟩
theorem zip_nd{ps:List Nat}{us:List Value}(nd:ps.Nodup):(((ps.map nm).zip us).map (λp=>p.1)).Nodup:=
 List.Nodup.sublist zip_fst_sub (List.Pairwise.map _ (λ_ _ hn e=>hn (nm_inj e)) nd)
theorem unb_mem{c:Nat}{p:Nat×V}:∀{l:List (Nat×V)},p∈unb c l->p∈l
 |q::l,hm=>by
  have hm:p∈bi (Nat.beq c q.1) (unb c l) (q::unb c l):=hm
  rcases e:Nat.beq c q.1 with _|_
  .rw[e]at hm
   rcases List.mem_cons.mp (show p∈q::unb c l from hm)with rfl|hm
   .exact .head _
   .exact .tail _ (unb_mem hm)
  .rw[e]at hm;exact .tail _ (unb_mem hm)
end
end Mine.Q
namespace Mine
section
variable{prog:Program}{w:World}{A₀:Around}{E:Value->Shared->Prop}{s':Shared}{base g:Heap}{outer:List Env}{L a e C C₀:Addr}{c:Int}{m:Str->Option Value}{name:Str}{scope:Scope}{cd:Value}
 {n:Str}{b₀:Stmt}{suite:List Stmt}{pos np:Pos}{rest:List ExceptHandler}{Q:Flow->Shared->Prop}{l:Lg}{KF:Frag}
 {p:Program}{loose:List Str}{mean:ExcName->Option Value}{mg mb:Str->Option Value}{x:Str}
theorem caught_l{env:Env}{A:Around}{qs:Lg}(hA:A.frames=some (env::outer))(hf9:env.frame=some L)(hL9:env.locals=L)(hg9:env.globals=mainGlobals)(X:XIn g L m env outer s'.heap e C c l)(Kq:∀q∈qs,Kept g L s'.heap e C l q)(ndq:(ads qs).Nodup)(K:Below A₀ base outer g)(XB:KF.In base)(TB:Top p loose mean mg mb base)
 (D:KtsDicts (frs outer) g)(ex:nsIn KF mainGlobals x=some (some (.ref C₀)))(hx9:exmOne KF (.ref C) (.ref C₀)=some true)
 (k:∀h' g' tk d es nn a0 tb vs2 tkc,KtsTurn (frs outer) g g'->Fr g' L h' (λy=>if y=n then some (.ref e)else m y)->News g' L h' (qs++(e,excO C d a0 tb vs2)::(d,dictOf es nn)::l)->(ads (qs++(e,excO C d a0 tb vs2)::(d,dictOf es nn)::l)).Nodup->
   getL "code" es=some (some (.int c tkc))->Below A₀ base outer g'->KF.In g'->Top p loose mean mg mb g'->KtsDicts (frs outer) g'->
   wpAny (model prog w) (A.mark (some (.ref e))) (execs (b₀::suite) env)
    (λf s₄=>wpAny (model prog w) A (do bindName env n .none;unbindBehindTheSuite env n pos) (λ_ s₅=>Q f s₅) E s₄)
    (AsSuiteRaised (model prog w) (A.mark (some (.ref e))) env n pos (notedBy (model prog w) (A.mark (some (.ref e))) env (cameBackBy (model prog w) A env E)))
    {s' with heap:=h',toks:=tk})
 (hk:env.scope.kind=.function:=by rfl)(hlo:env.kindOf n=some .local:=by rfl)(hx:env.kindOf x=some .globalImplicit:=by rfl)(hd:(x==("__debug__":Str))=false:=by decide):
 wpAny (model prog w) A (noteFrame (.ref e) env)
  (λ_ s₂=>wpAny (model prog w) A (setFlight (.ref e) none) (λ_ s₃=>
    wpAny (model prog w) A (handleBy (.ref e) env (.ExceptHandler (some (.Name x np)) (some n) (b₀::suite) pos::rest)) Q E s₃) E s₂) E s':=by
 refine elEEEEEEEAAAAAA (λd head a0 vs2 es nn tkc he hdd hc hh ge gd dl=>?_)<|X.exc
 have hfr:=hA
 refine note_core hfr X.frames hf9 he (hh.imp id λ⟨T,oT,ts,a,b,c,d,e,_⟩=>⟨T,oT,ts,a,b,c,d,e⟩) λh₁ T oT ts mv he₁ hT hdT h3 hTe hnew=>?_
 have hfs:frs (env::outer)=L::frs outer:=frs_cons hf9
 have nh:∀b o,s'.heap.get? b=some o->(∀vs,o.data≠.fields vs)->head≠.ref b/\b≠e:=λb o hb hn=>by
  refine⟨λq=>?_,λq=>?_⟩
  .rcases hh with rfl|⟨T',oT',ts',rfl,_,hT',hd',_⟩
   .cases q
   .cases q;rw[hT']at hb;injection hb with hb;subst hb;exact hn _ hd'
  .subst q;rw[he]at hb;injection hb with hb;subst hb;exact hn _ rfl
 have old:∀b o,g.get? b=some o->b≠L/\b≠e/\head≠.ref b:=λb o hb=>by
  refine mkAA (Nat.ne_of_lt (Nat.lt_of_lt_of_le (Heap.lt_size hb) X.above)) (λq=>?_) (λq=>?_)
  .subst q;rw[ge]at hb;cases hb
  .rcases hh with rfl|⟨T',oT',ts',rfl,_,_,_,_,gT⟩
   .cases q
   .cases q;rw[gT]at hb;cases hb
 have enl:e∉ads l:=λq=>by
  refine elEA (λz hz hze=>?_)<|List.mem_map.mp q
  refine elAAA (λz1 _ _ z4=>?_)<|X.led z hz
  rw[hze,he]at z1;injection z1 with z1
  exact z4 _ (by rw[←z1])
 have ned:e≠d:=λq=>by rw[←q,he]at hdd;cases hdd
 refine elEEEAA (λoL esL epL hL hLd hLr=>?_)<|X.ns
 have neL:e≠L:=λq=>by rw[q,hL]at he;injection he with he;rw[he]at hLd;cases hLd
 have ND2:∀tb,(ads (qs++(e,excO C d a0 tb vs2)::(d,dictOf es nn)::l)).Nodup:=λtb=>by
  refine nd_app ndq (List.nodup_cons.mpr ⟨λq=>?_,List.nodup_cons.mpr ⟨λq=>dl (List.mem_cons_of_mem _ q),X.nd⟩⟩) λq hq x hx z=>?_
  .rcases List.mem_cons.mp q with q|q
   .exact ned q
   .exact enl q
  .refine elAAAAA (λkq1 kq2 kq3 kq4 kq5 kq6=>?_)<|Kq q hq
   rcases List.mem_cons.mp hx with rfl|hx
   .exact kq4 z
   rcases List.mem_cons.mp hx with rfl|hx
   .exact(kq5 _ _ _ _ he).2 z.symm
   .exact kq6 (List.mem_map.mpr ⟨x,hx,z.symm⟩)
 have ground:∀h',(∀b o,s'.heap.get? b=some o->b≠e->head≠.ref b->(b∉frs (env::outer)->h'.get? b=some o)/\∃sl,h'.get? b=some {o with slots:=sl})->
  h'.get? e=some (excO C d a0 (.ref T) vs2)->∃g',KtsTurn (frs outer) g g'/\Fr g' L h' m/\Below A₀ base outer g'/\News g' L h' (qs++(e,excO C d a0 (.ref T) vs2)::(d,dictOf es nn)::l):=λh' hk' he'=>by
  obtain⟨T1,S1⟩:=kts_turn_at (h:=h') (fs:=frs outer) (g:=g) (λb hb=>by
   refine elAEA (λ_ o ho _=>?_)<|K.frames.mem hb
   exact⟨o,ho⟩)
   (λb o q nm=>by
     refine elAA (λbL be bh=>?_)<|old b o q
     exact(hk' b o ((X.keep b o q).1 nm) be bh).1 (by rw[hfs];simp[bL,nm]))
   (λb o q hm=>by
     refine elAA (λbL be bh=>?_)<|old b o q
     obtain⟨sl,h2⟩:=(X.keep b o q).2
     obtain⟨sl',h3⟩:=(hk' b _ h2 be bh).2
     exact⟨sl',h3⟩)
  refine⟨_,T1,⟨?_,S1,by rw[T1.size];exact X.above⟩,⟨K.stack,λb o q=>T1.other b o (K.stays b o q) (λhm=>by
   rw[(K.frames.mem hm).1]at q;cases q),K.frames.of_keeps λb o q _=>?_⟩,λq hq=>?_⟩
  .obtain⟨n1,n2⟩:=nh L oL hL (λvs q=>by rw[hLd]at q;cases q)
   obtain⟨sl,hs⟩:=(hk' L oL hL n2 n1).2
   exact mkEEEAA _ esL epL hs hLd hLr
  .obtain⟨sl,hs⟩:=T1.up q
   exact⟨_,hs,rfl⟩
  .have dnf:∀vs,(dictOf es nn).data≠.fields vs:=λvs q=>by cases q
   obtain⟨d1,d2⟩:=nh d _ hdd dnf
   rcases List.mem_append.mp hq with hq|hq
   .refine elAAAAA (λkq1 kq2 kq3 kq4 kq5 kq6=>?_)<|Kq q hq
    refine mkAA ((hk' q.1 q.2 kq1 kq4 (kq5 _ _ _ _ he).1).1 ?_) kq3 (T1.none_ _ kq2)
    rw[hfs]
    exact λhm=>(List.mem_cons.mp hm).elim kq3 (frames_not X.gframes kq2)
   rcases List.mem_cons.mp hq with rfl|hq
   .exact mkAA he' neL (T1.none_ _ ge)
   rcases List.mem_cons.mp hq with rfl|hq
   .have ndL:d≠L:=λq=>dl (by rw[q];exact List.mem_cons_self ..)
    refine mkAA ((hk' d _ hdd d2 d1).1 ?_) ndL (T1.none_ _ gd)
    rw[hfs]
    exact λhm=>(List.mem_cons.mp hm).elim ndL (frames_not X.gframes gd)
   .refine elAAA (λq1 q2 q3 q4=>?_)<|X.led q hq
    obtain⟨n1,n2⟩:=nh q.1 _ q1 q4
    refine mkAA ((hk' q.1 q.2 q1 n2 n1).1 ?_) q3 (T1.none_ _ q2)
    rw[hfs]
    exact λhm=>(List.mem_cons.mp hm).elim q3 (frames_not X.gframes q2)
 have notT:∀b o,s'.heap.get? b=some o->b≠T:=λb o hb q=>by rw[q,hnew]at hb;cases hb
 refine flight_core he₁ hT hdT h3 hTe λh₂ oT₂ ts₂ other₂ sz₂ hT₂ hdT₂ h32=>?_
 have he₂:=(other₂ e (Ne.symm hTe)).trans he₁
 have hk₂:∀b o,s'.heap.get? b=some o->b≠e->head≠.ref b->(b∉frs (env::outer)->h₂.get? b=some o)/\∃sl,h₂.get? b=some {o with slots:=sl}:=λb o hb hbe hbh=>by
  rw[other₂ b (notT b o hb)];exact mv.keep b o hb hbe hbh
 refine elEAAA (λg₂ T₂ F₂ K₂ N₂=>?_)<|ground h₂ hk₂ he₂
 have X₂:KF.In g₂:=XB.keeps K₂.stays
 have P₂:TopRead p loose mg mb g₂:=topRead_of (TB.keeps K₂.stays)
 have X₂':KF.In h₂:=X₂.keeps F₂.keep
 refine wpAny_handleBy_cons (codeAny_handlers_test (Calls.Name_function_global hk hx (Calls.loadGlobal_global (env:=env) (s:={s' with heap:=h₂}) (by rw[hg9];exact P₂.g.keeps F₂.keep) (mg_of X₂ P₂.g ex) ?_) hd)) (by intro q;cases q)
 refine(exm_one (M:=model prog w) X₂' ((Looks.ld he₂).andThen .now) hx9).here (codeAny_handlers_suite_as ?_)
 refine flight_core (s:={s' with heap:=h₂}) he₂ hT₂ hdT₂ h32 hTe λh₃ oT₃ ts₃ other₃ sz₃ hT₃ hdT₃ h33=>?_
 refine elEAAA (λg₃ T₃ F₃ K₃ N₃=>?_)<|ground h₃ (λb o hb hbe hbh=>by
  have z:h₃.get? b=h₂.get? b:=other₃ b (notT b o hb)
  rw[z];exact hk₂ b o hb hbe hbh) ((other₃ e (Ne.symm hTe)).trans he₂)
 have X₃:KF.In g₃:=XB.keeps K₃.stays
 have P₃:Top p loose mean mg mb g₃:=TB.keeps K₃.stays
 refine wpAny_storeName_local (s:={s' with heap:=h₃}) hlo (by rw[hL9];exact F₃.ns) (λh₄ hn hs=>?_) (by rw[hk];rfl)
 rw[hL9]at hn hs
 exact k h₄ g₃ _ d es nn a0 (.ref T) vs2 tkc T₃ (F₃.set hn hs) (N₃.set hs) (ND2 _) hc K₃ X₃ P₃ (D.turn T₃)
end
end Mine
namespace Mine.Q
theorem fill_Qs27:hd.heap_39=hd.heap_39/\PySem.Challenge.rw_no0258_01=PySem.Challenge.rw_no0258_01:=by k_fill;exact⟨rfl,rfl⟩
section
variable{prog:Program}{w:World}{lv:Bool}{Γ:Fx prog w}{P:Pm}{ρ ρ' ρ2 ρ₀:Rho}{σ σ2:S}{h h' h1 h2:Heap}{tk n d i:Nat}{v:V}{x:Value}{E:Value->Shared->Prop}{m m₂:Str->Option Value}{k:KV}{K:S->Bool}{I:Addr}{ot:Obj}{is:List (Nat×Nat)}
theorem exm51:exmOne (hd.heap_39 w.params) (.ref 51) (.ref 51)=some true:=by
 exact exmOne_of (by k_dflt k_is) (by k_dflt k_is) (by k_dflt k_is) (by k_dflt k_is)
theorem exm70:exmOne (hd.heap_39 w.params) (.ref 70) (.ref 51)=some true:=by
 exact exmOne_of (by k_dflt k_is) (by k_dflt k_is) (by k_dflt k_is) (by k_dflt k_is)
theorem sim_ok(hN:Nm Γ):∀e:IE,sim e=true->HE Γ P e/\HA Γ P e:=by
 intro e
 induction e<;>intro hs<;>first|exact ff hs|skip
 case loc=>exact⟨e_loc hN,λ_ _ hc=>ff hc⟩
 case att e i p ih=>exact⟨e_att (ih hs).1,λ_ _ hc=>ff hc⟩
 case lis as p ih=>exact⟨e_lis (ih hs).2,λ_ _ hc=>ff hc⟩
 case tup as p ih=>exact⟨e_tup (ih hs).2,λ_ _ hc=>ff hc⟩
 case nil=>exact⟨λ_ hc=>ff hc,a_nil⟩
 case cns a as ih1 ih2=>
  obtain⟨h1,h2⟩:=aa hs
  exact⟨λ_ hc=>ff hc,a_cns (ih1 h1).1 (ih2 h2).2⟩
theorem simM_ok(hN:Nm Γ)(hf:NoF P):∀e:IE,simM e=true->HE Γ P e:=by
 intro e hs
 cases e<;>first|exact ff hs|skip
 obtain⟨h1,h2⟩:=aa hs
 exact e_met (lv:=true) (.inr hf) (sim_ok hN _ h1).1 (sim_ok hN _ h2).2
theorem done_e:∀{c:IS},isDone c=true->c=.done:=by
 intro c hs
 cases c<;>first|exact ff hs|rfl
theorem hand_ok(hN:Nm Γ)(hi:interactive Γ.env=false)(hf:NoF P)(hx0:∀C c σ,P.x C c σ=false){hb:IS}(hs:hOk hb=true)(hw:wfS hb Γ.env.scope=true){o:Po}{Q:Flow->Shared->Prop}(g:vS hb P σ o=true)(R:Rl Γ ρ σ h)
 (hn:∀ρ' σ' h' tk',Γ.Ext ρ ρ'->Rl Γ ρ' σ' h'->o.nx σ'=true->Q .next (Γ.sh h' tk'))(hr:KQ Γ ρ o.rt (λv=>Q (.ret v))):Γ.wp (execs (toS hb) Γ.env) Q E h tk:=by
 have hx:∀{ρ},EX Γ P.x ρ E:=λe C c ρ' σ' h' tk' _ _ g=>by rw[hx0]at g;exact ff g
 cases hb<;>first|exact ff hs|skip
 case exp e p r=>
  obtain⟨h1,h2⟩:=aa hs
  obtain rfl:=done_e h2
  obtain⟨hc,-⟩:=aa hw
  obtain⟨h3,h4⟩:=aa hc
  refine wpAny_execs_cons (wpAny_Expr_any (simM_ok hN hf e h1 σ h4 _ _ h tk _ E g R (λv ρ1 σ1 h1 tk1 x1 s1 R1 g1=>?_) hx) hi (swaps_ok (ncomp_ok (not_f h3))))
  exact wpAny_execs_nil (hn ρ1 σ1 h1 tk1 x1 R1 g1)
 case ret e p=>exact wpAny_execs_cons (wpAny_Return_some ((sim_ok hN e hs).1 σ hw _ _ h tk _ E g R hr hx))
theorem toS_cons{hb:IS}(hs:hOk hb=true):∃b0 su,toS hb=b0::su:=by
 cases hb<;>first|exact ff hs|exact⟨_,_,rfl⟩
theorem hdel_e{kk:Hp->Bool}:∀{hp:Hp},hdel hp n kk=true->∃hp',List.Sublist hp' hp/\kk hp'=true:=by
 intro hp
 induction hp generalizing kk with
 |nil=>intro g;exact ff g
 |cons p r ih=>
  intro g
  have g:bi (Nat.beq n p.1) (kk r) (hdel r n λr'=>kk (p::r'))=true:=g
  rcases bi_e g with⟨-,g⟩|⟨-,g⟩
  .exact⟨r,List.sublist_cons_self ..,g⟩
  .refine elEA (λhp' s g=>?_)<|ih g
   exact⟨p::hp',s.cons_cons p,g⟩
theorem clean_e{kk:S->Bool}(g:clean n σ kk=true):∃hp',List.Sublist hp' σ.hp/\kk ⟨hp',unb 49 σ.vs,σ.nx⟩=true:=by
 refine elEA (λh1 s1 g=>?_)<|hdel_e (hp:=σ.hp) (n:=n) (kk:=λhp=>hdel hp (Nat.succ n) λhp=>kk ⟨hp,unb 49 σ.vs,σ.nx⟩) g
 refine elEA (λh2 s2 g=>?_)<|hdel_e g
 exact⟨h2,s2.trans s1,g⟩
theorem flt_in{e C d:Addr}{c:Int}{a0 tb vs2:Value}{es:List DictEntry}{nn tkc:Nat}{g3 h3:Heap}(hS:St Γ)(X:XR Γ ρ σ h e C c)(hC:C=51\/C=70)(cv:Γ.cov m ρ σ)(K3:(KF w).In g3)(T3:Top Γ.p Γ.loose Γ.mean Γ.mg Γ.mb g3)(B3:Below (ar Γ.D Γ.outer) Γ.base Γ.outer g3)
 (F3:Fr g3 Γ.L h3 (λy=>if y=nm 49 then some (.ref e)else m y))(N3:News g3 Γ.L h3 (Γ.its++(e,excO C d a0 tb vs2)::(d,dictOf es nn)::(led w ρ σ.hp++Γ.rest)))(ND3:(ads (Γ.its++(e,excO C d a0 tb vs2)::(d,dictOf es nn)::(led w ρ σ.hp++Γ.rest))).Nodup)
 (hcode:getL "code" es=some (some (.int c tkc))):
 ∃ρ3:Rho,Pre ρ ρ3/\ρ3.g=g3/\Rl (Γ.hm e) ρ3 ⟨(σ.nx,.flt σ.nx (Nat.succ σ.nx))::(Nat.succ σ.nx,.fld (Nat.succ σ.nx) c (Nat.succ (Nat.succ σ.nx)))::σ.hp,(49,.ref σ.nx)::σ.vs,Nat.succ (Nat.succ (Nat.succ σ.nx))⟩ h3:=by
 obtain⟨hp,vs,nx⟩:=σ
 obtain rfl:ρ.n=nx:=X.ln
 let ρa:=ρ.push e (excO C d a0 tb vs2)
 let ρb:=ρa.push d (dictOf es nn)
 let ρc:=ρb.push tkc default
 let ρ3:Rho:={ρc with g:=g3}
 have pa:Pre ρ ρa:=push_pre
 have pb:Pre ρa ρb:=push_pre
 have pc:Pre ρb ρc:=push_pre
 have p3:Pre ρc ρ3:=gpre
 have P3:Pre ρ ρ3:=((pa.trans pb).trans pc).trans p3
 have na:ρa.n=ρ.n+1:=push_n
 have nb:ρb.n=ρ.n+2:=by show(ρa.push _ _).n=_;rw[push_n,na]
 have nc:ρ3.n=ρ.n+3:=by show(ρb.push _ _).n=_;rw[push_n,nb]
 have e1:ρ3.num ρ.n=e:=(((pb.trans pc).trans p3).num (by omega)).trans push_num
 have o1:ρ3.obj ρ.n=excO C d a0 tb vs2:=(((pb.trans pc).trans p3).obj (by omega)).trans push_obj
 have e2:ρ3.num (Nat.succ ρ.n)=d:=by
  rw[show Nat.succ ρ.n=ρa.n from na.symm];exact((pc.trans p3).num (by omega)).trans push_num
 have o2:ρ3.obj (Nat.succ ρ.n)=dictOf es nn:=by
  rw[show Nat.succ ρ.n=ρa.n from na.symm];exact((pc.trans p3).obj (by omega)).trans push_obj
 have e3:ρ3.num (Nat.succ (Nat.succ ρ.n))=tkc:=by
  rw[show Nat.succ (Nat.succ ρ.n)=ρb.n from nb.symm];exact(p3.num (by show ρb.n<(ρb.push _ _).n;exact push_lt)).trans push_num
 have K:=Ok.up P3 X.toOk
 have el:led w ρ3 ((ρ.n,.flt ρ.n (Nat.succ ρ.n))::(Nat.succ ρ.n,.fld (Nat.succ ρ.n) c (Nat.succ (Nat.succ ρ.n)))::hp)=(e,excO C d a0 tb vs2)::(d,dictOf es nn)::led w ρ hp:=by
  show(ρ3.num ρ.n,ρ3.obj ρ.n)::(ρ3.num (Nat.succ ρ.n),ρ3.obj (Nat.succ ρ.n))::led w ρ3 hp=_
  rw[e1,e2,o1,o2,P3.led X.so]
 have perm:List.Perm (Γ.its++(e,excO C d a0 tb vs2)::(d,dictOf es nn)::(led w ρ hp++Γ.rest)) (((e,excO C d a0 tb vs2)::(d,dictOf es nn)::led w ρ hp)++(Γ.rest++Γ.its)):=by
  rw[←List.append_assoc]
  exact List.perm_append_comm
 refine⟨ρ3,P3,rfl,⟨⟨nc,λp hp=>?_,λp hp=>?_,λp hp=>?_,K.hx,K.ll,K.lh,K.dd⟩,⟨K3,T3,B3,(λh=>nomatch h)⟩,⟨_,F3,(hS.cv _ _ _).mpr ⟨λi v hl=>?_,cells_same ((hS.cv _ _ _).mp cv).2 P3⟩⟩,?_,?_⟩⟩
 .rcases List.mem_cons.mp hp with rfl|hp
  .exact⟨C,a0,tb,vs2,by rw[o1,e2],hC⟩
  rcases List.mem_cons.mp hp with rfl|hp
  .exact mkEEA es nn o2 (by rw[e3];exact hcode)
  .exact K.ok p hp
 .rcases List.mem_cons.mp hp with rfl|hp
  .exact mkAA (by show ρ.n<_;omega) (by show ρ.n<_;omega) (by show Nat.succ ρ.n<_;omega)
  rcases List.mem_cons.mp hp with rfl|hp
  .exact mkAA (by show Nat.succ ρ.n<_;omega) (by show Nat.succ ρ.n<_;omega) (by show Nat.succ (Nat.succ ρ.n)<_;omega)
  .exact K.so p hp
 .rcases List.mem_cons.mp hp with rfl|hp
  .show ρ.n<_;omega
  .exact K.sv p hp
 .rw[nm_iff,beq_comm']
  have hl:bi (Nat.beq i 49) (some (.ref ρ.n)) (lk vs i)=some v:=hl
  rcases q:Nat.beq i 49 with _|_
  .rw[q]at hl
   have hl:lk vs i=some v:=hl
   show m (nm i)=_
   rw[((hS.cv _ _ _).mp cv).1 i v hl,P3.iv (X.sv _ (lk_mem hl))]
  .rw[q]at hl
   have hl:some (V.ref ρ.n)=some v:=hl
   cases hl
   show some (Value.ref e)=some (.ref (ρ3.num ρ.n))
   rw[e1]
 .show News g3 Γ.L h3 (led w ρ3 _++(Γ.rest++Γ.its))
  rw[el];exact news_perm N3 perm
 .show(ads (led w ρ3 _++(Γ.rest++Γ.its))).Nodup
  rw[el];exact nd_perm ND3 perm
theorem flt_out{e:Addr}{pos:Pos}{Q:Unit->Shared->Prop}(hS:St Γ)(hl:Γ.env.kindOf (nm 49)=some .local)(R:Rl (Γ.hm e) ρ σ h)(kt:KtsDicts (frs Γ.outer) ρ.g)(g:clean n σ K=true)
 (hq:∀σ' h' tk',Rl Γ ρ σ' h'->K σ'=true->Q () (Γ.sh h' tk')):Γ.wp (do bindName Γ.env (nm 49) .none;unbindBehindTheSuite Γ.env (nm 49) pos) Q E h tk:=by
 refine elEA (λhp' sub g=>?_)<|clean_e g
 refine elEA (λm F cv=>?_)<|R.fr
 refine wpAny_nameGoes_keeps hl (by rw[hS.ll];exact F.ns) (cls_no hS) λh5 v5 hn5 hs5=>?_
 rw[hS.ll]at hn5 hs5
 have ls:List.Sublist (led w ρ hp'++(Γ.rest++Γ.its)) (led w ρ σ.hp++(Γ.rest++Γ.its)):=(sub.map _).append (.refl _)
 refine hq ⟨hp',unb 49 σ.vs,σ.nx⟩ h5 _ ⟨⟨R.ln,λp hp=>R.ok p (sub.subset hp),λp hp=>R.so p (sub.subset hp),λp hp=>R.sv p (unb_mem hp),R.hx,R.ll,R.lh,R.dd⟩,⟨R.kn,R.tp,R.bl,λ_=>kt⟩,⟨_,F.set hn5 hs5,(hS.cv _ _ _).mpr ⟨λi v hl=>?_,((hS.cv _ _ _).mp cv).2⟩⟩,λq hq=>(R.nw.set hs5) q (ls.subset hq),R.nd.sublist (ls.map _)⟩ g
 have hl:lk (unb 49 σ.vs) i=some v:=hl
 rw[unb_lk]at hl
 rw[nm_iff,beq_comm']
 rcases q:Nat.beq i 49 with _|_
 .rw[q]at hl;exact((hS.cv _ _ _).mp cv).1 i v hl
 .rw[q]at hl;cases hl
noncomputable def hX(hb r:IS)(P:Pm)(o:Po):KX:=λC c σ=>cd (bi (Nat.beq C 51) true (Nat.beq C 70)) (S.rec (motive:=λ_=>Bool) (λhp vs nx=>vS hb (Ph P) ⟨(nx,.flt nx (Nat.succ nx))::(Nat.succ nx,.fld (Nat.succ nx) c (Nat.succ (Nat.succ nx)))::hp,(49,.ref nx)::vs,Nat.succ (Nat.succ (Nat.succ nx))⟩ ⟨λσ=>clean nx σ λσ=>vS r P σ o,λv σ=>clean nx σ λσ=>o.rt v σ,λ_=>false⟩) σ)
theorem try_ok(b hb:IS)(p q s:Nat)(r:IS)(B:SOk prog w lv b)(H:SOk prog w lv hb)(Rr:SOk prog w lv r):SOk prog w lv (.try b hb p q s r):=by
 intro Γ P hP hS hc hy o σ ρ h tk Q E g R hn hr hbk hx hp
 have tn:Γ.tn=true:=by
  cases e:Γ.tn
  .exact ff (hy e)
  .rfl
 have hy':∀{c},Γ.tn=false->noTry c=true:=λe=>by rw[tn]at e;cases e
 refine aa5 (λhcg hcl hho hcb hch hcr=>?_) hc
 refine elEE (λb0 su esu=>?_)<|toS_cons hho
 refine wpAny_execs_cons (wpAny_Try_except ?_)
 have NX:∀{ρ1},Γ.Ext ρ ρ1->∀ρ2 σ2 h2 tk2,Γ.Ext ρ1 ρ2->Rl Γ ρ2 σ2 h2->vS r P σ2 o=true->Γ.wp (execs (toS r) Γ.env) Q E h2 tk2:=λx1 ρ2 σ2 h2 tk2 x2 R2 g2=>
  Rr Γ P hP hS hcr hy' o σ2 ρ2 h2 tk2 Q E g2 R2 (bk_up hn (x1.trans x2)) (hr.up (x1.trans x2)) (bk_up hbk (x1.trans x2)) (hx.up (x1.trans x2)) hp
 refine B Γ ⟨P.F,P.D,P.cs,hX hb r P o⟩ ⟨hP.D,hP.cs,hP.out,hP.nh,hP.all⟩ hS hcb hy' ⟨λσ=>vS r P σ o,o.rt,o.bk⟩ σ ρ h tk _ _ g R (λρ2 σ2 h2 tk2 x2 R2 g2=>wpAny_execs_nil (NX .refl ρ2 σ2 h2 tk2 x2 R2 g2)) hr hbk ?_ PassesOwn.looking
 intro e C c ρ1 σ1 h1 tk1 x1 X g1
 obtain⟨hC,g1⟩:=cd_e g1
 have hC:C=51\/C=70:=by
  rcases bi_e hC with⟨e,-⟩|⟨-,e⟩
  .exact .inl (Nat.eq_of_beq_eq_true e)
  .exact .inr (Nat.eq_of_beq_eq_true e)
 refine elEA (λm XI cv=>?_)<|X.x
 rw[hS.fe]at XI
 obtain⟨XB,TB⟩:=Γ.ct tn
 have hfA:Γ.A.frames=some (Γ.env::Γ.outer):=by have:=Γ.fr;rwa[hS.fe]at this
 have hfl:Γ.env.frame=some Γ.L:=by have:=Γ.lf;rwa[hS.fe]at this
 have ndi:(ads Γ.its).Nodup:=by
  have:=R.nd
  rw[ads,List.map_append,List.map_append,List.nodup_append,List.nodup_append]at this
  exact this.2.1.2.1
 have hx9:exmOne (KF w) (.ref C) (.ref 51)=some true:=by rcases hC with rfl|rfl;exact exm51;exact exm70
 obtain⟨kl,-⟩:=knd_e hcl
 obtain⟨kg,dg⟩:=knd_e hcg
 show wpAny _ _ _ (λ_ s₂=>wpAny _ _ _ (λ_ s₃=>wpAny _ _ (handleBy _ Γ.env (.ExceptHandler (some (.Name (nm 83) (dp s))) (some (nm 49)) (toS hb) (dp q)::[])) _ _ s₃) _ s₂) _ _
 rw[esu]
 refine caught_l (s':=Γ.sh h1 tk1) hfA hfl hS.ll hS.nn.ga XI X.kp ndi X.bl XB TB (X.kt tn) gn_io hx9 (λh3 g3 tk3 d es nn a0 tb vs2 tkc TT F3 N3 ND3 hcode B3 X3 T3 KD3=>?_) hS.nn.kd kl kg dg
 refine elEAA (λρ3 p3 eg3 R3=>?_)<|flt_in hS X hC cv X3 T3 B3 F3 N3 ND3 hcode
 have X3:Γ.Ext ρ1 ρ3:=mkAA p3 (by rw[eg3];exact TT) (λe=>by rw[tn]at e;cases e)
 rw[←esu]
 have EQ:∀{ρ4},(Γ.hm e).Ext ρ3 ρ4->Γ.Ext ρ1 ρ4/\KtsDicts (frs Γ.outer) ρ4.g:=λ{ρ4} x4=>by
  have eg:ρ4.g=ρ3.g:=x4.2.2 rfl
  exact⟨X3.trans ⟨x4.1,x4.2.1,λ_=>eg⟩,by rw[eg,eg3];exact KD3⟩
 refine hand_ok (Γ:=Γ.hm e) (P:=Ph P) (tk:=tk3) (hS.hn e) (inter_ok (Γ:=Γ) hS) (λ_ _ _ _ _ _ _=>rfl) (λ_ _ _=>rfl) hho hch (o:=⟨λσ=>clean σ1.nx σ λσ=>vS r P σ o,λv σ=>clean σ1.nx σ λσ=>o.rt v σ,λ_=>false⟩) g1 R3 (λρ4 σ4 h4 tk4 x4 R4 g4=>?_) (λv ρ4 σ4 h4 tk4 x4 sv4 R4 g4=>?_)
 .obtain⟨x5,k5⟩:=EQ x4
  exact flt_out hS kl R4 k5 g4 λσ5 h5 tk5 R5 g5=>NX x1 ρ4 σ5 h5 tk5 x5 R5 g5
 .obtain⟨x5,k5⟩:=EQ x4
  exact flt_out hS kl R4 k5 g4 λσ5 h5 tk5 R5 g5=>hr v ρ4 σ5 h5 tk5 (x1.trans x5) sv4 R5 g5
theorem s_all:∀ir:IS,SOk prog w lv ir:=s_ok try_ok
end
end Mine.Q
namespace Mine
theorem bindL_at{kindOf:Str->Option NameKind}{x:Str}{v:Value}(hk:kindOf x=some .local):∀{binds:List (Str×Value)} {m:Str->Option Value},(binds.map (λp=>p.1)).Nodup->(x,v)∈binds->bindL kindOf binds m x=some v
 |(n,u)::r,m,nd,h=>by
  obtain⟨n1,n2⟩:=List.nodup_cons.mp nd
  show bindL kindOf r _ x=_
  rcases List.mem_cons.mp h with e|h
  .cases e
   have:∀{r:List (Str×Value)} {m:Str->Option Value},x∉r.map (λp=>p.1)->bindL kindOf r m x=m x:=by
     intro r
     induction r with
     |nil=>exact λ_=>rfl
     |cons p r ih=>
      intro m hn
      show bindL kindOf r _ x=_
      rw[ih λh=>hn (.tail _ h)]
      split
      .exact if_neg λe=>hn (by show x∈p.1::_;rw[←e];exact .head _)
      .rfl
   rw[this n1,if_pos hk,if_pos rfl]
  .exact bindL_at hk n2 h
theorem bindC_at{kindOf:Str->Option NameKind}{x:Str}{v:Value}(hk:kindOf x=some .cell):∀{binds:List (Str×Value)} {m:Str->Option Value},(binds.map (λp=>p.1)).Nodup->(x,v)∈binds->bindC kindOf binds m x=some v
 |(n,u)::r,m,nd,h=>by
  obtain⟨n1,n2⟩:=List.nodup_cons.mp nd
  show bindC kindOf r _ x=_
  rcases List.mem_cons.mp h with e|h
  .cases e
   rw[bindC_off n1,if_neg (by rw[hk];exact λe=>nomatch e),if_pos rfl]
  .exact bindC_at hk n2 h
where
 bindC_off {kindOf:Str->Option NameKind} {x:Str}:∀{r:List (Str×Value)} {m:Str->Option Value},x∉r.map (λp=>p.1)->bindC kindOf r m x=m x
 |[],_,_=>rfl
 |p::r,m,hn=>by
  show bindC kindOf r _ x=_
  rw[bindC_off λh=>hn (.tail _ h)]
  split
  .rfl
  .exact if_neg λe=>hn (by show x∈p.1::_;rw[←e];exact .head _)
end Mine
namespace Mine.Q
section
variable{prog:Program}{w:World}{Γ:Fx prog w}{ρ:Rho}{h:Heap}{σ:S}{tk:Nat}
theorem nm_of{qual:Str}{scope:Scope}{L f:Addr}{cdv:Value}(he:Γ.env=envOfC qual scope L f cdv)(ht:Γ.tn=false)(hk:scope.kind=.function)(hL:Γ.L=L)(hc:∀x,scope.names.lookup x=some .cell->∃c,(cellsFrom (L+1) scope.names []).lookup x=some c)
 (cv:∀m ρ σ,Γ.cov m ρ σ↔(∀i v,lk σ.vs i=some v->m (nm i)=some (iv ρ v))/\CellsOk Γ ρ):Nm Γ where
 tn:=ht
 kd:=by rw[he];exact hk
 ga:=by rw[he];rfl
 bu:=by rw[he];rfl
 cl:=λx h=>by rw[he]at h⊢;exact hc x h
 cv:=λm ρ σ H=>((cv m ρ σ).mp H).2
 loc:=λ{i v ρ σ h tk pos Q E} hc hl R q=>by
  refine elEA (λm' F c=>?_)<|R.fr
  obtain⟨h2,h3⟩:=knd_e hc
  exact wpAny_Name (wpAny_loadName_local (by rw[he];exact hk) h2 (by rw[he];exact hL▸F.ns) (((cv _ _ _).mp c).1 i v hl) q) h3
 cel:=λ{i n o v ρ σ h tk pos Q E} hc hl ho R q=>by
  refine elEA (λm' F c=>?_)<|R.fr
  obtain⟨h2,h3⟩:=knd_e hc
  exact wpAny_Name (wpAny_loadName_cell (by rw[he];exact hk) h2 (((cv _ _ _).mp c).2 i n hc hl).2 ⟨_,(R.nw _ (R.mem ho)).1,R.oko ho⟩ q) h3
 glo:=λ{i v ρ σ h tk pos Q E} hc hv R q=>by
  refine elEA (λm' F z308=>?_)<|R.fr;clear z308
  obtain⟨h2,h3⟩:=knd_e hc
  exact Name_function_global (by rw[he];exact hk) h2 (loadGlobal_global (by rw[he];exact(R.tp.keeps F.keep).g) (mg_of R.kn R.tp.g hv) q) h3
 blt:=λ{i v ρ σ h tk pos Q E} hc hv hb hn hd R q=>by
  refine elEA (λm' F z309=>?_)<|R.fr;clear z309
  exact Name_function_global (by rw[he];exact hk) hc (loadGlobal_builtin (by rw[he];exact(R.tp.keeps F.keep).g) (mg_none_of R.kn R.tp.g hv) (by rw[he];exact(R.tp.keeps F.keep).b) ((R.tp.builtins _ hn).trans hb) q) hd
noncomputable def covF(scope:Scope)(L:Addr)(ci:List (Nat×Nat))(m:Str->Option Value)(ρ:Rho)(σ:S):Prop:=
 (∀i v,lk σ.vs i=some v->m (nm i)=some (iv ρ v))/\∀i n,cll scope i=true->lk ci i=some n->n<ρ.n/\(cellsFrom (L+1) scope.names []).lookup (nm i)=some (ρ.num n)
noncomputable def Fx.fn(prog:Program)(w:World)(qual:Str)(scope:Scope)(L a:Addr)(cdv:Value)(outer:List Env)(base:Heap)(p:Program)(loose:List Str)(mean:ExcName->Option Value)(mg mb:Str->Option Value)(gs:Array GenState)(dr:Drawn)(os:OsState)(D:Nat)(tn:Bool)(ci:List (Nat×Nat))
 (hD:D<=880)(hk:scope.kind=.function)(ct:tn=true->(KF w).In base/\Top p loose mean mg mb base):Fx prog w:=
 ⟨(ar D outer).deeper (envOfC qual scope L a cdv),envOfC qual scope L a cdv,envOfC qual scope L a cdv,L,outer,base,p,loose,mean,mg,mb,gs,dr,os,D+10,[],[],tn,false,ci,covF scope L ci,
   rfl,λ_=>rfl,Nat.add_le_add_left (by decide) D,by omega,(by show 10*D+3<=10*(D+10);omega),rfl,hk,ct,(λ_ h=>nomatch h),λm ρ ρ' σ σ' x hs ev H=>⟨λi v h=>by rw[ev]at h;rw[x.iv (hs _ (lk_mem h))];exact H.1 i v h,λi n a b=>⟨Nat.lt_of_lt_of_le (H.2 i n a b).1 x.le,by rw[x.num (H.2 i n a b).1];exact(H.2 i n a b).2⟩⟩⟩
noncomputable def CsOk(cs:List Nat)(scope:Scope):Prop:=(∀n,cellsFrom n scope.names []=cs.map λc=>(nm c,n))/\(∀x,scope.names.lookup x=some .cell->∃c∈cs,x=nm c)/\(∀c∈cs,scope.names.lookup (nm c)=some .cell)/\cs.length<=1
theorem CsOk.cl{cs:List Nat}{scope:Scope}(H:CsOk cs scope){L:Addr}:∀x,scope.names.lookup x=some .cell->∃c,(cellsFrom (L+1) scope.names []).lookup x=some c:=λx h=>by
 refine elEA (λc hc r310=>?_)<|H.2.1 x h;subst r310
 match cs,hc,H.2.2.2 with
 |[d],hc,_=>
  rw[List.mem_singleton]at hc
  subst hc
  rw[H.1]
  exact⟨L+1,by show List.lookup (nm c) [(nm c,L+1)]=_;rw[List.lookup_cons,beq_self_eq_true]⟩
theorem st_fn{qual:Str}{scope:Scope}{L a:Addr}{cdv:Value}{outer:List Env}{base:Heap}{p:Program}{loose:List Str}{mean:ExcName->Option Value}{mg mb:Str->Option Value}{gs:Array GenState}{dr:Drawn}{os:OsState}{D:Nat}{tn:Bool}{ci:List (Nat×Nat)}
 {hD:D<=880}{hk:scope.kind=.function}{ct:tn=true->(KF w).In base/\Top p loose mean mg mb base}{cs:List Nat}(H:CsOk cs scope):St (Fx.fn prog w qual scope L a cdv outer base p loose mean mg mb gs dr os D tn ci hD hk ct):=
 ⟨nm_of rfl rfl hk rfl H.cl λ_ _ _=>Iff.rfl,λ_ _ _=>Iff.rfl,rfl,rfl,rfl,λe=>nm_of rfl rfl hk rfl H.cl λ_ _ _=>Iff.rfl⟩
theorem bindC_zip{kindOf:Str->Option NameKind}{ps:List Nat}{vs:List V}{c:Nat}(hk:kindOf (nm c)=some .cell)(nd:ps.Nodup):bindC kindOf ((ps.map nm).zip (ivs ρ vs)) (λ_=>none) (nm c)=(lk (ps.zip vs) c).map (iv ρ):=by
 rcases e:lk (ps.zip vs) c with _|v
 .refine bindC_at.bindC_off λhm=>?_
  obtain⟨⟨x,u⟩,hp,rfl⟩:=List.mem_map.mp hm
  rw[show ivs ρ vs=vs.map (iv ρ)from rfl,List.zip_map]at hp
  refine elEA (λn313 hi e2=>?_)<|List.mem_map.mp hp;obtain⟨i,v⟩:=n313
  have e3:nm i=nm c:=congrArg Prod.fst e2
  have:=nm_inj e3
  subst this
  have:∀{l:List (Nat×V)},(i,v)∈l->lk l i≠none:=by
   intro l
   induction l with
   |nil=>exact λh=>nomatch h
   |cons q l ih=>
    intro hm hn
    rw[lk_cons]at hn
    rcases List.mem_cons.mp hm with rfl|hm
    .rw[Nat.beq_refl]at hn;cases hn
    .rcases q':Nat.beq i q.1 with _|_
     .rw[q']at hn;exact ih hm hn
     .rw[q']at hn;cases hn
  exact this hi e
 .exact bindC_at hk (zip_nd nd) (zip_in e)
theorem in_fn{qual:Str}{scope:Scope}{L a:Addr}{cdv:Value}{outer:List Env}{base gh h₁:Heap}{p:Program}{loose:List Str}{mean:ExcName->Option Value}{mg mb:Str->Option Value}{gs:Array GenState}{dr:Drawn}{os:OsState}{D:Nat}{tn:Bool}
 {hD:D<=880}{hk:scope.kind=.function}{ct:tn=true->(KF w).In base/\Top p loose mean mg mb base}{cs ps:List Nat}{vs:List V}{hp:Hp}{nx:Nat}{cells:Lg}{kk:List (Nat×Nat)->S->Bool}(H:CsOk cs scope)
 (hlen:ps.length=vs.length)(hps:(ps.all λi=>mem i cs||scope.names.lookup (nm i)==some .local)=true)(nd:ps.Nodup)(hvs:scs ρ.n vs)(hok:Ok prog w ρ ⟨hp,[],nx⟩)
 (B:Below (ar (D+10) outer) base outer gh)(X:(KF w).In gh)(Tp:Top p loose mean mg mb gh)(kt:tn=true->KtsDicts (frs outer) gh)
 (F:Fr gh L h₁ (bindL (envOfC qual scope L a cdv).kindOf ((ps.map nm).zip (ivs ρ vs)) λ_=>none))(N:News gh L h₁ (cells++led w ρ hp))(Cs:CellsAre (bindC (envOfC qual scope L a cdv).kindOf ((ps.map nm).zip (ivs ρ vs)) λ_=>none) (cellsFrom (L+1) scope.names []) cells)
 (ND:(ads (led w ρ hp)).Nodup)(lt:∀q∈led w ρ hp,q.1<L)(g:celK cs (ps.zip vs) ⟨hp,ps.zip vs,nx⟩ kk=true):
 ∃ci σ ρ1,kk ci σ=true/\Pre ρ ρ1/\ρ1.g=gh/\Rl (Fx.fn prog w qual scope L a cdv outer base p loose mean mg mb gs dr os D tn ci hD hk ct) ρ1 σ h₁:=by
 have loc:∀i v,lk (ps.zip vs) i=some v->mem i cs=false->bindL (envOfC qual scope L a cdv).kindOf ((ps.map nm).zip (ivs ρ vs)) (λ_=>none) (nm i)=some (iv ρ v):=λi v hl hm=>by
  refine bindL_at ?_ (zip_nd nd) (zip_in hl)
  rcases Bool.or_eq_true _ _▸List.all_eq_true.mp hps i (zip_mem (lk_mem hl)).1 with q|q
  .rw[hm]at q;cases q
  .exact eq_of_beq q
 match cs,H,g,loc,Cs with
 |[],H,g,loc,Cs=>
  rw[H.1]at Cs
  cases Cs
  have e1:ivs {ρ with g:=gh} vs=ivs ρ vs:=gpre.ivs hvs
  have el:led w {ρ with g:=gh} hp=led w ρ hp:=gpre.led hok.so
  have K:=hok.re (gpre (g:=gh)) rfl
  refine⟨[],⟨hp,ps.zip vs,nx⟩,{ρ with g:=gh},g,gpre,rfl,⟨⟨K.ln,K.ok,K.so,λq hq=>?_,K.hx,K.ll,K.lh,K.dd⟩,⟨X,Tp,B,kt⟩,⟨_,F,λi v hl=>?_,λ_ _ _ h=>nomatch h⟩,?_,?_⟩⟩
  .obtain⟨q1,q2⟩:=q
   exact hvs _ (zip_mem hq).2
  .rw[(gpre (ρ:=ρ) (g:=gh)).iv (hvs _ (zip_mem (lk_mem hl)).2)]
   exact loc i v hl rfl
  .show News gh L h₁ (led w {ρ with g:=gh} hp++([]++[]))
   rw[List.append_nil,List.append_nil,el];exact N
  .show(ads (led w {ρ with g:=gh} hp++([]++[]))).Nodup
   rw[List.append_nil,List.append_nil,el];exact ND
 |[c],H,g,loc,Cs=>
  rw[H.1]at Cs
  refine elEA (λoc' r314 hod=>?_)<|Cs.one;subst r314
  have hcl:=H.2.2.1 c (.head _)
  rw[bindC_zip (show scope.names.lookup (nm c)=_ from hcl) nd]at hod
  have g:kk [(c,nx)] ⟨(nx,.cel (Nat.succ nx) (lk (ps.zip vs) c))::hp,unb c (ps.zip vs),Nat.succ (Nat.succ nx)⟩=true:=g
  have hn:ρ.n=nx:=hok.ln
  let ρ1:Rho:=Rho.p2 {ρ with g:=gh} (L+1) 0 oc'
  have px:Pre ρ ρ1:=gpre.trans p2_pre
  have n1:ρ1.n=Nat.succ (Nat.succ nx):=by show((ρ.c++[_])++[_]).length=_;rw[List.length_append,List.length_append,←hn];rfl
  have num1:ρ1.num nx=L+1:=by rw[←hn];exact p2_num (ρ:={ρ with g:=gh})
  have obj1:ρ1.obj (Nat.succ nx)=oc':=by rw[←hn];exact p2_obj (ρ:={ρ with g:=gh})
  have el:led w ρ1 hp=led w ρ hp:=px.led hok.so
  have K:Ok prog w ρ1 ⟨hp,[],ρ1.n⟩:=Ok.up px hok
  have sc0:∀y∈lk (ps.zip vs) c,y.sc ρ.n:=λy hy=>hvs _ (zip_mem (lk_mem hy)).2
  refine⟨[(c,nx)],_,ρ1,g,px,rfl,⟨⟨n1,λq hq=>?_,λq hq=>?_,λq hq=>?_,K.hx,K.ll,K.lh,K.dd⟩,⟨X,Tp,B,kt⟩,⟨_,F,λi v hl=>?_,λi n a' hl=>?_⟩,?_,?_⟩⟩
  .rcases List.mem_cons.mp hq with rfl|hq
   .show(ρ1.obj (Nat.succ nx)).data=.cell ((lk (ps.zip vs) c).map (iv ρ1))
    rw[obj1,hod]
    rcases e:lk (ps.zip vs) c with _|y
    .rfl
    .exact congrArg (λz=>Data.cell (some z)) (px.iv (sc0 y e)).symm
   .exact K.ok q hq
  .rcases List.mem_cons.mp hq with rfl|hq
   .exact mkAA (by rw[n1];exact Nat.lt_succ_of_lt (Nat.lt_succ_self _)) (λy hy=>(sc0 y hy).up px.le) (by rw[n1];exact Nat.lt_succ_self _)
   .exact K.so q hq
  .obtain⟨q1,q2⟩:=q
   exact V.sc.up (hvs _ (zip_mem (unb_mem hq)).2) px.le
  .have hl:lk (unb c (ps.zip vs)) i=some v:=hl
   rw[unb_lk]at hl
   rcases e:Nat.beq i c with _|_
   .rw[e]at hl
    have hl:lk (ps.zip vs) i=some v:=hl
    rw[px.iv (hvs _ (zip_mem (lk_mem hl)).2)]
    exact loc i v hl (by show bi (Nat.beq i c) true false=false;rw[e];rfl)
   .rw[e]at hl;cases hl
  .have hl:bi (Nat.beq i c) (some nx) none=some n:=hl
   rcases e:Nat.beq i c with _|_
   .rw[e]at hl;cases hl
   .rw[e]at hl
    have hl:some nx=some n:=hl
    cases hl
    refine⟨by rw[n1];exact Nat.lt_succ_of_lt (Nat.lt_succ_self _),?_⟩
    rw[H.1,Nat.eq_of_beq_eq_true e,num1]
    show List.lookup (nm c) [(nm c,L+1)]=_
    rw[List.lookup_cons,beq_self_eq_true]
  .show News gh L h₁ ((ρ1.num nx,ρ1.obj (Nat.succ nx))::(led w ρ1 hp++([]++[])))
   rw[List.append_nil,List.append_nil,el,num1,obj1];exact N
  .show(ads ((ρ1.num nx,ρ1.obj (Nat.succ nx))::(led w ρ1 hp++([]++[])))).Nodup
   rw[List.append_nil,List.append_nil,el,num1,obj1];exact nd_cell ND lt
 |_::_::_,H,_,_,_=>exact absurd H.2.2.2 (by simp)
end
end Mine.Q
namespace Mine.Q
section
variable{prog:Program}{w:World}{Γ:Fx prog w}{ρ:Rho}{h:Heap}{σ:S}{tk:Nat}
noncomputable def FnG(w:World)(tr:Bool)(a:Addr)(r:FnRow):Prop:=
 ∃(name qual:Str) (params:Arguments) (scope:Scope) (dV kV doc pm cdv ct oc:Value) (an od:Option Addr) (osl:Array (Option Value)),
  (hd.heap_39 w.params).lookup a=some ⟨oc,od,.func (fnOf name qual params (toS r.ir) scope dV kV doc pm an cdv ct),osl⟩/\codeIn (hd.heap_39 w.params) cdv qual=true/\
  (∀vs s,r.ps.length=vs.length->BindsTo s (fnOf name qual params (toS r.ir) scope dV kV doc pm an cdv ct) ⟨vs,[]⟩ ((r.ps.map nm).zip vs))/\(r.ps.all λi=>mem i r.cs||scope.names.lookup (nm i)==some .local)=true/\nodB r.ps=true/\
  wfS r.ir scope=true/\(tr||noTry r.ir)=true/\scope.isCoroutine=false/\scope.isGenerator=false/\scope.kind=.function/\CsOk r.cs scope
noncomputable def fnP(k:V->Hp->Nat->Bool):Po:=⟨λσ=>S.rec (λhp _ nx=>k .non hp nx) σ,λv σ=>S.rec (λhp _ nx=>k v hp nx) σ,λ_=>false⟩
theorem fn_kind{ps cs:List Nat}{scope:Scope}{us:List Value}(H:CsOk cs scope)(h:(ps.all λi=>mem i cs||scope.names.lookup (nm i)==some .local)=true):(((ps.map nm).zip us).all λy=>scope.names.lookup y.1==some .local||scope.names.lookup y.1==some .cell)=true:=
 List.all_eq_true.mpr λy hy=>by
  obtain⟨y1,y2⟩:=y
  refine elEA (λi hi e=>?_)<|List.mem_map.mp (zip_mem hy).1
  subst e
  rcases Bool.or_eq_true _ _▸List.all_eq_true.mp h i hi with q|q
  .rw[H.2.2.1 i (mem_eq.mp q)];rfl
  .rw[eq_of_beq q];rfl
theorem fn_nd{cs:List Nat}{scope:Scope}(H:CsOk cs scope):((cellsFrom 0 scope.names []).map (·.1)).Nodup:=by
 rw[H.1]
 match cs,H.2.2.2 with
 |[],_=>exact .nil
 |[c],_=>exact List.nodup_cons.mpr ⟨(λh=>nomatch h),.nil⟩
variable{D:Nat}{a:Nat}{r:FnRow}{vs:List V}{hp:Hp}{nx:Nat}{k:V->Hp->Nat->Bool}{F:Bool->Nat->List V->Hp->Nat->(V->Hp->Nat->Bool)->(Nat->Int->Hp->Nat->Bool)->Bool}
theorem fn_spec{x:Nat->Int->Hp->Nat->Bool}(hF:FnG w false a r)(hD:D<=880)(hFO:FOk prog w (D+10) F)(hvs:scs ρ.n vs)(hok:Ok prog w ρ ⟨hp,[],nx⟩)(hlen:r.ps.length=vs.length)
 (g:celK r.cs (r.ps.zip vs) ⟨hp,r.ps.zip vs,nx⟩ (λcs σ=>vS r.ir ⟨F,D+10,cs,λC c σ=>S.rec (λhp _ nx=>x C c hp nx) σ⟩ σ (fnP k))=true):
 Spec (KF w) prog w D (.ref a) (ivs ρ vs) (led w ρ hp) (SpP prog w ρ k) (SpX prog w ρ x):=by
 refine elEEEEEEE (λname qual params scope dV kV doc q315=>?_) hF;refine elEEEEEEE (λpm cdv ct oc an od osl q316=>?_) q315;clear q315;refine elAAAAAAA (λf1 f2 f3 f4 f4n f5 f5t q317=>?_) q316;clear q316;refine elAAA (λf6 f7 f8 f9=>?_) q317;clear q317;clear hF
 intro gh outer p loose mean mg mb s R B X Tp H hok' hex
 obtain⟨hp0,gs,dr,tk0,os⟩:=s
 refine enter_cells X Tp H f1 f2 (by show D<1000;omega) (f3 _ _ (hlen.trans (List.length_map ..).symm)) (fn_kind f9 f4) (fn_nd f9) (λL h₁ tk cells F N Cs ND lt=>?_) f6 f7 f8
 refine elEEEAAA (λci σ ρ1 g px eg R1=>?_)<|in_fn (tn:=false) (base:=e0) (gs:=gs) (dr:=dr) (os:=os) (hD:=hD) (hk:=f8) (ct:=λh=>nomatch h) f9 hlen f4 (nodB_ok f4n) hvs hok (below_e0 B rfl) X Tp (λh=>nomatch h) F N Cs ND lt g
 have P0:∀{ρ2},(Fx.fn prog w qual scope L a cdv outer e0 p loose mean mg mb gs dr os D false ci hD f8 λh=>nomatch h).Ext ρ1 ρ2->Pre ρ ρ2/\ρ2.g=gh:=λx=>⟨px.trans x.1,(x.2.2 rfl).trans eg⟩
 refine s_all (lv:=false) r.ir (Fx.fn prog w qual scope L a cdv outer e0 p loose mean mg mb gs dr os D false ci hD f8 λh=>nomatch h) _ ⟨rfl,rfl,(λh=>nomatch h),rfl,λx Γ' hD' _=>callOk_of hFO hD'⟩ (st_fn f9) f5 (λ_=>by simpa using f5t) _ σ ρ1 h₁ tk _ _ g R1 (λρ2 σ2 h2 tk2 x2 R2 g2=>?_) (λv ρ2 σ2 h2 tk2 x2 hs R2 g2=>?_) (λ_ _ _ _ _ _ g2=>ff g2) (λe C' c ρ2 σ2 h2 tk2 x2 X2 g2=>?_) PassesOwn.leaving
 .obtain⟨p2,eg2⟩:=P0 x2
  refine elEA (λm F2 z318=>?_)<|R2.fr;clear z318
  have N2:=R2.nw
  rw[eg2]at F2 N2
  exact hok' .none _ h2 tk2 (spP_of (kk:=k) (vv:=.non) p2 trivial R2.toOk g2) (has_sel F2 N2 R2.nd sel_fst)
 .obtain⟨p2,eg2⟩:=P0 x2
  refine elEA (λm F2 z319=>?_)<|R2.fr;clear z319
  have N2:=R2.nw
  rw[eg2]at F2 N2
  exact hok' _ _ h2 tk2 (spP_of (kk:=k) p2 hs R2.toOk g2) (has_sel F2 N2 R2.nd sel_fst)
 .obtain⟨p2,eg2⟩:=P0 x2
  refine elEA (λm X3 z320=>?_)<|X2.x;clear z320
  rw[eg2]at X3
  have X3:=X3
  rw[show(Fx.fn prog w qual scope L a cdv outer e0 p loose mean mg mb gs dr os D false ci hD f8 λh=>nomatch h).rest=[]from rfl,List.append_nil]at X3
  exact leave_x (s:=⟨h2,gs,dr,tk2,os⟩) rfl rfl X3 λh₃ H=>hex _ _ _ _ _ _ (spX_of (kx:=x) p2 X2.toOk g2) H
theorem fn_specC(hF:FnG w true a r)(hD:D<=880)(hFO:FOk prog w (D+10) F)(hvs:scs ρ.n vs)(hok:Ok prog w ρ ⟨hp,[],nx⟩)(hlen:r.ps.length=vs.length)
 (g:celK r.cs (r.ps.zip vs) ⟨hp,r.ps.zip vs,nx⟩ (λcs σ=>vS r.ir ⟨F,D+10,cs,λ_ _ _=>false⟩ σ (fnP k))=true):
 SpecC (KF w) prog w D (.ref a) (ivs ρ vs) (led w ρ hp) (SpP prog w ρ k):=by
 refine elEEEEEEE (λname qual params scope dV kV doc q321=>?_) hF;refine elEEEEEEE (λpm cdv ct oc an od osl q322=>?_) q321;clear q321;refine elAAAAAAA (λf1 f2 f3 f4 f4n f5 f5t q323=>?_) q322;clear q322;refine elAAA (λf6 f7 f8 f9=>?_) q323;clear q323;clear hF
 intro base gh outer p loose mean mg mb s R B XB TB X Tp KD H hok'
 obtain⟨hp0,gs,dr,tk0,os⟩:=s
 refine enter_cells X Tp H f1 f2 (by show D<1000;omega) (f3 _ _ (hlen.trans (List.length_map ..).symm)) (fn_kind f9 f4) (fn_nd f9) (λL h₁ tk cells F N Cs ND lt=>?_) f6 f7 f8
 refine elEEEAAA (λci σ ρ1 g px eg R1=>?_)<|in_fn (tn:=true) (base:=base) (gs:=gs) (dr:=dr) (os:=os) (hD:=hD) (hk:=f8) (ct:=λ_=>⟨XB,TB⟩) f9 hlen f4 (nodB_ok f4n) hvs hok ⟨rfl,B.stays,B.frames⟩ X Tp (λ_=>KD) F N Cs ND lt g
 have P0:∀{ρ2},(Fx.fn prog w qual scope L a cdv outer base p loose mean mg mb gs dr os D true ci hD f8 λ_=>⟨XB,TB⟩).Ext ρ1 ρ2->Pre ρ ρ2/\KtsTurn (frs outer) gh ρ2.g:=λx=>⟨px.trans x.1,by have:=x.2.1;rwa[eg]at this⟩
 refine s_all (lv:=false) r.ir (Fx.fn prog w qual scope L a cdv outer base p loose mean mg mb gs dr os D true ci hD f8 λ_=>⟨XB,TB⟩) _ ⟨rfl,rfl,(λh=>nomatch h),rfl,λx Γ' hD' _=>callOk_of hFO hD'⟩ (st_fn f9) f5 (λe=>nomatch e) _ σ ρ1 h₁ tk _ _ g R1 (λρ2 σ2 h2 tk2 x2 R2 g2=>?_) (λv ρ2 σ2 h2 tk2 x2 hs R2 g2=>?_) (λ_ _ _ _ _ _ g2=>ff g2) (λe C' c ρ2 σ2 h2 tk2 x2 X2 g2=>ff g2) PassesOwn.leaving
 .obtain⟨p2,t2⟩:=P0 x2
  refine elEA (λm F2 z324=>?_)<|R2.fr;clear z324
  exact hok' .none _ _ h2 tk2 (spP_of (kk:=k) (vv:=.non) p2 trivial R2.toOk g2) t2 (has_sel F2 R2.nw R2.nd sel_fst)
 .obtain⟨p2,t2⟩:=P0 x2
  refine elEA (λm F2 z325=>?_)<|R2.fr;clear z325
  exact hok' _ _ _ h2 tk2 (spP_of (kk:=k) p2 hs R2.toOk g2) t2 (has_sel F2 R2.nw R2.nd sel_fst)
theorem cH_ok(h531:∀D,D<=440->∀vs hp nx ρ k x,takeK vs hp nx k=true->scs ρ.n vs->Ok prog w ρ ⟨hp,[],nx⟩->Spec (KF w) prog w D (.ref 531) (ivs ρ vs) (led w ρ hp) (SpP prog w ρ k) (SpX prog w ρ x))(hF:∀a r,lk fnT a=some r->FnG w false a r):∀n D,FOk prog w D (cH n D):=by
 intro n
 induction n with
 |zero=>intro D b a vs hp nx ρ k x g;exact ff g
 |succ n ih=>
  intro D b a vs hp nx ρ k x g hvs hok
  have g:bi (Nat.beq a 531) (cd (Nat.ble (dD D b) 440) (takeK vs hp nx k)) (oe (lk fnT a) λr=>cd (Nat.ble (dD D b) 880) (zipA r.ps vs λlv=>celK r.cs lv ⟨hp,lv,nx⟩ λcs σ=>vS r.ir ⟨cH n (dD D b+10),dD D b+10,cs,λC c σ=>S.rec (λhp _ nx=>x C c hp nx) σ⟩ σ (fnP k)))=true:=g
  rcases bi_e g with⟨ha,g⟩|⟨-,g⟩
  .obtain⟨hD,g'⟩:=cd_e g
   have:=Nat.eq_of_beq_eq_true ha
   subst this
   exact h531 (dD D b) (Nat.le_of_ble_eq_true hD) vs hp nx ρ k x g' hvs hok
  refine elEA (λr hr g=>?_)<|oe_e (o:=lk fnT a) g
  obtain⟨hD,g⟩:=cd_e g
  obtain⟨hlen,g⟩:=zipA_e g
  exact fn_spec (hF a r hr) (Nat.le_of_ble_eq_true hD) (ih _) hvs hok hlen g
theorem cL_ok{n:Nat}(H:∀D,FOk prog w D (cH n D))(hF:∀a r,lk fnC a=some r->FnG w true a r)(hD:Γ.D=D)(ho:Γ.outer=[]){cs:List (Nat×Nat)}{x:KX}:CallOk Γ ⟨cL n D,D,cs,x⟩:=by
 subst hD
 intro A' b a vs k ρ σ h tk Rr g R hvs hA hh hd hu hq hx
 have g:Option.rec (motive:=λ_=>Bool) (cH n Γ.D b a vs σ.hp σ.nx (λv hp nx=>k v ⟨hp,σ.vs,nx⟩) λC c hp nx=>x C c ⟨hp,σ.vs,nx⟩) (λr=>cd (Nat.ble (dD Γ.D b) 880) (zipA r.ps vs λlv=>celK r.cs lv ⟨σ.hp,lv,σ.nx⟩ λcs s=>vS r.ir ⟨cH n (dD Γ.D b+10),dD Γ.D b+10,cs,λ_ _ _=>false⟩ s (fnP λv hp nx=>k v ⟨hp,σ.vs,nx⟩))) (lk fnC a)=true:=g
 rcases e:lk fnC a with _|r
 .rw[e]at g
  exact callSpec (x:=x) (H Γ.D b a vs σ.hp σ.nx ρ _ _ g hvs R.toOk.bare) R hA hh hd hu hq hx
 .rw[e]at g
  obtain⟨hD,g⟩:=cd_e g
  obtain⟨hlen,g⟩:=zipA_e g
  have S:=fn_specC (hF a r e) (Nat.le_of_ble_eq_true hD) (H _) hvs R.toOk.bare hlen g
  refine elEA (λm0 F cv=>?_)<|R.fr
  rw[ho]at hA
  refine use_cc S hA hh hd hu Γ.lf Γ.kd F R.kn R.tp R.nw R.nd (Γ.rest++Γ.its) sel_fst ?_
  rintro v l' h' tk ⟨B,vv,hp',nx',hv,K,kx,rfl,rfl⟩ F' N' ND'
  have x:Pre ρ (ρ.wc (ρ.c++B)):=wc_pre
  exact hq vv (ρ.wc (ρ.c++B)) ⟨hp',σ.vs,nx'⟩ h' tk (.of x rfl) hv ⟨R.toOk.back x K,R.toGd.up rfl,⟨m0,F',Γ.cx _ _ _ _ _ x R.sv rfl cv⟩,N',ND'⟩ kx
end
end Mine.Q
namespace Mine.Q
theorem fill_QTab2:hd.heap_39=hd.heap_39/\PySem.Challenge.rw_no0258_01=PySem.Challenge.rw_no0258_01:=by k_fill;exact⟨rfl,rfl⟩
theorem fnG_of{w:World}{tr:Bool}{a:Addr}{r:FnRow}{name qual:Str}{params:Arguments}{scope:Scope}{dV kV doc pm cdv ct oc:Value}{an od:Option Addr}{osl:Array (Option Value)}
 (ho:(hd.heap_39 w.params).lookup a=some ⟨oc,od,.func (fnOf name qual params (toS r.ir) scope dV kV doc pm an cdv ct),osl⟩)(hcd:codeIn (hd.heap_39 w.params) cdv qual=true)
 (hb:∀vs s,r.ps.length=vs.length->BindsTo s (fnOf name qual params (toS r.ir) scope dV kV doc pm an cdv ct) ⟨vs,[]⟩ ((r.ps.map nm).zip vs))
 (hck:((r.ps.all λi=>mem i r.cs||scope.names.lookup (nm i)==some .local)&&nodB r.ps&&wfS r.ir scope&&(tr||noTry r.ir)&&scope.names.all (λx=>!(x.2==.cell)||r.cs.any (λc=>x.1==nm c))&&r.cs.all (λc=>scope.names.lookup (nm c)==some .cell)&&Nat.ble r.cs.length 1)=true)(h1:scope.isCoroutine=false)(h2:scope.isGenerator=false)(h3:scope.kind=.function)(hcf:∀n,cellsFrom n scope.names []=r.cs.map λc=>(nm c,n)):FnG w tr a r:=by
 refine aa6 (λk1 k2 k3 k4 k5 k6 k7=>?_) hck
 exact⟨name,qual,params,scope,dV,kV,doc,pm,cdv,ct,oc,an,od,osl,ho,hcd,hb,k1,k2,k3,k4,h1,h2,h3,hcf,λx hx=>by
  have:=List.all_eq_true.mp k5 _ (lookup_mem hx)
  rcases Bool.or_eq_true _ _▸this with q|q
  .exact ff q
  .refine elEA (λc hc e=>?_)<|List.any_eq_true.mp q
   exact⟨c,hc,eq_of_beq e⟩,λc hc=>eq_of_beq (List.all_eq_true.mp k6 c hc),Nat.le_of_ble_eq_true k7⟩
theorem len0{α:Type}{l:List α}(h:0=l.length):l=[]:=List.eq_nil_of_length_eq_zero h.symm
theorem lnS{α:Type}{l:List α}{n:Nat}(h:n+1=l.length):∃a r,l=a::r/\n=r.length:=by
 rcases l with _|⟨a,r⟩
 .exact absurd h (by simp)
 .exact⟨a,r,rfl,Nat.succ.inj h⟩
theorem len1{α:Type}{l:List α}(h:1=l.length):∃v0,l=[v0]:=by
 obtain⟨a,r,rfl,q⟩:=lnS h
 exact⟨a,by rw[len0 q]⟩
theorem len2{α:Type}{l:List α}(h:2=l.length):∃v0 v1,l=[v0,v1]:=by
 obtain⟨a,r,rfl,q⟩:=lnS h
 obtain⟨v1,rfl⟩:=len1 q
 exact⟨a,v1,rfl⟩
theorem len3{α:Type}{l:List α}(h:3=l.length):∃v0 v1 v2,l=[v0,v1,v2]:=by
 obtain⟨a,r,rfl,q⟩:=lnS h
 obtain⟨v1,v2,rfl⟩:=len2 q
 exact⟨a,v1,v2,rfl⟩
theorem len4{α:Type}{l:List α}(h:4=l.length):∃v0 v1 v2 v3,l=[v0,v1,v2,v3]:=by
 obtain⟨a,r,rfl,q⟩:=lnS h
 obtain⟨v1,v2,v3,rfl⟩:=len3 q
 exact⟨a,v1,v2,v3,rfl⟩
theorem len5{α:Type}{l:List α}(h:5=l.length):∃v0 v1 v2 v3 v4,l=[v0,v1,v2,v3,v4]:=by
 obtain⟨a,r,rfl,q⟩:=lnS h
 obtain⟨v1,v2,v3,v4,rfl⟩:=len4 q
 exact⟨a,v1,v2,v3,v4,rfl⟩
section
set_option maxHeartbeats 4000000
variable{w:World}
theorem fn79_ok:FnG w false 79 ir79:=by
 k_dflt (refine' fnG_of ?a ?b ?c ?d ?e ?f ?g ?h;(case a=>k_is);(case b=>k_is);(case c=>intro _ _ h;obtain⟨v0,rfl⟩:=len1 h;exact BindsTo.of_eq rfl);(case d=>decide+kernel);all_goals(intros;exact rfl))
theorem fn97_ok:FnG w false 97 ir97:=by
 k_dflt (refine' fnG_of ?a ?b ?c ?d ?e ?f ?g ?h;(case a=>k_is);(case b=>k_is);(case c=>intro _ _ h;refine elEEEEE (λv0 v1 v2 v3 v4 r326=>?_)<|len5 h;subst r326;exact BindsTo.of_eq rfl);(case d=>decide+kernel);all_goals(intros;exact rfl))
theorem fn118_ok:FnG w false 118 ir118:=by
 k_dflt (refine' fnG_of ?a ?b ?c ?d ?e ?f ?g ?h;(case a=>k_is);(case b=>k_is);(case c=>intro _ _ h;obtain⟨v0,rfl⟩:=len1 h;exact BindsTo.of_eq rfl);(case d=>decide+kernel);all_goals(intros;exact rfl))
theorem fn139_ok:FnG w false 139 ir139:=by
 k_dflt (refine' fnG_of ?a ?b ?c ?d ?e ?f ?g ?h;(case a=>k_is);(case b=>k_is);(case c=>intro _ _ h;refine elEEEE (λv0 v1 v2 v3 r327=>?_)<|len4 h;subst r327;exact BindsTo.of_eq rfl);(case d=>decide+kernel);all_goals(intros;exact rfl))
theorem fn153_ok:FnG w false 153 ir153:=by
 k_dflt (refine' fnG_of ?a ?b ?c ?d ?e ?f ?g ?h;(case a=>k_is);(case b=>k_is);(case c=>intro _ _ h;refine elEEEE (λv0 v1 v2 v3 r328=>?_)<|len4 h;subst r328;exact BindsTo.of_eq rfl);(case d=>decide+kernel);all_goals(intros;exact rfl))
theorem fn160_ok:FnG w false 160 ir160:=by
 k_dflt (refine' fnG_of ?a ?b ?c ?d ?e ?f ?g ?h;(case a=>k_is);(case b=>k_is);(case c=>intro _ _ h;obtain⟨v0,rfl⟩:=len1 h;exact BindsTo.of_eq rfl);(case d=>decide+kernel);all_goals(intros;exact rfl))
theorem fn167_ok:FnG w false 167 ir167:=by
 k_dflt (refine' fnG_of ?a ?b ?c ?d ?e ?f ?g ?h;(case a=>k_is);(case b=>k_is);(case c=>intro _ _ h;obtain⟨v0,rfl⟩:=len1 h;exact BindsTo.of_eq rfl);(case d=>decide+kernel);all_goals(intros;exact rfl))
theorem fn174_ok:FnG w false 174 ir174:=by
 k_dflt (refine' fnG_of ?a ?b ?c ?d ?e ?f ?g ?h;(case a=>k_is);(case b=>k_is);(case c=>intro _ _ h;refine elEE (λv0 v1 r329=>?_)<|len2 h;subst r329;exact BindsTo.of_eq rfl);(case d=>decide+kernel);all_goals(intros;exact rfl))
theorem fn181_ok:FnG w false 181 ir181:=by
 k_dflt (refine' fnG_of ?a ?b ?c ?d ?e ?f ?g ?h;(case a=>k_is);(case b=>k_is);(case c=>intro _ _ h;refine elEE (λv0 v1 r330=>?_)<|len2 h;subst r330;exact BindsTo.of_eq rfl);(case d=>decide+kernel);all_goals(intros;exact rfl))
theorem fn188_ok:FnG w false 188 ir188:=by
 k_dflt (refine' fnG_of ?a ?b ?c ?d ?e ?f ?g ?h;(case a=>k_is);(case b=>k_is);(case c=>intro _ _ h;refine elEEEE (λv0 v1 v2 v3 r331=>?_)<|len4 h;subst r331;exact BindsTo.of_eq rfl);(case d=>decide+kernel);all_goals(intros;exact rfl))
theorem fn195_ok:FnG w false 195 ir195:=by
 k_dflt (refine' fnG_of ?a ?b ?c ?d ?e ?f ?g ?h;(case a=>k_is);(case b=>k_is);(case c=>intro _ _ h;refine elEEEE (λv0 v1 v2 v3 r332=>?_)<|len4 h;subst r332;exact BindsTo.of_eq rfl);(case d=>decide+kernel);all_goals(intros;exact rfl))
theorem fn202_ok:FnG w false 202 ir202:=by
 k_dflt (refine' fnG_of ?a ?b ?c ?d ?e ?f ?g ?h;(case a=>k_is);(case b=>k_is);(case c=>intro _ _ h;refine elEEEE (λv0 v1 v2 v3 r333=>?_)<|len4 h;subst r333;exact BindsTo.of_eq rfl);(case d=>decide+kernel);all_goals(intros;exact rfl))
theorem fn209_ok:FnG w false 209 ir209:=by
 k_dflt (refine' fnG_of ?a ?b ?c ?d ?e ?f ?g ?h;(case a=>k_is);(case b=>k_is);(case c=>intro _ _ h;refine elEE (λv0 v1 r334=>?_)<|len2 h;subst r334;exact BindsTo.of_eq rfl);(case d=>decide+kernel);all_goals(intros;exact rfl))
theorem fn216_ok:FnG w false 216 ir216:=by
 k_dflt (refine' fnG_of ?a ?b ?c ?d ?e ?f ?g ?h;(case a=>k_is);(case b=>k_is);(case c=>intro _ _ h;refine elEE (λv0 v1 r335=>?_)<|len2 h;subst r335;exact BindsTo.of_eq rfl);(case d=>decide+kernel);all_goals(intros;exact rfl))
theorem fn223_ok:FnG w false 223 ir223:=by
 k_dflt (refine' fnG_of ?a ?b ?c ?d ?e ?f ?g ?h;(case a=>k_is);(case b=>k_is);(case c=>intro _ _ h;refine elEE (λv0 v1 r336=>?_)<|len2 h;subst r336;exact BindsTo.of_eq rfl);(case d=>decide+kernel);all_goals(intros;exact rfl))
theorem fn230_ok:FnG w false 230 ir230:=by
 k_dflt (refine' fnG_of ?a ?b ?c ?d ?e ?f ?g ?h;(case a=>k_is);(case b=>k_is);(case c=>intro _ _ h;obtain⟨v0,rfl⟩:=len1 h;exact BindsTo.of_eq rfl);(case d=>decide+kernel);all_goals(intros;exact rfl))
theorem fn237_ok:FnG w false 237 ir237:=by
 k_dflt (refine' fnG_of ?a ?b ?c ?d ?e ?f ?g ?h;(case a=>k_is);(case b=>k_is);(case c=>intro _ _ h;obtain⟨v0,rfl⟩:=len1 h;exact BindsTo.of_eq rfl);(case d=>decide+kernel);all_goals(intros;exact rfl))
theorem fn244_ok:FnG w false 244 ir244:=by
 k_dflt (refine' fnG_of ?a ?b ?c ?d ?e ?f ?g ?h;(case a=>k_is);(case b=>k_is);(case c=>intro _ _ h;refine elEE (λv0 v1 r337=>?_)<|len2 h;subst r337;exact BindsTo.of_eq rfl);(case d=>decide+kernel);all_goals(intros;exact rfl))
theorem fn251_ok:FnG w false 251 ir251:=by
 k_dflt (refine' fnG_of ?a ?b ?c ?d ?e ?f ?g ?h;(case a=>k_is);(case b=>k_is);(case c=>intro _ _ h;obtain⟨v0,rfl⟩:=len1 h;exact BindsTo.of_eq rfl);(case d=>decide+kernel);all_goals(intros;exact rfl))
theorem fn258_ok:FnG w false 258 ir258:=by
 k_dflt (refine' fnG_of ?a ?b ?c ?d ?e ?f ?g ?h;(case a=>k_is);(case b=>k_is);(case c=>intro _ _ h;refine elEE (λv0 v1 r338=>?_)<|len2 h;subst r338;exact BindsTo.of_eq rfl);(case d=>decide+kernel);all_goals(intros;exact rfl))
theorem fn265_ok:FnG w false 265 ir265:=by
 k_dflt (refine' fnG_of ?a ?b ?c ?d ?e ?f ?g ?h;(case a=>k_is);(case b=>k_is);(case c=>intro _ _ h;refine elEEE (λv0 v1 v2 r339=>?_)<|len3 h;subst r339;exact BindsTo.of_eq rfl);(case d=>decide+kernel);all_goals(intros;exact rfl))
theorem fn279_ok:FnG w false 279 ir279:=by
 k_dflt (refine' fnG_of ?a ?b ?c ?d ?e ?f ?g ?h;(case a=>k_is);(case b=>k_is);(case c=>intro _ _ h;refine elEE (λv0 v1 r340=>?_)<|len2 h;subst r340;exact BindsTo.of_eq rfl);(case d=>decide+kernel);all_goals(intros;exact rfl))
theorem fn286_ok:FnG w false 286 ir286:=by
 k_dflt (refine' fnG_of ?a ?b ?c ?d ?e ?f ?g ?h;(case a=>k_is);(case b=>k_is);(case c=>intro _ _ h;obtain⟨v0,rfl⟩:=len1 h;exact BindsTo.of_eq rfl);(case d=>decide+kernel);all_goals(intros;exact rfl))
theorem fn300_ok:FnG w false 300 ir300:=by
 k_dflt (refine' fnG_of ?a ?b ?c ?d ?e ?f ?g ?h;(case a=>k_is);(case b=>k_is);(case c=>intro _ _ h;refine elEEE (λv0 v1 v2 r341=>?_)<|len3 h;subst r341;exact BindsTo.of_eq rfl);(case d=>decide+kernel);all_goals(intros;exact rfl))
theorem fn314_ok:FnG w false 314 ir314:=by
 k_dflt (refine' fnG_of ?a ?b ?c ?d ?e ?f ?g ?h;(case a=>k_is);(case b=>k_is);(case c=>intro _ _ h;refine elEE (λv0 v1 r342=>?_)<|len2 h;subst r342;exact BindsTo.of_eq rfl);(case d=>decide+kernel);all_goals(intros;exact rfl))
theorem fn321_ok:FnG w false 321 ir321:=by
 k_dflt (refine' fnG_of ?a ?b ?c ?d ?e ?f ?g ?h;(case a=>k_is);(case b=>k_is);(case c=>intro _ _ h;obtain⟨v0,rfl⟩:=len1 h;exact BindsTo.of_eq rfl);(case d=>decide+kernel);all_goals(intros;exact rfl))
theorem fn342_ok:FnG w false 342 ir342:=by
 k_dflt (refine' fnG_of ?a ?b ?c ?d ?e ?f ?g ?h;(case a=>k_is);(case b=>k_is);(case c=>intro _ _ h;refine elEEE (λv0 v1 v2 r343=>?_)<|len3 h;subst r343;exact BindsTo.of_eq rfl);(case d=>decide+kernel);all_goals(intros;exact rfl))
theorem fn356_ok:FnG w false 356 ir356:=by
 k_dflt (refine' fnG_of ?a ?b ?c ?d ?e ?f ?g ?h;(case a=>k_is);(case b=>k_is);(case c=>intro _ _ h;obtain⟨v0,rfl⟩:=len1 h;exact BindsTo.of_eq rfl);(case d=>decide+kernel);all_goals(intros;exact rfl))
theorem fn370_ok:FnG w false 370 ir370:=by
 k_dflt (refine' fnG_of ?a ?b ?c ?d ?e ?f ?g ?h;(case a=>k_is);(case b=>k_is);(case c=>intro _ _ h;refine elEE (λv0 v1 r344=>?_)<|len2 h;subst r344;exact BindsTo.of_eq rfl);(case d=>decide+kernel);all_goals(intros;exact rfl))
theorem fn377_ok:FnG w false 377 ir377:=by
 k_dflt (refine' fnG_of ?a ?b ?c ?d ?e ?f ?g ?h;(case a=>k_is);(case b=>k_is);(case c=>intro _ _ h;obtain⟨v0,rfl⟩:=len1 h;exact BindsTo.of_eq rfl);(case d=>decide+kernel);all_goals(intros;exact rfl))
theorem fn398_ok:FnG w false 398 ir398:=by
 k_dflt (refine' fnG_of ?a ?b ?c ?d ?e ?f ?g ?h;(case a=>k_is);(case b=>k_is);(case c=>intro _ _ h;refine elEEE (λv0 v1 v2 r345=>?_)<|len3 h;subst r345;exact BindsTo.of_eq rfl);(case d=>decide+kernel);all_goals(intros;exact rfl))
theorem fn405_ok:FnG w false 405 ir405:=by
 k_dflt (refine' fnG_of ?a ?b ?c ?d ?e ?f ?g ?h;(case a=>k_is);(case b=>k_is);(case c=>intro _ _ h;obtain⟨v0,rfl⟩:=len1 h;exact BindsTo.of_eq rfl);(case d=>decide+kernel);all_goals(intros;exact rfl))
theorem fn419_ok:FnG w false 419 ir419:=by
 k_dflt (refine' fnG_of ?a ?b ?c ?d ?e ?f ?g ?h;(case a=>k_is);(case b=>k_is);(case c=>intro _ _ h;obtain⟨v0,rfl⟩:=len1 h;exact BindsTo.of_eq rfl);(case d=>decide+kernel);all_goals(intros;exact rfl))
theorem fn426_ok:FnG w false 426 ir426:=by
 k_dflt (refine' fnG_of ?a ?b ?c ?d ?e ?f ?g ?h;(case a=>k_is);(case b=>k_is);(case c=>intro _ _ h;refine elEE (λv0 v1 r346=>?_)<|len2 h;subst r346;exact BindsTo.of_eq rfl);(case d=>decide+kernel);all_goals(intros;exact rfl))
theorem fn433_ok:FnG w false 433 ir433:=by
 k_dflt (refine' fnG_of ?a ?b ?c ?d ?e ?f ?g ?h;(case a=>k_is);(case b=>k_is);(case c=>intro _ _ h;refine elEEE (λv0 v1 v2 r347=>?_)<|len3 h;subst r347;exact BindsTo.of_eq rfl);(case d=>decide+kernel);all_goals(intros;exact rfl))
theorem fn440_ok:FnG w false 440 ir440:=by
 k_dflt (refine' fnG_of ?a ?b ?c ?d ?e ?f ?g ?h;(case a=>k_is);(case b=>k_is);(case c=>intro _ _ h;refine elEEE (λv0 v1 v2 r348=>?_)<|len3 h;subst r348;exact BindsTo.of_eq rfl);(case d=>decide+kernel);all_goals(intros;exact rfl))
theorem fn447_ok:FnG w false 447 ir447:=by
 k_dflt (refine' fnG_of ?a ?b ?c ?d ?e ?f ?g ?h;(case a=>k_is);(case b=>k_is);(case c=>intro _ _ h;refine elEE (λv0 v1 r349=>?_)<|len2 h;subst r349;exact BindsTo.of_eq rfl);(case d=>decide+kernel);all_goals(intros;exact rfl))
theorem fn461_ok:FnG w false 461 ir461:=by
 k_dflt (refine' fnG_of ?a ?b ?c ?d ?e ?f ?g ?h;(case a=>k_is);(case b=>k_is);(case c=>intro _ _ h;obtain⟨v0,rfl⟩:=len1 h;exact BindsTo.of_eq rfl);(case d=>decide+kernel);all_goals(intros;exact rfl))
theorem fn468_ok:FnG w false 468 ir468:=by
 k_dflt (refine' fnG_of ?a ?b ?c ?d ?e ?f ?g ?h;(case a=>k_is);(case b=>k_is);(case c=>intro _ _ h;refine elEEE (λv0 v1 v2 r350=>?_)<|len3 h;subst r350;exact BindsTo.of_eq rfl);(case d=>decide+kernel);all_goals(intros;exact rfl))
theorem fn475_ok:FnG w false 475 ir475:=by
 k_dflt (refine' fnG_of ?a ?b ?c ?d ?e ?f ?g ?h;(case a=>k_is);(case b=>k_is);(case c=>intro _ _ h;obtain⟨v0,rfl⟩:=len1 h;exact BindsTo.of_eq rfl);(case d=>decide+kernel);all_goals(intros;exact rfl))
theorem fn496_ok:FnG w false 496 ir496:=by
 k_dflt (refine' fnG_of ?a ?b ?c ?d ?e ?f ?g ?h;(case a=>k_is);(case b=>k_is);(case c=>intro _ _ h;refine elEE (λv0 v1 r351=>?_)<|len2 h;subst r351;exact BindsTo.of_eq rfl);(case d=>decide+kernel);all_goals(intros;exact rfl))
theorem fn503_ok:FnG w false 503 ir503:=by
 k_dflt (refine' fnG_of ?a ?b ?c ?d ?e ?f ?g ?h;(case a=>k_is);(case b=>k_is);(case c=>intro _ _ h;refine elEEE (λv0 v1 v2 r352=>?_)<|len3 h;subst r352;exact BindsTo.of_eq rfl);(case d=>decide+kernel);all_goals(intros;exact rfl))
theorem fn510_ok:FnG w false 510 ir510:=by
 k_dflt (refine' fnG_of ?a ?b ?c ?d ?e ?f ?g ?h;(case a=>k_is);(case b=>k_is);(case c=>intro _ _ h;obtain⟨v0,rfl⟩:=len1 h;exact BindsTo.of_eq rfl);(case d=>decide+kernel);all_goals(intros;exact rfl))
theorem fn524_ok:FnG w false 524 ir524:=by
 k_dflt (refine' fnG_of ?a ?b ?c ?d ?e ?f ?g ?h;(case a=>k_is);(case b=>k_is);(case c=>intro _ _ h;obtain rfl:=len0 h;exact BindsTo.of_eq rfl);(case d=>decide+kernel);all_goals(intros;exact rfl))
theorem fn536_ok:FnG w false 536 ir536:=by
 k_dflt (refine' fnG_of ?a ?b ?c ?d ?e ?f ?g ?h;(case a=>k_is);(case b=>k_is);(case c=>intro _ _ h;refine elEE (λv0 v1 r353=>?_)<|len2 h;subst r353;exact BindsTo.of_eq rfl);(case d=>decide+kernel);all_goals(intros;exact rfl))
theorem fn541_ok:FnG w false 541 ir541:=by
 k_dflt (refine' fnG_of ?a ?b ?c ?d ?e ?f ?g ?h;(case a=>k_is);(case b=>k_is);(case c=>intro _ _ h;obtain⟨v0,rfl⟩:=len1 h;exact BindsTo.of_eq rfl);(case d=>decide+kernel);all_goals(intros;exact rfl))
theorem fn548_ok:FnG w false 548 ir548:=by
 k_dflt (refine' fnG_of ?a ?b ?c ?d ?e ?f ?g ?h;(case a=>k_is);(case b=>k_is);(case c=>intro _ _ h;refine elEEE (λv0 v1 v2 r354=>?_)<|len3 h;subst r354;exact BindsTo.of_eq rfl);(case d=>decide+kernel);all_goals(intros;exact rfl))
theorem fn555_ok:FnG w false 555 ir555:=by
 k_dflt (refine' fnG_of ?a ?b ?c ?d ?e ?f ?g ?h;(case a=>k_is);(case b=>k_is);(case c=>intro _ _ h;refine elEEEEE (λv0 v1 v2 v3 v4 r355=>?_)<|len5 h;subst r355;exact BindsTo.of_eq rfl);(case d=>decide+kernel);all_goals(intros;exact rfl))
theorem fn562_ok:FnG w false 562 ir562:=by
 k_dflt (refine' fnG_of ?a ?b ?c ?d ?e ?f ?g ?h;(case a=>k_is);(case b=>k_is);(case c=>intro _ _ h;refine elEEEEE (λv0 v1 v2 v3 v4 r356=>?_)<|len5 h;subst r356;exact BindsTo.of_eq rfl);(case d=>decide+kernel);all_goals(intros;exact rfl))
theorem fn567_ok:FnG w false 567 ir567:=by
 k_dflt (refine' fnG_of ?a ?b ?c ?d ?e ?f ?g ?h;(case a=>k_is);(case b=>k_is);(case c=>intro _ _ h;refine elEE (λv0 v1 r357=>?_)<|len2 h;subst r357;exact BindsTo.of_eq rfl);(case d=>decide+kernel);all_goals(intros;exact rfl))
theorem fn593_ok:FnG w false 593 ir593:=by
 k_dflt (refine' fnG_of ?a ?b ?c ?d ?e ?f ?g ?h;(case a=>k_is);(case b=>k_is);(case c=>intro _ _ h;refine elEE (λv0 v1 r358=>?_)<|len2 h;subst r358;exact BindsTo.of_eq rfl);(case d=>decide+kernel);all_goals(intros;exact rfl))
theorem fn574_ok:FnG w true 574 ir574:=by
 k_dflt (refine' fnG_of ?a ?b ?c ?d ?e ?f ?g ?h;(case a=>k_is);(case b=>k_is);(case c=>intro _ _ h;refine elEEE (λv0 v1 v2 r359=>?_)<|len3 h;subst r359;exact BindsTo.of_eq rfl);(case d=>decide+kernel);all_goals(intros;exact rfl))
theorem fn581_ok:FnG w true 581 ir581:=by
 k_dflt (refine' fnG_of ?a ?b ?c ?d ?e ?f ?g ?h;(case a=>k_is);(case b=>k_is);(case c=>intro _ _ h;refine elEEE (λv0 v1 v2 r360=>?_)<|len3 h;subst r360;exact BindsTo.of_eq rfl);(case d=>decide+kernel);all_goals(intros;exact rfl))
theorem fn586_ok:FnG w true 586 ir586:=by
 k_dflt (refine' fnG_of ?a ?b ?c ?d ?e ?f ?g ?h;(case a=>k_is);(case b=>k_is);(case c=>intro _ _ h;obtain⟨v0,rfl⟩:=len1 h;exact BindsTo.of_eq rfl);(case d=>decide+kernel);all_goals(intros;exact rfl))
end
theorem fn_all{w:World}:∀p∈fnT,FnG w false p.1 p.2:=by
 unfold fnT
 exact fc fn79_ok<|fc fn97_ok<|fc fn118_ok<|fc fn139_ok<|fc fn153_ok<|fc fn160_ok<|fc fn167_ok<|fc fn174_ok<|fc fn181_ok<|fc fn188_ok<|fc fn195_ok<|fc fn202_ok<|fc fn209_ok<|fc fn216_ok<|fc fn223_ok<|fc fn230_ok<|fc fn237_ok<|fc fn244_ok<|fc fn251_ok<|fc fn258_ok<|fc fn265_ok<|fc fn279_ok<|fc fn286_ok<|fc fn300_ok<|fc fn314_ok<|fc fn321_ok<|fc fn342_ok<|fc fn356_ok<|fc fn370_ok<|fc fn377_ok<|fc fn398_ok<|fc fn405_ok<|fc fn419_ok<|fc fn426_ok<|fc fn433_ok<|fc fn440_ok<|fc fn447_ok<|fc fn461_ok<|fc fn468_ok<|fc fn475_ok<|fc fn496_ok<|fc fn503_ok<|fc fn510_ok<|fc fn524_ok<|fc fn536_ok<|fc fn541_ok<|fc fn548_ok<|fc fn555_ok<|fc fn562_ok<|fc fn567_ok<|fc fn593_ok fz
theorem fn_allC{w:World}:∀p∈fnC,FnG w true p.1 p.2:=by
 unfold fnC
 exact fc fn574_ok<|fc fn581_ok<|fc fn586_ok fz
end Mine.Q
section
namespace Mine
theorem fill_Take:hd.heap_39=hd.heap_39/\PySem.Challenge.rw_no0258_01=PySem.Challenge.rw_no0258_01:=by k_fill;exact⟨rfl,rfl⟩
local macro_rules | `(tactic| walk_at "call builtin:len") => `(tactic| (k_dflt (refine' led_len ?N_5 ?hm_5 ?hv_5 ?_; (case N_5 => k_asm); (case hm_5 => k_mem); (case hv_5 => first | assumption | omega | (simp only [List.length_cons, List.length_nil]; omega) | (simp <;> omega)); k_whole)))
local macro_rules | `(tactic| k_upd) => `(tactic| (refine' Upd.of_nd ?nd_5 ?us_5; (case nd_5 => first | k_asm | (k_dflt assumption) | (refine' nd_pick2 (by assumption) ?s9_5; (case s9_5 => (simp only [ads, List.map_cons, List.map_nil]; (repeat' first | exact SelN.nil | exact SelN.all | (apply SelN.cons; (focus ((repeat' first | exact PickN.head | apply PickN.tail); done))) | refine' SelN.skip ?_ | fail); done)))); (case us_5 => ((repeat' first | exact UpdS.head | refine' UpdS.tail ?_); done))))
theorem led_int{prog:Program}{w:World}{A:Around}{E:Value->Shared->Prop}{s:Shared}{Q:Value->Shared->Prop}{value slice:Expr}{g:Heap}{L:Addr}{news:Lg}{r:Addr}{vs:List Value}{ns:List Int}{k:Int}{u:Tok}{rn:Nat}(N:News g L s.heap news)(hm:(r,listOf vs.toArray rn)∈news)(hi:IntsAre vs ns)(h0:0<=k)(h1:k<vs.length)(hv:vs.length<=1000)(h:∀x t,Q (.int x t) s)
 (hs:subscripted slice false (.ref r) (.int k u)=operate [.ref r,.int k u] (getItem (.ref r) (.int k u)):=by with_unfolding_all rfl)(hg:∀x,letTemporaryGo value (.ref r) x=pure ():=by intro _;with_unfolding_all rfl):
 wpAny (model prog w) A (subscriptTail value slice (.ref r) (.int k u)) Q E s:=
 led_item N hm h0 h1 hv (λv hv=>by
  refine elEEA (λn t r361 _=>?_)<|hi.at _ v hv;subst r361
  exact h n t) hs hg
theorem led_first{prog:Program}{w:World}{A:Around}{E:Value->Shared->Prop}{s:Shared}{Q:Value->Shared->Prop}{value slice:Expr}{v:Value}{g:Heap}{L:Addr}{news:Lg}{r:Addr}{vs:List Value}{rn:Nat}{u:Tok}(N:News g L s.heap news)(hm:(r,listOf (v::vs).toArray rn)∈news)(hv:vs.length<=900)(h:Q v s)
 (hs:subscripted slice false (.ref r) (.int 0 u)=operate [.ref r,.int 0 u] (getItem (.ref r) (.int 0 u)):=by with_unfolding_all rfl)(hg:∀x,letTemporaryGo value (.ref r) x=pure ():=by intro _;with_unfolding_all rfl):
 wpAny (model prog w) A (subscriptTail value slice (.ref r) (.int 0 u)) Q E s:=
 led_item N hm (Int.le_refl 0) (by simp) (by simp;omega) (λv' h'=>by
  have e:v'=v:=(Option.some.inj h').symm
  rw[e];exact h) hs hg
local macro_rules | `(tactic| walk_at "subscriptTail Name Subscript ref int") => `(tactic| ((with_reducible show wpAny _ _ (subscriptTail _ _ (Value.ref _) (Value.int _ _)) _ _ _); k_dflt (refine' led_int ?N ?hm ?hi ?h0 ?h1 ?hv ?_; (case N => k_asm); (case hm => k_mem); (case hi => assumption); (case h0 => omega); (case h1 => omega); (case hv => omega); k_whole); intro x9 t9))
local macro_rules | `(tactic| walk_at "subscriptTail Name Constant ref int") => `(tactic| ((with_reducible show wpAny _ _ (subscriptTail _ _ (Value.ref _) (Value.int 0 _)) _ _ _); k_dflt (refine' led_first ?N ?hm ?hv ?_; (case N => k_asm); (case hm => k_mem); (case hv => first | exact Nat.zero_le _ | omega); k_whole)))
set_option maxHeartbeats 4000000 in
theorem law_take{prog:Program}{w:World}(sc sp:Addr)(vs:List Value)(ns:List Int)(vn sn:Nat)(i:Int)(ti:Tok)(k:Int)(tk0:Tok)(hi:IntsAre vs ns)(i0:0<=i)(hv:vs.length<=60)(k0:1<=k)(k1:k<=9):
 Spec (hd.heap_39 w.params) prog w 440 (.ref 531) [.ref sc,.ref sp,.int k tk0] ((sc,listOf vs.toArray vn)::[(sp,listOf [.int i ti].toArray sn)])
  (λv l'=>∃c tc t' sn',v=.int c tc/\0<=c/\c<k/\l'=((sc,listOf vs.toArray vn)::[(sp,listOf [.int (i+1) t'].toArray sn')])) (λ_ _ _=>False):=by
 intro g outer pg loose mean mg mb s R B X T H hok hex
 k_dflt (refine' enter (binds:=[("script",.ref sc),("spot",.ref sp),("limit",.int k tk0)]) B X T H ?ho_3 ?hcd_3 ?hroom_3 ?hbind_3 ?hloc_3 ?_ ?c2_3 ?c3_3 ?c4_3 ?c5_3;(case ho_3=>k_is);(case hcd_3=>k_is);(case hroom_3=>decide);(case hbind_3=>exact BindsTo.of_eq rfl);(case c5_3=>decide);(case hloc_3=>exact locs rfl);(case c2_3=>exact rfl);(case c3_3=>exact rfl);(case c4_3=>exact rfl);k_whole)
 intro L h₁ F N ND lt
 clear H
 k_lt lt
 try dsimp only
 repeat'(first|(k_unfold;(try dsimp only))|((fail_if_success (with_reducible show wpAny _ _ (PySem.call (Value.ref _) _) _ _ _));walk1)|(dsimp only;(fail_if_success (with_reducible show wpAny _ _ (PySem.call (Value.ref _) _) _ _ _));walk1)|(leave1;(try dsimp only))|dsimp only)
 .refine' hok _ _ _ _ ?hP9_1 (has_end ?hF9_1 ?hN9_1 ?hD9_1 (λ_ h=>h))
  (case hF9_1=>k_asm);(case hN9_1=>k_asm);(case hD9_1=>first|k_asm|(k_dflt assumption)|(refine' nd_pick2 (by assumption) ?s9_1;(case s9_1=>(simp only[ads,List.map_cons,List.map_nil];(repeat' first|exact SelN.nil|exact SelN.all|(apply SelN.cons;(focus ((repeat' first|exact PickN.head|apply PickN.tail);done)))|refine' SelN.skip ?_|fail);done))))
  exact⟨_,_,_,_,rfl,Int.fmod_nonneg_of_pos _ (by omega),Int.fmod_lt_of_pos _ (by omega),rfl⟩
 .refine' hok _ _ _ _ ?hP9_2 (has_end ?hF9_2 ?hN9_2 ?hD9_2 (λ_ h=>h))
  (case hF9_2=>k_asm);(case hN9_2=>k_asm);(case hD9_2=>first|k_asm|(k_dflt assumption)|(refine' nd_pick2 (by assumption) ?s9_2;(case s9_2=>(simp only[ads,List.map_cons,List.map_nil];(repeat' first|exact SelN.nil|exact SelN.all|(apply SelN.cons;(focus ((repeat' first|exact PickN.head|apply PickN.tail);done)))|refine' SelN.skip ?_|fail);done))))
  exact⟨_,_,_,_,rfl,Int.fmod_nonneg_of_pos _ (by omega),Int.fmod_lt_of_pos _ (by omega),rfl⟩
end Mine
end
namespace Mine.Q
section
variable{prog:Program}{w:World}{ρ:Rho}{h:Heap}{σ:S}{tk:Nat}{D:Nat}{a:Nat}{vs:List V}{hp:Hp}{nx n m:Nat}{o o2:O}{k:V->Hp->Nat->Bool}
theorem spec_mono{D D':Nat}{f:Value}{us:List Value}{l:Lg}{P:Value->Lg->Prop}{X:Addr->Int->Lg->Prop}(h:D<=D')(S:Spec (KF w) prog w D' f us l P X):Spec (KF w) prog w D f us l P X:=
 λg outer p loose mean mg mb s R B XK T H hok hex=>code_weaken (S g outer p loose mean mg mb s R (below_e0 B rfl) XK T H hok hex) rfl h (Nat.mul_le_mul_left 10 h) rfl
theorem spec_perm{D:Nat}{f:Value}{us:List Value}{l l2:Lg}{P:Value->Lg->Prop}{X:Addr->Int->Lg->Prop}(h:List.Perm l l2)(S:Spec (KF w) prog w D f us l P X):Spec (KF w) prog w D f us l2 P X:=
 λg outer p loose mean mg mb s R B XK T H hok hex=>S g outer p loose mean mg mb s R B XK T (H.perm h.symm) hok hex
theorem take_all{kk:Nat->Bool}:∀{l:Nat},(Nat.rec (motive:=λ_=>Bool) true (λd ih=>bi (kk d) ih false) l)=true->∀d,d<l->kk d=true
 |0,_,d,h=>absurd h (Nat.not_lt_zero d)
 |l+1,g,d,h=>by
  obtain⟨g1,g2⟩:=bi_t (b:=kk l) g
  rcases Nat.lt_succ_iff_lt_or_eq.mp h with h|rfl
  .exact take_all g2 d h
  .exact g1
theorem take_e(g:takeK vs hp nx k=true):∃sn pn lim t o1 o2 b A o₀ B,vs=[.ref sn,.ref pn,.int [] (lim:Nat) t]/\lk hp sn=some (.scr o1)/\lk hp pn=some (.spt o2 b)/\1<=lim/\lim<=9/\hp=A++(pn,o₀)::B/\lk hp pn=some o₀/\
 (Nat.rec (motive:=λ_=>Bool) true (λd ih=>bi (k (.int [] (Int.ofNat d) nx) (A++(pn,.spt (Nat.succ nx) b)::B) (Nat.succ (Nat.succ nx))) ih false) lim)=true:=by
 rcases vs with _|⟨s,_|⟨p,_|⟨l,_|⟨_,_⟩⟩⟩⟩<;>first|exact ff g|skip
 replace g:=ref_e (v:=s) g
 refine elEA (λsn r363 g364=>?_) g;revert g364;clear g;intro g;subst r363
 replace g:=ref_e (v:=p) g
 refine elEA (λpn r365 g366=>?_) g;revert g366;clear g;intro g;subst r365
 replace g:=lit_e (v:=l) g
 refine elEEA (λlim t r367 g368=>?_) g;revert g368;clear g;intro g;subst r367
 replace g:=oe_e (o:=lk hp sn) g
 refine elEA (λos hs g369=>?_) g;revert g369;clear g;intro g
 replace g:=oe_e (o:=lk hp pn) g
 refine elEA (λop hp' g370=>?_) g;revert g370;clear g;intro g
 cases os<;>first|exact ff g|skip
 cases op<;>first|exact ff g|skip
 rename_i o1 o2 b
 replace g:=cd_e g
 obtain⟨l1,g⟩:=g
 replace g:=cd_e g
 obtain⟨l9,g⟩:=g
 replace g:=hset_e g
 refine elEEEAA (λA o₀ B e hl g371=>?_) g;revert g371;clear g;intro g
 exact⟨sn,pn,lim,t,o1,o2,b,A,o₀,B,rfl,hs,hp',Nat.le_of_ble_eq_true l1,Nat.le_of_ble_eq_true l9,e,hl,g⟩
theorem take_ok(hD:D<=440){x:Nat->Int->Hp->Nat->Bool}(g:takeK vs hp nx k=true)(hvs:scs ρ.n vs)(K:Ok prog w ρ ⟨hp,[],nx⟩):Spec (KF w) prog w D (.ref 531) (ivs ρ vs) (led w ρ hp) (SpP prog w ρ k) (SpX prog w ρ x):=by
 refine elEEEEEEE (λsn pn lim t o1 o2 b q374=>?_)<|take_e g;refine elEEE (λA o₀ B q375=>?_) q374;clear q374;refine elAAAAAAA (λr372 hs hp' l1 l9 r373 hl g2=>?_) q375;clear q375;subst r372;subst r373
 have hs':=K.ok _ (lk_mem hs)
 have hp2:=K.ok _ (lk_mem hp')
 refine elEEEAA (λus ns vn e1 hi hv=>?_) hs';clear hs'
 refine elEEEA (λi ti n0 e2 i0=>?_) hp2;clear hp2
 have key:=law_take (prog:=prog) (w:=w) (ρ.num sn) (ρ.num pn) us ns vn n0 i ti lim (ρ.num t) hi i0 hv (by omega) (by omega)
 have ne:sn≠pn:=λe=>by rw[e,hp']at hs;cases hs
 obtain⟨hpn,hpo⟩:=K.so (pn,o₀) (List.mem_append_right _ (.head _))
 have eo:o₀=.spt o2 b:=Option.some.inj (hl.symm.trans hp')
 subst eo
 have iol:∀{hp:Hp},led w ρ hp=hp.map λp=>(ρ.num p.1,io w ρ p.2):=rfl
 have hm:(sn,O.scr o1)∈A++B:=by
  rcases List.mem_append.mp (lk_mem hs)with h|h
  .exact List.mem_append_left _ h
  .rcases List.mem_cons.mp h with e|h
   .cases e
   .exact List.mem_append_right _ h
 refine elEE (λA' B' hAB=>?_)<|List.append_of_mem hm
 have esc:(ρ.num sn,io w ρ (.scr o1))=(ρ.num sn,listOf us.toArray vn):=by rw[←e1];rfl
 have esp:(ρ.num pn,io w ρ (.spt o2 b))=(ρ.num pn,listOf #[.int i ti] n0):=by rw[←e2];rfl
 have p1:List.Perm (led w ρ A++led w ρ B) ((ρ.num sn,listOf us.toArray vn)::(led w ρ A'++led w ρ B')):=by
  rw[←esc]
  have:List.Perm (A++B) ((sn,.scr o1)::(A'++B')):=by rw[hAB];exact List.perm_middle
  have:=this.map λp=>(ρ.num p.1,io w ρ p.2)
  simpa[led]using this
 have p2:∀q,List.Perm (led w ρ A++q::led w ρ B) (((ρ.num sn,listOf us.toArray vn)::[q])++(led w ρ A'++led w ρ B')):=λq=>
  List.perm_middle.trans ((p1.cons q).trans (List.Perm.swap ..))
 have elp:led w ρ (A++(pn,.spt o2 b)::B)=led w ρ A++(ρ.num pn,listOf #[.int i ti] n0)::led w ρ B:=by
  rw[←esp];simp[led]
 rw[elp,show ivs ρ [.ref sn,.ref pn,.int [] (lim:Int) t]=[.ref (ρ.num sn),.ref (ρ.num pn),.int lim (ρ.num t)]by show[_,_,iv ρ (.int [] _ _)]=_;rw[iv_lit];rfl]
 refine spec_perm (p2 _).symm (spec_mono hD (((key.frame (sel_fst (r:=led w ρ A'++led w ρ B'))).post (P':=SpP prog w ρ k) λv l'' h=>?_).exc λ_ _ _ h=>h.elim))
 obtain⟨l',⟨c,tc,t',sn',rfl,c0,c1,rfl⟩,rfl⟩:=h
 obtain⟨d,rfl⟩:=Int.eq_ofNat_of_zero_le c0
 have gd:=take_all (kk:=λd=>k (.int [] (Int.ofNat d) nx) (A++(pn,.spt (Nat.succ nx) b)::B) (Nat.succ (Nat.succ nx))) g2 d (Int.ofNat_lt.mp c1)
 have hn:ρ.n=nx:=K.ln
 subst hn
 let ob:=listOf #[.int (i+1) t'] sn'
 let ρ':=(ρ.push tc default).push 0 ob
 have P:Pre ρ ρ':=push_pre.trans push_pre
 have n1:(ρ.push tc default).n=ρ.n+1:=push_n
 have n2:ρ'.n=ρ.n+2:=by show((ρ.push tc default).push 0 ob).n=_;rw[push_n,n1]
 have K':=Ok.up P K
 have eA:∀{A:Hp},(∀p∈A,p.1<ρ.n/\p.2.sc ρ.n)->led w ρ' A=led w ρ A:=λh=>P.led h
 have sA:∀p∈A,p.1<ρ.n/\p.2.sc ρ.n:=λp hp=>K.so p (List.mem_append_left _ hp)
 have sB:∀p∈B,p.1<ρ.n/\p.2.sc ρ.n:=λp hp=>K.so p (List.mem_append_right _ (.tail _ hp))
 have oo:ρ'.obj (Nat.succ ρ.n)=ob:=by rw[show Nat.succ ρ.n=(ρ.push tc default).n from n1.symm];exact push_obj
 have ol:led w ρ' (A++(pn,.spt (Nat.succ ρ.n) b)::B)=led w ρ A++(ρ.num pn,ob)::led w ρ B:=by
  rw[←eA sA,←eA sB,←P.num hpn,←oo];simp[led,io]
 have KO:Ok prog w ρ' ⟨A++(pn,.spt (Nat.succ ρ.n) b)::B,[],Nat.succ (Nat.succ ρ.n)⟩:=by
  refine⟨n2,λp hp=>?_,λp hp=>?_,(λ_ h=>nomatch h),K'.hx,K'.ll,K'.lh,K'.dd⟩
  .rcases List.mem_append.mp hp with hp|hp
   .exact K'.ok p (List.mem_append_left _ hp)
   rcases List.mem_cons.mp hp with rfl|hp
   .exact mkEEEA (i+1) t' sn' oo (by omega)
   .exact K'.ok p (List.mem_append_right _ (.tail _ hp))
  .rcases List.mem_append.mp hp with hp|hp
   .exact K'.so p (List.mem_append_left _ hp)
   rcases List.mem_cons.mp hp with rfl|hp
   .exact⟨Nat.lt_of_lt_of_le hpn P.le,by show Nat.succ ρ.n<_;omega⟩
   .exact K'.so p (List.mem_append_right _ (.tail _ hp))
 have et:ρ'.num ρ.n=tc:=(push_pre.num (by rw[n1];omega)).trans push_num
 refine⟨_,⟨[(tc,default),(0,ob)],.int [] (Int.ofNat d) ρ.n,_,_,?_,?_,gd,?_,rfl⟩,?_⟩
 .show ρ.n<(ρ.c++[(tc,default),(0,ob)]).length
  rw[List.length_append];exact Nat.lt_add_of_pos_right (Nat.succ_pos _)
 .have e:ρ.wc (ρ.c++[(tc,default),(0,ob)])=ρ':=by show Rho.mk ..=Rho.mk ..;congr 1;show _=(ρ.c++[_])++[_];rw[List.append_assoc];rfl
  rw[e];exact KO
 .have e:ρ.wc (ρ.c++[(tc,default),(0,ob)])=ρ':=by show Rho.mk ..=Rho.mk ..;congr 1;show _=(ρ.c++[_])++[_];rw[List.append_assoc];rfl
  rw[e,iv_lit,et];rfl
 .have e:ρ.wc (ρ.c++[(tc,default),(0,ob)])=ρ':=by show Rho.mk ..=Rho.mk ..;congr 1;show _=(ρ.c++[_])++[_];rw[List.append_assoc];rfl
  rw[e,ol]
  exact(p2 _).symm
theorem cH_all(n D:Nat):FOk prog w D (cH n D):=cH_ok (λD hD vs hp nx ρ k x g hvs K=>take_ok hD g hvs K) (λa r h=>fn_all _ (lk_mem h)) n D
end
end Mine.Q
namespace Mine.Q
noncomputable def oeL(o:Option V)(i:Nat)(l:List (Nat×V)):List (Nat×V):=Option.rec l (λv=>(i,v)::l) o
structure Mp where
 om:List (Nat×Nat)
 xs:List (Nat×V)
 ls:List (Nat×List Sg)
 ds:List (Nat×Option Nat×List (Nat×V×V))
 ts:List (Nat×Nat)
abbrev Ac:=List (Nat×Nat)
noncomputable def fo(M:Mp)(n:Nat):Nat:=Option.rec n (λx=>x) (lk M.om n)
noncomputable def evn(n:Nat):Bool:=Nat.beq (Nat.mod n (nat_lit 2)) (nat_lit 0)
noncomputable def odd(n:Nat):Bool:=Nat.beq (Nat.mod n (nat_lit 2)) (nat_lit 1)
noncomputable def tkc(t u:Nat)(acc:Ac)(k:Ac->Bool):Bool:=cd (odd t) (k ((t,u)::acc))
noncomputable def rfc(M:Mp)(n m:Nat)(p:Bool):Bool:=cd (evn n) (cd (Nat.beq (fo M n) m) p)
noncomputable def expI(M:Mp)(as:List Nat)(k:List Nat->Nat->Bool):Bool:=List.rec (motive:=λ_=>(List Nat->Nat->Bool)->Bool) (λk=>k [] (nat_lit 0)) (λi _ ih k=>Option.rec (ih λr c=>k (i::r) c) (λss=>lenS ss λbs d=>ih λr c=>k (app bs r) (Nat.add d c)) (lk M.ls i)) as k
noncomputable def mV(M:Mp)(c a:V)(acc:Ac)(k:Ac->Bool):Bool:=(V.rec (motive:=λ_=>Bool) ((V.rec (motive:=λ_=>Bool) (k acc) (λ_=>false) (λ_ _ _=>false) (λ_ _=>false) (λ_=>false) (λ_=>false) (λ_ _=>false) (λ_=>false) a)) (λx=>(V.rec (motive:=λ_=>Bool) (false) (λy=>cd (bi x y (bi y false true)) (k acc)) (λ_ _ _=>false) (λ_ _=>false) (λ_=>false) (λ_=>false) (λ_ _=>false) (λ_=>false) a)) (λas c t=>(V.rec (motive:=λ_=>Bool) (false) (λ_=>false) (λbs d u=>expI M as λas' c'=>cd (eqN as' bs) (cd (eqZ (Int.add c (Int.ofNat c')) d) (tkc t u acc k))) (λ_ _=>false) (λ_=>false) (λ_=>false) (λ_ _=>false) (λ_=>false) a)) (λi t=>(V.rec (motive:=λ_=>Bool) (false) (λ_=>false) (λ_ _ _=>false) (λj u=>cd (Nat.beq i j) (tkc t u acc k)) (λ_=>false) (λ_=>false) (λ_ _=>false) (λ_=>false) a)) (λn=>(V.rec (motive:=λ_=>Bool) (false) (λ_=>false) (λ_ _ _=>false) (λ_ _=>false) (λm=>rfc M n m (k acc)) (λ_=>false) (λ_ _=>false) (λ_=>false) a)) (λi=>Option.rec (V.rec (motive:=λ_=>Bool) (false) (λ_=>false) (λ_ _ _=>false) (λ_ _=>false) (λ_=>false) (λj=>cd (Nat.beq i j) (k acc)) (λ_ _=>false) (λ_=>false) a) (λu=>cd (sameV u a) (k acc)) (lk M.xs i)) (λi t=>(V.rec (motive:=λ_=>Bool) (false) (λ_=>false) (λ_ _ _=>false) (λj u=>oe (lk M.ts i) λx=>cd (Nat.beq x j) (tkc t u acc k)) (λ_=>false) (λ_=>false) (λj u=>cd (Nat.beq i j) (Option.rec (tkc t u acc k) (λ_=>false) (lk M.ts i))) (λ_=>false) a)) (λn=>(V.rec (motive:=λ_=>Bool) (false) (λ_=>false) (λ_ _ _=>false) (λ_ _=>false) (λ_=>false) (λ_=>false) (λ_ _=>false) (λm=>cd (Nat.beq n m) (k acc)) a)) c)
noncomputable def sameG(x y:Sg):Bool:=(Sg.rec (motive:=λ_=>Bool) (λv=>(Sg.rec (motive:=λ_=>Bool) (λw=>sameV v w) (λ_=>false) y)) (λi=>(Sg.rec (motive:=λ_=>Bool) (λ_=>false) (λj=>Nat.beq i j) y)) x)
noncomputable def strip(ss as:List Sg)(k:List Sg->Bool):Bool:=List.rec (motive:=λ_=>List Sg->Bool) (λas=>k as) (λx _ ih as=>List.rec false (λy r _=>cd (sameG x y) (ih r)) as) ss as
noncomputable def mS(M:Mp)(cs as:List Sg)(acc:Ac)(k:Ac->Bool):Bool:=List.rec (motive:=λ_=>List Sg->Ac->Bool) (λas acc=>List.rec (k acc) (λ_ _ _=>false) as) (λs _ ih as acc=>(Sg.rec (motive:=λ_=>Bool) (λv=>List.rec false (λy r _=>(Sg.rec (motive:=λ_=>Bool) (λu=>mV M v u acc λacc=>ih r acc) (λ_=>false) y)) as) (λi=>Option.rec (List.rec false (λy r _=>(Sg.rec (motive:=λ_=>Bool) (λ_=>false) (λj=>cd (Nat.beq i j) (ih r acc)) y)) as) (λss=>strip ss as λr=>ih r acc) (lk M.ls i)) s)) cs as acc
noncomputable def mVs(M:Mp)(cs as:List V)(acc:Ac)(k:Ac->Bool):Bool:=List.rec (motive:=λ_=>List V->Ac->Bool) (λas acc=>List.rec (k acc) (λ_ _ _=>false) as) (λv _ ih as acc=>List.rec false (λu r _=>mV M v u acc λacc=>ih r acc) as) cs as acc
noncomputable def mE(M:Mp)(cs as:List (Nat×Nat×V))(acc:Ac)(k:Ac->Bool):Bool:=List.rec (motive:=λ_=>List (Nat×Nat×V)->Ac->Bool) (λas acc=>List.rec (k acc) (λ_ _ _=>false) as) (λe _ ih as acc=>List.rec false (λu r _=>cd (Nat.beq e.1 u.1) (tkc e.2.1 u.2.1 acc λacc=>mV M e.2.2 u.2.2 acc λacc=>ih r acc)) as) cs as acc
noncomputable def mK(M:Mp)(cs as:List (Nat×V))(acc:Ac)(k:Ac->Bool):Bool:=List.rec (motive:=λ_=>List (Nat×V)->Ac->Bool) (λas acc=>List.rec (k acc) (λ_ _ _=>false) as) (λe _ ih as acc=>List.rec false (λu r _=>cd (Nat.beq e.1 u.1) (mV M e.2 u.2 acc λacc=>ih r acc)) as) cs as acc
noncomputable def mOp(M:Mp)(c a:Option V)(acc:Ac)(k:Ac->Bool):Bool:=Option.rec (Option.rec (k acc) (λ_=>false) a) (λv=>oe a λu=>mV M v u acc k) c
noncomputable def mN(M:Mp)(cs:List (Nat×Option V))(f:Nat->(Option V->Bool)->Bool)(acc:Ac)(k:Ac->Bool):Bool:=List.rec (motive:=λ_=>Ac->Bool) (λacc=>k acc) (λe _ ih acc=>f e.1 λx=>mOp M e.2 x acc λacc=>ih acc) cs acc
noncomputable def opsB(sd:Bool)(ps:List (Nat×V×V))(ops:List (Nat×V)):Bool:=List.rec (motive:=λ_=>List (Nat×V)->Bool) (λops=>List.rec true (λ_ _ _=>false) ops) (λp _ ih ops=>List.rec false (λo r _=>cd (Nat.beq p.1 o.1) (cd (sameV (bi sd p.2.1 p.2.2) o.2) (ih r))) ops) ps ops
noncomputable def eqB(x y:Bool):Bool:=bi x y (bi y false true)
noncomputable def mT(M:Mp)(b:Nat)(sd:Bool)(b2:Option Nat)(sd2:Bool)(ops:List (Nat×V))(p:Bool):Bool:=cd (eqB sd sd2) (Option.rec (Option.rec false (λb2=>cd (Nat.beq b b2) (nilB ops p)) b2) (λx=>cd (Option.rec (Option.rec true (λ_=>false) b2) (λb0=>Option.rec false (λb2=>Nat.beq b0 b2) b2) x.1) (cd (opsB sd x.2 ops) p)) (lk M.ds b))
noncomputable def mO(M:Mp)(c a:O)(acc:Ac)(k:Ac->Bool):Bool:=(O.rec (motive:=λ_=>Bool) (λcs n=>(O.rec (motive:=λ_=>Bool) (λas m=>mS M cs as acc λacc=>tkc n m acc k) (λ_ _=>false) (λ_ _=>false) (λ_ _=>false) (λ_ _=>false) (λ_ _=>false) (λ_ _=>false) (λ_ _ _ _ _=>false) (λ_=>false) (λ_ _=>false) (λ_ _=>false) (λ_ _=>false) (λ_ _ _=>false) a)) (λcs n=>(O.rec (motive:=λ_=>Bool) (λ_ _=>false) (λas m=>mVs M cs as acc λacc=>tkc n m acc k) (λ_ _=>false) (λ_ _=>false) (λ_ _=>false) (λ_ _=>false) (λ_ _=>false) (λ_ _ _ _ _=>false) (λ_=>false) (λ_ _=>false) (λ_ _=>false) (λ_ _=>false) (λ_ _ _=>false) a)) (λC d=>(O.rec (motive:=λ_=>Bool) (λ_ _=>false) (λ_ _=>false) (λC2 d2=>cd (Nat.beq C C2) (rfc M d d2 (k acc))) (λ_ _=>false) (λ_ _=>false) (λ_ _=>false) (λ_ _=>false) (λ_ _ _ _ _=>false) (λ_=>false) (λ_ _=>false) (λ_ _=>false) (λ_ _=>false) (λ_ _ _=>false) a)) (λes n=>(O.rec (motive:=λ_=>Bool) (λ_ _=>false) (λ_ _=>false) (λ_ _=>false) (λes2 m=>mE M es es2 acc λacc=>tkc n m acc k) (λ_ _=>false) (λ_ _=>false) (λ_ _=>false) (λ_ _ _ _ _=>false) (λ_=>false) (λ_ _=>false) (λ_ _=>false) (λ_ _=>false) (λ_ _ _=>false) a)) (λo kvs=>(O.rec (motive:=λ_=>Bool) (λ_ _=>false) (λ_ _=>false) (λ_ _=>false) (λ_ _=>false) (λo2 kvs2=>mK M kvs kvs2 acc λacc=>tkc o o2 acc k) (λ_ _=>false) (λ_ _=>false) (λ_ _ _ _ _=>false) (λ_=>false) (λ_ _=>false) (λ_ _=>false) (λ_ _=>false) (λ_ _ _=>false) a)) (λo kvs=>(O.rec (motive:=λ_=>Bool) (λ_ _=>false) (λ_ _=>false) (λ_ _=>false) (λ_ _=>false) (λ_ _=>false) (λo2 kvs2=>mK M kvs kvs2 acc λacc=>tkc o o2 acc k) (λ_ _=>false) (λ_ _ _ _ _=>false) (λ_=>false) (λ_ _=>false) (λ_ _=>false) (λ_ _=>false) (λ_ _ _=>false) a)) (λo kn=>(O.rec (motive:=λ_=>Bool) (λ_ _=>false) (λ_ _=>false) (λ_ _=>false) (λ_ _=>false) (λ_ _=>false) (λo2 kvs2=>mN M kn (λj h=>h (lk kvs2 j)) acc λacc=>tkc o o2 acc k) (λo2 kn2=>mN M kn (λj h=>oe (lk kn2 j) h) acc λacc=>tkc o o2 acc k) (λ_ _ _ _ _=>false) (λ_=>false) (λ_ _=>false) (λ_ _=>false) (λ_ _=>false) (λ_ _ _=>false) a)) (λo b sd ops kn=>nilB ops (nilB kn (O.rec (motive:=λ_=>Bool) (λ_ _=>false) (λ_ _=>false) (λ_ _=>false) (λ_ _=>false) (λ_ _=>false) (λo2 kvs2=>nilB kvs2 (mT M b sd none sd [] (tkc o o2 acc k))) (λ_ _=>false) (λo2 b2 sd2 ops2 _=>mT M b sd (some b2) sd2 ops2 (tkc o o2 acc k)) (λ_=>false) (λ_ _=>false) (λ_ _=>false) (λ_ _=>false) (λ_ _ _=>false) a))) (λo=>(O.rec (motive:=λ_=>Bool) (λ_ _=>false) (λ_ _=>false) (λ_ _=>false) (λ_ _=>false) (λ_ _=>false) (λ_ _=>false) (λ_ _=>false) (λ_ _ _ _ _=>false) (λo2=>tkc o o2 acc k) (λ_ _=>false) (λ_ _=>false) (λ_ _=>false) (λ_ _ _=>false) a)) (λo _=>(O.rec (motive:=λ_=>Bool) (λ_ _=>false) (λ_ _=>false) (λ_ _=>false) (λ_ _=>false) (λ_ _=>false) (λ_ _=>false) (λ_ _=>false) (λ_ _ _ _ _=>false) (λ_=>false) (λo2 _=>tkc o o2 acc k) (λ_ _=>false) (λ_ _=>false) (λ_ _ _=>false) a)) (λo x=>(O.rec (motive:=λ_=>Bool) (λ_ _=>false) (λ_ _=>false) (λ_ _=>false) (λ_ _=>false) (λ_ _=>false) (λ_ _=>false) (λ_ _=>false) (λ_ _ _ _ _=>false) (λ_=>false) (λ_ _=>false) (λo2 x2=>mOp M x x2 acc λacc=>tkc o o2 acc k) (λ_ _=>false) (λ_ _ _=>false) a)) (λ_ _=>false) (λ_ _ _=>false) c)
noncomputable def mH(M:Mp)(cs as:Hp)(acc:Ac)(k:Ac->Bool):Bool:=List.rec (motive:=λ_=>Ac->Bool) (λacc=>k acc) (λp _ ih acc=>cd (evn p.1) (oe (lk as (fo M p.1)) λo=>mO M p.2 o acc λacc=>ih acc)) cs acc
noncomputable def alkB(v u:V):Bool:=bi (sameV v u) true (V.rec (motive:=λ_=>Bool) (false) (λ_=>false) (λ_ _ _=>false) (λi _=>(V.rec (motive:=λ_=>Bool) (false) (λ_=>false) (λ_ _ _=>false) (λj _=>Nat.beq i j) (λ_=>false) (λ_=>false) (λ_ _=>false) (λ_=>false) u)) (λ_=>false) (λ_=>false) (λi _=>(V.rec (motive:=λ_=>Bool) (false) (λ_=>false) (λ_ _ _=>false) (λ_ _=>false) (λ_=>false) (λ_=>false) (λj _=>Nat.beq i j) (λ_=>false) u)) (λ_=>false) v)
noncomputable def alkP(ps:List (Nat×V×V)):Bool:=List.rec true (λp _ ih=>cd (alkB p.2.1 p.2.2) ih) ps
noncomputable def alkM(ds:List (Nat×Option Nat×List (Nat×V×V))):Bool:=List.rec true (λd _ ih=>cd (alkP d.2.2) ih) ds
noncomputable def genB(M:Mp)(c σ:S):Bool:=mK M c.vs (List.rec [] (λp _ ih=>oeL (lk σ.vs p.1) p.1 ih) c.vs) [] λacc=>mH M c.hp σ.hp acc λ_=>cd (nodB (List.rec [] (λp _ ih=>fo M p.1::ih) c.hp)) (alkM M.ds)
noncomputable def tkV(v:V):List Nat:=(V.rec (motive:=λ_=>List Nat) ([]) (λ_=>[]) (λ_ _ t=>[t]) (λ_ t=>[t]) (λ_=>[]) (λ_=>[]) (λ_ t=>[t]) (λ_=>[]) v)
noncomputable def tkVs(vs:List V):List Nat:=List.rec [] (λv _ ih=>app ih (tkV v)) vs
noncomputable def tkS(ss:List Sg):List Nat:=List.rec [] (λs _ ih=>(Sg.rec (motive:=λ_=>List Nat) (λv=>app ih (tkV v)) (λ_=>ih) s)) ss
noncomputable def tkE(es:List (Nat×Nat×V)):List Nat:=List.rec [] (λe _ ih=>app ih (app (tkV e.2.2) [e.2.1])) es
noncomputable def tkK(es:List (Nat×V)):List Nat:=List.rec [] (λe _ ih=>app ih (tkV e.2)) es
noncomputable def tkO(o:Option V):List Nat:=Option.rec [] tkV o
noncomputable def tkN(es:List (Nat×Option V)):List Nat:=List.rec [] (λe _ ih=>app ih (tkO e.2)) es
noncomputable def tkOb(o:O):List Nat:=(O.rec (motive:=λ_=>List Nat) (λss n=>n::tkS ss) (λvs n=>n::tkVs vs) (λ_ _=>[]) (λes n=>n::tkE es) (λo kvs=>o::tkK kvs) (λo kvs=>o::tkK kvs) (λo kn=>o::tkN kn) (λo _ _ _ _=>[o]) (λo=>[o]) (λo _=>[o]) (λo x=>o::tkO x) (λ_ _=>[]) (λ_ _ _=>[]) o)
noncomputable def tkH(hp:Hp):List Nat:=List.rec [] (λp _ ih=>app ih (tkOb p.2)) hp
noncomputable def scV(N:Nat)(v:V):Bool:=(V.rec (motive:=λ_=>Bool) (true) (λ_=>true) (λ_ _ t=>Nat.blt t N) (λ_ t=>Nat.blt t N) (λn=>Nat.blt n N) (λ_=>true) (λ_ t=>Nat.blt t N) (λ_=>true) v)
noncomputable def scO(N:Nat)(o:O):Bool:=(O.rec (motive:=λ_=>Bool) (λss n=>bi (List.rec true (λs _ ih=>(Sg.rec (motive:=λ_=>Bool) (λv=>bi (scV N v) ih false) (λ_=>ih) s)) ss) (Nat.blt n N) false) (λvs n=>bi (List.rec true (λv _ ih=>bi (scV N v) ih false) vs) (Nat.blt n N) false) (λ_ d=>Nat.blt d N) (λes n=>bi (List.rec true (λe _ ih=>bi (Nat.blt e.2.1 N) (bi (scV N e.2.2) ih false) false) es) (Nat.blt n N) false) (λo kvs=>bi (List.rec true (λe _ ih=>bi (scV N e.2) ih false) kvs) (Nat.blt o N) false) (λo kvs=>bi (List.rec true (λe _ ih=>bi (scV N e.2) ih false) kvs) (Nat.blt o N) false) (λo kn=>bi (List.rec true (λe _ ih=>bi (Option.rec true (λv=>scV N v) e.2) ih false) kn) (Nat.blt o N) false) (λo _ _ ops kn=>nilB ops (nilB kn (Nat.blt o N))) (λo=>Nat.blt o N) (λo _=>Nat.blt o N) (λo x=>bi (Option.rec true (λv=>scV N v) x) (Nat.blt o N) false) (λ_ _=>false) (λ_ _ _=>false) o)
noncomputable def inR(lo hi i:Nat):Bool:=bi (Nat.ble lo i) (Nat.blt i hi) false
noncomputable def allB{α:Type}(f:α->Bool)(l:List α):Bool:=List.rec true (λa _ ih=>bi (f a) ih false) l
noncomputable def iV(I:Nat->Bool)(v:V):Bool:=(V.rec (motive:=λ_=>Bool) (true) (λ_=>true) (λas _ t=>bi (allB I as) (I t) false) (λ_ t=>I t) (λn=>I n) (λi=>I i) (λi t=>bi (I i) (I t) false) (λ_=>true) v)
noncomputable def iG(I:Nat->Bool)(s:Sg):Bool:=(Sg.rec (motive:=λ_=>Bool) (λv=>iV I v) (λi=>I i) s)
noncomputable def iP(I:Nat->Bool)(o:Option V):Bool:=Option.rec true (λv=>iV I v) o
noncomputable def iO(I:Nat->Bool)(o:O):Bool:=(O.rec (motive:=λ_=>Bool) (λss n=>bi (allB (λs=>iG I s) ss) (I n) false) (λvs n=>bi (allB (λv=>iV I v) vs) (I n) false) (λ_ d=>I d) (λes n=>bi (allB (λe=>bi (I e.2.1) (iV I e.2.2) false) es) (I n) false) (λo kvs=>bi (allB (λe=>iV I e.2) kvs) (I o) false) (λo kvs=>bi (allB (λe=>iV I e.2) kvs) (I o) false) (λo kn=>bi (allB (λe=>iP I e.2) kn) (I o) false) (λo b _ ops kn=>bi (allB (λe=>iV I e.2) ops) (bi (allB (λe=>iP I e.2) kn) (bi (I o) (I b) false) false) false) (λo=>I o) (λo _=>I o) (λo x=>bi (iP I x) (I o) false) (λ_ _=>false) (λ_ _ _=>false) o)
noncomputable def iH(I:Nat->Bool)(hp:Hp):Bool:=allB (λp=>bi (I p.1) (iO I p.2) false) hp
noncomputable def keyB(I:Nat->Bool)(M:Mp):Bool:=bi (allB (λp=>bi (I p.1) false true) M.om) (bi (allB (λp=>bi (I p.1) false true) M.xs) (bi (allB (λp=>bi (I p.1) false true) M.ls) (bi (allB (λp=>bi (I p.1) false true) M.ds) (allB (λp=>bi (I p.1) false true) M.ts) false) false) false) false
noncomputable def offB(I:Nat->Bool)(c:S):Bool:=allB (λt=>bi (I t) false true) (app (tkH c.hp) (tkK c.vs))
noncomputable def noK{α:Type}(o:Option α):Bool:=Option.rec true (λ_=>false) o
noncomputable def genK(I:Nat->Bool)(M:Mp)(c σ:S):Bool:=cd (keyB I M) (cd (noK (lk M.om (nat_lit 0))) (genB M c σ))
noncomputable def scD(N:Nat)(o:O):Bool:=(O.rec (motive:=λ_=>Bool) (λ_ _=>scO N o) (λ_ _=>scO N o) (λ_ _=>scO N o) (λ_ _=>scO N o) (λ_ _=>scO N o) (λ_ _=>scO N o) (λ_ _=>scO N o) (λo _ _ ops kn=>bi (allB (λe=>scV N e.2) ops) (bi (allB (λe=>Option.rec true (λv=>scV N v) e.2) kn) (Nat.blt o N) false) false) (λ_=>scO N o) (λ_ _=>scO N o) (λ_ _=>scO N o) (λ_ _=>scO N o) (λ_ _ _=>scO N o) o)
noncomputable def scE(c:S):Bool:=bi (allB (λp=>bi (Nat.blt p.1 c.nx) (scD c.nx p.2) false) c.hp) (allB (λp=>scV c.nx p.2) c.vs) false
noncomputable def stB(c:S):Bool:=bi (nodB (app (tkH c.hp) (tkK c.vs))) (bi (List.rec true (λp _ ih=>bi (Nat.blt p.1 c.nx) (bi (scO c.nx p.2) ih false) false) c.hp) (List.rec true (λp _ ih=>bi (scV c.nx p.2) ih false) c.vs) false) false
end Mine.Q
namespace Mine.Q
noncomputable def st3(l:List (Int×Value×Value))(k:Int)(v u:Value):List (Int×Value×Value):=if l.any (λe=>decide (e.1=k))then l.map (λe=>if e.1=k then(e.1,v,u)else e)else l++[(k,v,u)]
noncomputable def dOf(ρ:Rho)(x:Option Nat×List (Nat×V×V)):List (Int×Value×Value):=x.2.foldr (λp l=>st3 l (p.1:Int) (iv ρ p.2.1) (iv ρ p.2.2)) (Option.rec (motive:=λ_=>List (Int×Value×Value)) [] (λb=>ρ.D b) x.1)
structure Gr(ρ ρ':Rho)(M:Mp):Prop where
 n:∀n,n<ρ'.n->evn n=true->ρ'.num n=ρ.num (fo M n)
 X:∀i,ρ'.X i=Option.rec (motive:=λ_=>Value) (ρ.X i) (λu=>iv ρ u) (lk M.xs i)
 L:∀i,ρ'.L i=Option.rec (motive:=λ_=>List Value) (ρ.L i) (λss=>sgs ρ ss) (lk M.ls i)
 T:∀i,ρ'.T i=Option.rec (motive:=λ_=>Str) (ρ.T i) (λj=>nm j) (lk M.ts i)
 D:∀b,ρ'.D b=Option.rec (motive:=λ_=>List (Int×Value×Value)) (ρ.D b) (λx=>dOf ρ x) (lk M.ds b)
noncomputable def At(ρ ρ':Rho)(B:Ac):Prop:=∀p∈B,ρ'.num p.1=ρ.num p.2/\ρ'.obj p.1=ρ.obj p.2
noncomputable def Got(acc:Ac)(k:Ac->Bool)(tk:List Nat)(Pr:Ac->Prop):Prop:=∃B,k (B++acc)=true/\B.map (·.1)=tk/\(∀p∈B,odd p.1=true)/\Pr B
section
variable{prog:Program}{w:World}{ρ ρ':Rho}{M:Mp}{acc:Ac}{k:Ac->Bool}
theorem At.l{B C:Ac}(h:At ρ ρ' (B++C)):At ρ ρ' B:=λp hp=>h p (List.mem_append_left _ hp)
theorem At.r{B C:Ac}(h:At ρ ρ' (B++C)):At ρ ρ' C:=λp hp=>h p (List.mem_append_right _ hp)
theorem Got.nil{Pr:Ac->Prop}(g:k acc=true)(h:Pr []):Got acc k [] Pr:=mkEAAA [] g rfl (λ_ h=>nomatch h) h
theorem Got.seq{k1:Ac->Bool}{t1 t2:List Nat}{P1 P2 Pr:Ac->Prop}(G:Got acc k1 t1 P1)(H:∀B,k1 (B++acc)=true->P1 B->Got (B++acc) k t2 P2)(h:∀B1 B2,P1 B1->P2 B2->Pr (B2++B1)):Got acc k (t2++t1) Pr:=by
 refine elEAAA (λB1 g1 e1 o1 p1=>?_) G;clear G
 refine elEAAA (λB2 g2 e2 o2 p2=>?_)<|H B1 g1 p1
 exact mkEAAA (B2++B1) (by rw[List.append_assoc];exact g2) (by rw[List.map_append,e1,e2]) (λp hp=>(List.mem_append.mp hp).elim (o2 p) (o1 p)) (h B1 B2 p1 p2)
theorem Got.mono{t:List Nat}{P1 P2:Ac->Prop}(G:Got acc k t P1)(h:∀B,P1 B->P2 B):Got acc k t P2:=by
 refine elEAAA (λB a b c d=>?_) G;clear G
 exact mkEAAA B a b c (h B d)
theorem tkc_ok{t u:Nat}(g:tkc t u acc k=true):Got acc k [t] λB=>∀ρ ρ',At ρ ρ' B->ρ'.num t=ρ.num u/\ρ'.obj t=ρ.obj u:=by
 obtain⟨h,g⟩:=cd_e g
 exact mkEAAA [(t,u)] g rfl (λp hp=>by rw[List.mem_singleton]at hp;subst hp;exact h) (λρ ρ' a=>a _ (.head _))
theorem rfc_ok{n m:Nat}{p:Bool}(g:rfc M n m p=true):evn n=true/\fo M n=m/\p=true:=by
 obtain⟨h1,g⟩:=cd_e g
 obtain⟨h2,g⟩:=cd_e g
 exact mkAA h1 (Nat.eq_of_beq_eq_true h2) g
theorem expI_ok{kk:List Nat->Nat->Bool}:∀{as:List Nat},expI M as kk=true->∃r c,kk r c=true/\∀ρ ρ',Gr ρ ρ' M->lns ρ' as=lns ρ r+c:=by
 intro as
 induction as generalizing kk with
 |nil=>exact λg=>mkEEA [] 0 g (λ_ _ _=>rfl)
 |cons i as ih=>
  intro g
  have g:Option.rec (motive:=λ_=>Bool) (expI M as λr c=>kk (i::r) c) (λss=>lenS ss λbs d=>expI M as λr c=>kk (app bs r) (Nat.add d c)) (lk M.ls i)=true:=g
  rcases e:lk M.ls i with _|ss
  .rw[e]at g
   refine elEEA (λr c g h=>?_)<|ih g
   refine mkEEA (i::r) c g (λρ ρ' G=>?_)
   have hl:ρ'.L i=ρ.L i:=by rw[G.L,e]
   rw[lns_cons,lns_cons,h ρ ρ' G,hl];omega
  .rw[e]at g
   refine elEEA (λbs d g h1=>?_)<|len_e (ss:=ss) g
   refine elEEA (λr c g h=>?_)<|ih g
   refine mkEEA (app bs r) (d+c) g (λρ ρ' G=>?_)
   have hl:ρ'.L i=sgs ρ ss:=by rw[G.L,e]
   have:=h1 ρ
   rw[lns_cons,h ρ ρ' G,app_eq,lns_app,hl];push_cast;omega
theorem mV_ok{c a:V}(g:mV M c a acc k=true):Got acc k (tkV c) λB=>∀ρ ρ',Gr ρ ρ' M->c.sc ρ'.n->At ρ ρ' B->iv ρ' c=iv ρ a:=by
 cases c
 case non=>cases a<;>first|exact ff g|exact .nil g λ_ _ _ _ _=>rfl
 case boo x=>
  cases a<;>first|exact ff g|skip
  rename_i y
  obtain⟨h,g⟩:=cd_e g
  refine .nil g λ_ _ _ _ _=>?_
  cases x<;>cases y<;>first|rfl|exact ff h
 case int as c t=>
  cases a<;>first|exact ff g|skip
  rename_i bs d u
  refine elEEA (λr c' g h=>?_)<|expI_ok (as:=as) g
  obtain⟨h1,g⟩:=cd_e g
  obtain⟨h2,g⟩:=cd_e g
  refine(tkc_ok g).mono λB hB ρ ρ' G _ hA=>?_
  show Value.int (lns ρ' as+c) (ρ'.num t)=Value.int (lns ρ bs+d) (ρ.num u)
  rw[(hB ρ ρ' hA).1,h ρ ρ' G,eqN_e h1,←eqZ_e h2]
  congr 1
  show lns ρ bs+c'+c=lns ρ bs+(c+c')
  omega
 case str i t=>
  cases a<;>first|exact ff g|skip
  rename_i j u
  obtain⟨h1,g⟩:=cd_e g
  refine(tkc_ok g).mono λB hB ρ ρ' G _ hA=>?_
  show Value.str _ _=Value.str _ _
  rw[(hB ρ ρ' hA).1,Nat.eq_of_beq_eq_true h1]
 case ref n=>
  cases a<;>first|exact ff g|skip
  refine elAA (λh1 h2 g=>?_)<|rfc_ok g
  refine .nil g λρ ρ' G hs _=>?_
  show Value.ref _=Value.ref _
  rw[G.n n hs h1,h2]
 case opq i=>
  have g:Option.rec (motive:=λ_=>Bool) (V.rec (motive:=λ_=>Bool) false (λ_=>false) (λ_ _ _=>false) (λ_ _=>false) (λ_=>false) (λj=>cd (Nat.beq i j) (k acc)) (λ_ _=>false) (λ_=>false) a) (λu=>cd (sameV u a) (k acc)) (lk M.xs i)=true:=g
  rcases e:lk M.xs i with _|u
  .rw[e]at g
   cases a<;>first|exact ff g|skip
   obtain⟨h1,g⟩:=cd_e g
   refine .nil g λρ ρ' G _ _=>?_
   show ρ'.X i=ρ.X _
   rw[G.X,e,Nat.eq_of_beq_eq_true h1]
  .rw[e]at g
   obtain⟨h1,g⟩:=cd_e (b:=sameV u a) g
   refine .nil g λρ ρ' G _ _=>?_
   show ρ'.X i=_
   rw[G.X,e,sameV_e h1]
 case sat i t=>
  cases a<;>first|exact ff g|skip
  .rename_i j u
   refine elEA (λx hx g=>?_)<|oe_e (o:=lk M.ts i) g
   obtain⟨h1,g⟩:=cd_e g
   refine(tkc_ok g).mono λB hB ρ ρ' G _ hA=>?_
   show Value.str (ρ'.T i) _=Value.str _ _
   rw[(hB ρ ρ' hA).1,G.T,hx,←Nat.eq_of_beq_eq_true h1]
  .rename_i j u
   obtain⟨h1,g⟩:=cd_e (b:=Nat.beq i j) g
   rcases e:lk M.ts i with _|_
   .rw[e]at g
    refine(tkc_ok g).mono λB hB ρ ρ' G _ hA=>?_
    show Value.str (ρ'.T i) _=Value.str (ρ.T j) _
    rw[(hB ρ ρ' hA).1,G.T,e,Nat.eq_of_beq_eq_true h1]
   .rw[e]at g;exact ff g
 case gr n=>
  cases a<;>first|exact ff g|skip
  obtain⟨h1,g⟩:=cd_e g
  refine .nil g λρ ρ' G _ _=>?_
  show Value.ref _=Value.ref _
  rw[Nat.eq_of_beq_eq_true h1]
theorem sameG_e{x y:Sg}(h:sameG x y=true):x=y:=by
 cases x<;>first|exact ff h|(cases y<;>first|exact ff h|skip)
 .exact congrArg _ (sameV_e h)
 .exact congrArg _ (Nat.eq_of_beq_eq_true h)
theorem strip_ok{kk:List Sg->Bool}:∀{ss as:List Sg},strip ss as kk=true->∃r,as=ss++r/\kk r=true
 |[],as,g=>⟨as,rfl,g⟩
 |x::ss,[],g=>ff g
 |x::ss,y::as,g=>by
  obtain⟨h,g⟩:=cd_e (b:=sameG x y) g
  refine elEA (λr e g=>?_)<|strip_ok (ss:=ss) g
  exact⟨r,by rw[e,sameG_e h];rfl,g⟩
noncomputable def scS(N:Nat)(ss:List Sg):Prop:=∀s∈ss,s.sc N
theorem mS_ok:∀{cs as:List Sg} {acc:Ac},mS M cs as acc k=true->Got acc k (tkS cs) λB=>∀ρ ρ',Gr ρ ρ' M->scS ρ'.n cs->At ρ ρ' B->sgs ρ' cs=sgs ρ as
 |[],[],acc,g=>.nil g λ_ _ _ _ _=>rfl
 |[],_::_,_,g=>ff g
 |.it v::cs,as,acc,g=>by
  rcases as with _|⟨y,as⟩
  .exact ff g
  .rcases y with u|_
   .have g:mV M v u acc (λacc=>mS M cs as acc k)=true:=g
    show Got acc k (app (tkS cs) (tkV v)) _
    rw[app_eq]
    exact(mV_ok g).seq (λB gB _=>mS_ok (cs:=cs) (as:=as) gB) λB1 B2 h1 h2 ρ ρ' G hs hA=>by
     show iv ρ' v::sgs ρ' cs=iv ρ u::sgs ρ as
     rw[h1 ρ ρ' G (hs _ (.head _)) hA.r,h2 ρ ρ' G (λs h=>hs s (.tail _ h)) hA.l]
   .exact ff g
 |.sg i::cs,as,acc,g=>by
  have g:Option.rec (motive:=λ_=>Bool) (List.rec (motive:=λ_=>Bool) false (λy r _=>Sg.rec (motive:=λ_=>Bool) (λ_=>false) (λj=>cd (Nat.beq i j) (mS M cs r acc k)) y) as) (λss=>strip ss as λr=>mS M cs r acc k) (lk M.ls i)=true:=g
  show Got acc k (tkS cs) _
  rcases e:lk M.ls i with _|ss
  .rw[e]at g
   rcases as with _|⟨y,as⟩
   .exact ff g
   .rcases y with _|j
    .exact ff g
    .obtain⟨h,g⟩:=cd_e (b:=Nat.beq i j) g
     refine(mS_ok (cs:=cs) (as:=as) g).mono λB hB ρ ρ' G hs hA=>?_
     show ρ'.L i++sgs ρ' cs=ρ.L j++sgs ρ as
     rw[hB ρ ρ' G (λs h=>hs s (.tail _ h)) hA,G.L,e,Nat.eq_of_beq_eq_true h]
  .rw[e]at g
   refine elEA (λr er g=>?_)<|strip_ok (ss:=ss) g
   refine(mS_ok (cs:=cs) (as:=r) g).mono λB hB ρ ρ' G hs hA=>?_
   show ρ'.L i++sgs ρ' cs=sgs ρ as
   rw[hB ρ ρ' G (λs h=>hs s (.tail _ h)) hA,G.L,e,er,sgs_app]
theorem mVs_ok:∀{cs as:List V} {acc:Ac},mVs M cs as acc k=true->Got acc k (tkVs cs) λB=>∀ρ ρ',Gr ρ ρ' M->scs ρ'.n cs->At ρ ρ' B->ivs ρ' cs=ivs ρ as
 |[],[],acc,g=>.nil g λ_ _ _ _ _=>rfl
 |[],_::_,_,g=>ff g
 |_::_,[],_,g=>ff g
 |v::cs,u::as,acc,g=>by
  have g:mV M v u acc (λacc=>mVs M cs as acc k)=true:=g
  show Got acc k (app (tkVs cs) (tkV v)) _
  rw[app_eq]
  exact(mV_ok g).seq (λB gB _=>mVs_ok (cs:=cs) (as:=as) gB) λB1 B2 h1 h2 ρ ρ' G hs hA=>by
   show iv ρ' v::ivs ρ' cs=iv ρ u::ivs ρ as
   rw[h1 ρ ρ' G (hs _ (.head _)) hA.r,h2 ρ ρ' G (λs h=>hs s (.tail _ h)) hA.l]
theorem mE_ok:∀{cs as:List (Nat×Nat×V)} {acc:Ac},mE M cs as acc k=true->Got acc k (tkE cs) λB=>∀ρ ρ',Gr ρ ρ' M->(∀e∈cs,e.2.2.sc ρ'.n)->At ρ ρ' B->cs.map (entry w ρ')=as.map (entry w ρ)
 |[],[],acc,g=>.nil g λ_ _ _ _ _=>rfl
 |[],_::_,_,g=>ff g
 |_::_,[],_,g=>ff g
 |e::cs,u::as,acc,g=>by
  obtain⟨h,g⟩:=cd_e (b:=Nat.beq e.1 u.1) g
  have g:tkc e.2.1 u.2.1 acc (λacc=>mV M e.2.2 u.2.2 acc λacc=>mE M cs as acc k)=true:=g
  show Got acc k (app (tkE cs) (app (tkV e.2.2) [e.2.1])) _
  rw[app_eq,app_eq,←List.append_assoc]
  refine(tkc_ok g).seq (P2:=λB=>∀ρ ρ',Gr ρ ρ' M->(∀x∈e::cs,x.2.2.sc ρ'.n)->At ρ ρ' B->iv ρ' e.2.2=iv ρ u.2.2/\cs.map (entry w ρ')=as.map (entry w ρ)) (λB gB _=>(mV_ok gB).seq (λB gB _=>mE_ok (cs:=cs) (as:=as) gB) λB1 B2 h1 h2 ρ ρ' G hs hA=>⟨h1 ρ ρ' G (hs _ (.head _)) hA.r,h2 ρ ρ' G (λs h=>hs s (.tail _ h)) hA.l⟩) λB1 B2 h1 h2 ρ ρ' G hs hA=>?_
  obtain⟨a,b⟩:=h2 ρ ρ' G hs hA.l
  show entry w ρ' e::cs.map (entry w ρ')=entry w ρ u::as.map (entry w ρ)
  rw[b]
  unfold entry
  rw[a,(h1 ρ ρ' hA.r).1,Nat.eq_of_beq_eq_true h]
noncomputable def kvI(ρ:Rho)(l:List (Nat×V)):List (Nat×Value):=l.map λp=>(p.1,iv ρ p.2)
theorem kvI_lk{j:Nat}:∀{l:List (Nat×V)},(lk l j).map (iv ρ)=lk (kvI ρ l) j
 |[]=>rfl
 |p::l=>by
  show _=lk ((p.1,iv ρ p.2)::kvI ρ l) j
  rw[lk_cons,lk_cons,←kvI_lk (l:=l),bi_map];rfl
theorem mK_ok:∀{cs as:List (Nat×V)} {acc:Ac},mK M cs as acc k=true->Got acc k (tkK cs) λB=>∀ρ ρ',Gr ρ ρ' M->(∀e∈cs,e.2.sc ρ'.n)->At ρ ρ' B->kvI ρ' cs=kvI ρ as
 |[],[],acc,g=>.nil g λ_ _ _ _ _=>rfl
 |[],_::_,_,g=>ff g
 |_::_,[],_,g=>ff g
 |e::cs,u::as,acc,g=>by
  obtain⟨h,g⟩:=cd_e (b:=Nat.beq e.1 u.1) g
  have g:mV M e.2 u.2 acc (λacc=>mK M cs as acc k)=true:=g
  show Got acc k (app (tkK cs) (tkV e.2)) _
  rw[app_eq]
  exact(mV_ok g).seq (λB gB _=>mK_ok (cs:=cs) (as:=as) gB) λB1 B2 h1 h2 ρ ρ' G hs hA=>by
   show(e.1,iv ρ' e.2)::kvI ρ' cs=(u.1,iv ρ u.2)::kvI ρ as
   rw[h1 ρ ρ' G (hs _ (.head _)) hA.r,h2 ρ ρ' G (λs h=>hs s (.tail _ h)) hA.l,Nat.eq_of_beq_eq_true h]
theorem mOp_ok{c a:Option V}(g:mOp M c a acc k=true):Got acc k (tkO c) λB=>∀ρ ρ',Gr ρ ρ' M->(∀v∈c,v.sc ρ'.n)->At ρ ρ' B->c.map (iv ρ')=a.map (iv ρ):=by
 rcases c with _|v
 .rcases a with _|_
  .exact .nil g λ_ _ _ _ _=>rfl
  .exact ff g
 .rcases a with _|u
  .exact ff g
  .have g:mV M v u acc k=true:=g
   exact(mV_ok g).mono λB h ρ ρ' G hs hA=>congrArg some (h ρ ρ' G (hs _ rfl) hA)
theorem mN_ok{f:Nat->(Option V->Bool)->Bool}{Fa:Nat->Option V->Prop}(hf:∀j h,f j h=true->∃x,Fa j x/\h x=true):∀{cs:List (Nat×Option V)} {acc:Ac},mN M cs f acc k=true->Got acc k (tkN cs) λB=>∀ρ ρ',Gr ρ ρ' M->(∀e∈cs,∀v∈e.2,v.sc ρ'.n)->At ρ ρ' B->∀e∈cs,∃x,Fa e.1 x/\e.2.map (iv ρ')=x.map (iv ρ)
 |[],acc,g=>.nil g λ_ _ _ _ _ _ h=>nomatch h
 |e::cs,acc,g=>by
  refine elEA (λx hx g=>?_)<|hf _ _ g
  have g:mOp M e.2 x acc (λacc=>mN M cs f acc k)=true:=g
  show Got acc k (app (tkN cs) (tkO e.2)) _
  rw[app_eq]
  exact(mOp_ok g).seq (λB gB _=>mN_ok hf (cs:=cs) gB) λB1 B2 h1 h2 ρ ρ' G hs hA y hy=>by
   rcases List.mem_cons.mp hy with rfl|hy
   .exact⟨x,hx,h1 ρ ρ' G (hs _ (.head _)) hA.r⟩
   .exact h2 ρ ρ' G (λs h=>hs s (.tail _ h)) hA.l y hy
theorem st3_side{sd:Bool}{l:List (Int×Value×Value)}{j:Int}{v u:Value}:(st3 l j v u).map (λe=>(e.1,bi sd e.2.1 e.2.2))=stored (l.map λe=>(e.1,bi sd e.2.1 e.2.2)) j (bi sd v u):=by
 unfold st3 stored
 rw[List.any_map]
 have e0:((λe:Int×Value=>decide (e.1=j))∘λe:Int×Value×Value=>(e.1,bi sd e.2.1 e.2.2))=λe=>decide (e.1=j):=rfl
 rw[e0]
 split
 .rw[List.map_map,List.map_map]
  refine List.map_congr_left λe _=>?_
  simp only[Function.comp]
  by_cases q:e.1=j<;>simp[q]
 .rw[List.map_append];rfl
theorem opsB_ok{sd:Bool}{l:List (Int×Value×Value)}:∀{ps:List (Nat×V×V)} {ops:List (Nat×V)},opsB sd ps ops=true->
 (ps.foldr (λp l=>st3 l (p.1:Int) (iv ρ p.2.1) (iv ρ p.2.2)) l).map (λe=>(e.1,bi sd e.2.1 e.2.2))=ops.foldr (λp l=>stored l (p.1:Int) (iv ρ p.2)) (l.map λe=>(e.1,bi sd e.2.1 e.2.2))
 |[],[],_=>rfl
 |[],_::_,g=>ff g
 |_::_,[],g=>ff g
 |p::ps,o::ops,g=>by
  obtain⟨h1,g⟩:=cd_e (b:=Nat.beq p.1 o.1) g
  obtain⟨h2,g⟩:=cd_e (b:=sameV (bi sd p.2.1 p.2.2) o.2) g
  show(st3 (ps.foldr _ l) _ _ _).map _=stored (ops.foldr _ _) _ _
  rw[st3_side,opsB_ok g,←sameV_e h2,Nat.eq_of_beq_eq_true h1]
  cases sd<;>rfl
theorem nilB_e{α:Type}{l:List α}{p:Bool}(g:nilB l p=true):l=[]/\p=true:=by
 rcases l with _|⟨_,_⟩
 .exact⟨rfl,g⟩
 .exact ff g
theorem eqB_e{x y:Bool}(g:eqB x y=true):x=y:=by cases x<;>cases y<;>first|rfl|exact ff g
noncomputable def bsO(ρ:Rho)(b2:Option Nat)(sd:Bool)(ops:List (Nat×V)):List (Int×Value):=ops.foldr (λp l=>stored l (p.1:Int) (iv ρ p.2)) (Option.rec (motive:=λ_=>List (Int×Value)) [] (λb=>bsT ρ b sd) b2)
theorem mT_ok{b:Nat}{sd sd2:Bool}{b2:Option Nat}{ops:List (Nat×V)}{p:Bool}(g:mT M b sd b2 sd2 ops p=true):p=true/\sd=sd2/\∀ρ ρ',Gr ρ ρ' M->bsT ρ' b sd=bsO ρ b2 sd ops:=by
 replace g:=cd_e g
 obtain⟨h0,g⟩:=g
 have:=eqB_e h0
 subst this
 rcases e:lk M.ds b with _|x
 .rw[e]at g
  rcases b2 with _|b2
  .exact ff g
  .obtain⟨h1,g⟩:=cd_e (b:=Nat.beq b b2) g
   obtain⟨rfl,g⟩:=nilB_e g
   refine mkAA g rfl (λρ ρ' G=>?_)
   show(ρ'.D b).map _=(ρ.D b2).map _
   rw[G.D,e,Nat.eq_of_beq_eq_true h1]
 .rw[e]at g
  obtain⟨h1,g⟩:=cd_e g
  obtain⟨h2,g⟩:=cd_e g
  refine mkAA g rfl (λρ ρ' G=>?_)
  have hx:x.1=b2:=by
   obtain⟨x1,x2⟩:=x
   cases x1<;>cases b2<;>first|rfl|exact ff h1|exact congrArg some (Nat.eq_of_beq_eq_true h1)
  show(ρ'.D b).map _=_
  rw[G.D,e]
  show(dOf ρ x).map _=_
  unfold dOf
  rw[opsB_ok h2,hx]
  cases b2<;>rfl
theorem mO_ok{c a:O}(g:mO M c a acc k=true):Got acc k (tkOb c) λB=>∀ρ ρ',Gr ρ ρ' M->c.sc ρ'.n->At ρ ρ' B->io w ρ' c=io w ρ a/\∀ad,okO prog w ρ ad a->okO prog w ρ' ad c:=by
 cases c
 case list cs n=>
  cases a<;>first|exact ff g|skip
  rename_i as m
  have g:mS M cs as acc (λacc=>tkc n m acc k)=true:=g
  exact(mS_ok g).seq (λB gB _=>tkc_ok gB) (t2:=[n]) λB1 B2 h1 h2 ρ ρ' G hs hA=>⟨by
   show listOf _ _=listOf _ _
   rw[h1 ρ ρ' G hs.1 hA.r,(h2 ρ ρ' hA.l).1],λ_ _=>trivial⟩
 case tup cs n=>
  cases a<;>first|exact ff g|skip
  rename_i as m
  have g:mVs M cs as acc (λacc=>tkc n m acc k)=true:=g
  exact(mVs_ok g).seq (λB gB _=>tkc_ok gB) (t2:=[n]) λB1 B2 h1 h2 ρ ρ' G hs hA=>⟨by
   show tupo _ _=tupo _ _
   rw[h1 ρ ρ' G hs.1 hA.r,(h2 ρ ρ' hA.l).1],λ_ _=>trivial⟩
 case inst C d=>
  cases a<;>first|exact ff g|skip
  obtain⟨h1,g⟩:=cd_e g
  refine elAA (λh2 h3 g=>?_)<|rfc_ok g
  refine .nil g λρ ρ' G hs _=>⟨?_,λ_ _=>trivial⟩
  show instObj _ _=instObj _ _
  rw[G.n _ hs h2,h3,Nat.eq_of_beq_eq_true h1]
 case attrs es n=>
  cases a<;>first|exact ff g|skip
  rename_i es2 m
  have g:mE M es es2 acc (λacc=>tkc n m acc k)=true:=g
  exact(mE_ok (w:=w) g).seq (λB gB _=>tkc_ok gB) (t2:=[n]) λB1 B2 h1 h2 ρ ρ' G hs hA=>⟨by
   show dictOf _ _=dictOf _ _
   rw[h1 ρ ρ' G (λe he=>(hs.1 e he).2) hA.r,(h2 ρ ρ' hA.l).1],λ_ _=>trivial⟩
 case dS o kvs=>
  cases a<;>first|exact ff g|skip
  rename_i o2 kvs2
  have g:mK M kvs kvs2 acc (λacc=>tkc o o2 acc k)=true:=g
  exact(mK_ok g).seq (λB gB _=>tkc_ok gB) (t2:=[o]) λB1 B2 h1 h2 ρ ρ' G hs hA=>⟨(h2 ρ ρ' hA.l).2,λad K=>by
   have e:=h1 ρ ρ' G hs.1 hA.r
   obtain⟨⟨l,k1,k2,k3⟩,k4⟩:=K
   refine⟨⟨l,by rw[(h2 ρ ρ' hA.l).2];exact k1,?_,λj=>?_⟩,k4⟩
   .have:=congrArg List.length e
    simp only[kvI,List.length_map]at this
    omega
   .rw[k3,kvI_lk,kvI_lk,e]⟩
 case dI o kvs=>
  cases a<;>first|exact ff g|skip
  rename_i o2 kvs2
  have g:mK M kvs kvs2 acc (λacc=>tkc o o2 acc k)=true:=g
  exact(mK_ok g).seq (λB gB _=>tkc_ok gB) (t2:=[o]) λB1 B2 h1 h2 ρ ρ' G hs hA=>⟨(h2 ρ ρ' hA.l).2,λad K=>by
   have e:=congrArg (List.map λp:Nat×Value=>((p.1:Int),p.2)) (h1 ρ ρ' G hs.1 hA.r)
   simp only[kvI,List.map_map]at e
   refine⟨?_,K.2⟩
   rw[(h2 ρ ρ' hA.l).2,show kvs.map (λp=>((p.1:Int),iv ρ' p.2))=kvs2.map (λp=>((p.1:Int),iv ρ p.2))from e]
   exact K.1⟩
 case dK o kn=>
  cases a<;>first|exact ff g|skip
  .rename_i o2 kvs2
   have g:mN M kn (λj h=>h (lk kvs2 j)) acc (λacc=>tkc o o2 acc k)=true:=g
   exact(mN_ok (Fa:=λj x=>lk kvs2 j=x) (λj h g=>⟨_,rfl,g⟩) g).seq (λB gB _=>tkc_ok gB) (t2:=[o]) λB1 B2 h1 h2 ρ ρ' G hs hA=>⟨(h2 ρ ρ' hA.l).2,λad K=>⟨⟨_,by rw[(h2 ρ ρ' hA.l).2];exact K.1,λp hp=>by
    refine elEA (λx hx e=>?_)<|h1 ρ ρ' G hs.1 hA.r p hp
    rw[valueAt_I,hx,e]⟩,K.2⟩⟩
  .rename_i o2 kn2
   have g:mN M kn (λj h=>oe (lk kn2 j) h) acc (λacc=>tkc o o2 acc k)=true:=g
   exact(mN_ok (Fa:=λj x=>lk kn2 j=some x) (λj h g=>oe_e g) g).seq (λB gB _=>tkc_ok gB) (t2:=[o]) λB1 B2 h1 h2 ρ ρ' G hs hA=>⟨(h2 ρ ρ' hA.l).2,λad K=>by
    obtain⟨⟨l,k1,k2⟩,k3⟩:=K
    refine⟨⟨l,by rw[(h2 ρ ρ' hA.l).2];exact k1,λp hp=>?_⟩,k3⟩
    refine elEA (λx hx e=>?_)<|h1 ρ ρ' G hs.1 hA.r p hp
    rw[k2 _ (lk_mem hx),e]⟩
 case dT o b sd ops kn=>
  replace g:=nilB_e g
  obtain⟨e1,g⟩:=g
  replace g:=nilB_e g
  obtain⟨e2,g⟩:=g
  subst e1;subst e2
  cases a<;>first|exact ff g|skip
  .rename_i o2 kvs2
   replace g:nilB kvs2 (mT M b sd none sd [] (tkc o o2 acc k))=true:=g
   replace g:=nilB_e g
   obtain⟨e1,g⟩:=g
   subst e1
   replace g:=mT_ok g
   refine elAA (λg378 z379 h=>?_) g;revert g378;clear g;intro g;clear z379
   refine(tkc_ok g).mono λB h2 ρ ρ' G hs hA=>⟨(h2 ρ ρ' hA).2,λad K=>mkAA ?_ (λ_ h=>nomatch h) K.2⟩
   show(ρ'.obj o).IsDictOf _ (bsT ρ' b sd)
   rw[(h2 ρ ρ' hA).2,h ρ ρ' G]
   exact K.1
  .rename_i o2 b2 sd2 ops2 kn2
   replace g:mT M b sd (some b2) sd2 ops2 (tkc o o2 acc k)=true:=g
   replace g:=mT_ok g
   refine elAA (λg380 e1 h=>?_) g;revert g380;clear g;intro g
   subst e1
   refine(tkc_ok g).mono λB h2 ρ ρ' G hs hA=>⟨(h2 ρ ρ' hA).2,λad K=>mkAA ?_ (λ_ h=>nomatch h) K.2.2⟩
   show(ρ'.obj o).IsDictOf _ (bsT ρ' b sd)
   rw[(h2 ρ ρ' hA).2,h ρ ρ' G]
   exact K.1
 case scr o=>
  cases a<;>first|exact ff g|skip
  refine(tkc_ok g).mono λB h2 ρ ρ' G hs hA=>⟨(h2 ρ ρ' hA).2,λad K=>?_⟩
  show∃_ _ _,_
  rw[(h2 ρ ρ' hA).2];exact K
 case spt o b=>
  cases a<;>first|exact ff g|skip
  refine(tkc_ok g).mono λB h2 ρ ρ' G hs hA=>⟨(h2 ρ ρ' hA).2,λad K=>?_⟩
  show∃_ _ _,_
  rw[(h2 ρ ρ' hA).2];exact K
 case cel o x=>
  cases a<;>first|exact ff g|skip
  rename_i o2 x2
  have g:mOp M x x2 acc (λacc=>tkc o o2 acc k)=true:=g
  exact(mOp_ok g).seq (λB gB _=>tkc_ok gB) (t2:=[o]) λB1 B2 h1 h2 ρ ρ' G hs hA=>⟨(h2 ρ ρ' hA.l).2,λad K=>by
   show(ρ'.obj o).data=.cell (x.map (iv ρ'))
   rw[(h2 ρ ρ' hA.l).2,h1 ρ ρ' G hs.1 hA.r];exact K⟩
 case flt=>exact ff g
 case fld=>exact ff g
theorem mH_ok{as:Hp}:∀{cs:Hp} {acc:Ac},mH M cs as acc k=true->Got acc k (tkH cs) λB=>(∀p∈cs,evn p.1=true)/\∀ρ ρ',Gr ρ ρ' M->(∀p∈cs,p.2.sc ρ'.n)->At ρ ρ' B->∀p∈cs,∃o,lk as (fo M p.1)=some o/\io w ρ' p.2=io w ρ o/\∀ad,okO prog w ρ ad o->okO prog w ρ' ad p.2
 |[],acc,g=>.nil g ⟨(λ_ h=>nomatch h),λ_ _ _ _ _ _ h=>nomatch h⟩
 |p::cs,acc,g=>by
  obtain⟨hv,g⟩:=cd_e (b:=evn p.1) g
  refine elEA (λo ho g=>?_)<|oe_e (o:=lk as (fo M p.1)) g
  have g:mO M p.2 o acc (λacc=>mH M cs as acc k)=true:=g
  show Got acc k (app (tkH cs) (tkOb p.2)) _
  rw[app_eq]
  exact(mO_ok (prog:=prog) (w:=w) g).seq (λB gB _=>mH_ok (cs:=cs) gB) λB1 B2 h1 h2=>⟨λq hq=>(List.mem_cons.mp hq).elim (λe=>by rw[e];exact hv) (h2.1 q),λρ ρ' G hs hA q hq=>by
   rcases List.mem_cons.mp hq with rfl|hq
   .exact⟨o,ho,h1 ρ ρ' G (hs _ (.head _)) hA.r⟩
   .exact h2.2 ρ ρ' G (λs h=>hs s (.tail _ h)) hA.l q hq⟩
end
end Mine.Q
namespace Mine.Q
section
variable{prog:Program}{w:World}{Γ:Fx prog w}{ρ ρ':Rho}{M:Mp}{acc:Ac}{k:Ac->Bool}{σ c:S}{h:Heap}
noncomputable def gIx(M:Mp)(F:Ac)(i:Nat):Nat:=bi (evn i) (fo M i) (Option.rec (motive:=λ_=>Nat) i (λj=>j) (lk F i))
noncomputable def gRho(M:Mp)(F:Ac)(ρ:Rho)(N:Nat):Rho where
 c:=(List.range N).map λi=>(ρ.num (gIx M F i),ρ.obj (gIx M F i))
 X i:=Option.rec (motive:=λ_=>Value) (ρ.X i) (λu=>iv ρ u) (lk M.xs i)
 T i:=Option.rec (motive:=λ_=>Str) (ρ.T i) (λj=>nm j) (lk M.ts i)
 L i:=Option.rec (motive:=λ_=>List Value) (ρ.L i) (λss=>sgs ρ ss) (lk M.ls i)
 D b:=Option.rec (motive:=λ_=>List (Int×Value×Value)) (ρ.D b) (λx=>dOf ρ x) (lk M.ds b)
 g:=ρ.g
theorem gRho_n{F:Ac}{N:Nat}:(gRho M F ρ N).n=N:=by show List.length (List.map _ _)=N;rw[List.length_map,List.length_range]
theorem gRho_num{F:Ac}{N i:Nat}(hi:i<N):(gRho M F ρ N).num i=ρ.num (gIx M F i):=by
 unfold Rho.num
 show((((List.range N).map λi=>(ρ.num (gIx M F i),ρ.obj (gIx M F i)))[i]?).getD (0,default)).1=_
 rw[List.getElem?_map,List.getElem?_range hi];rfl
theorem gRho_obj{F:Ac}{N i:Nat}(hi:i<N):(gRho M F ρ N).obj i=ρ.obj (gIx M F i):=by
 unfold Rho.obj
 show((((List.range N).map λi=>(ρ.num (gIx M F i),ρ.obj (gIx M F i)))[i]?).getD (0,default)).2=_
 rw[List.getElem?_map,List.getElem?_range hi];rfl
theorem ev_od{i:Nat}(h:odd i=true):evn i=false:=by
 have h:Nat.beq (i%2) 1=true:=h
 have:=Nat.eq_of_beq_eq_true h
 show Nat.beq (i%2) 0=false
 rw[this];rfl
theorem lk_nd{α:Type}{p:Nat×α}:∀{F:List (Nat×α)},(F.map (·.1)).Nodup->p∈F->lk F p.1=some p.2
 |q::F,nd,hp=>by
  obtain⟨n1,n2⟩:=List.nodup_cons.mp nd
  rw[lk_cons]
  rcases List.mem_cons.mp hp with rfl|hp
  .rw[Nat.beq_refl];rfl
  .rw[show Nat.beq p.1 q.1=false by
    rw[Bool.eq_false_iff,Ne,Nat.beq_eq]
    exact λe=>n1 (by show q.1∈_;rw[←e];exact List.mem_map_of_mem (f:=λx:Nat×α=>x.1) hp)]
   exact lk_nd n2 hp
theorem scV_e{N:Nat}{v:V}(h:scV N v=true):v.sc N:=by
 cases v<;>first|trivial|exact Nat.lt_of_lt_of_le (Nat.lt_succ_self _) (Nat.le_of_ble_eq_true h)
theorem all_e{α:Type}{f:α->Bool}:∀{l:List α},(List.rec (motive:=λ_=>Bool) true (λa _ ih=>bi (f a) ih false) l)=true->∀a∈l,f a=true
 |[],_,_,h=>nomatch h
 |x::l,g,a,h=>by
  obtain⟨g1,g2⟩:=bi_t (b:=f x) g
  rcases List.mem_cons.mp h with rfl|h
  .exact g1
  .exact all_e g2 a h
theorem lt_e{a b:Nat}(h:Nat.blt a b=true):a<b:=Nat.le_of_ble_eq_true h
theorem scO_e{N:Nat}{o:O}(h:scO N o=true):o.sc N:=by
 cases o
 case list ss n=>
  obtain⟨h1,h2⟩:=bi_t h
  refine⟨λs hs=>?_,lt_e h2⟩
  have:∀{l:List Sg},(List.rec (motive:=λ_=>Bool) true (λs _ ih=>Sg.rec (motive:=λ_=>Bool) (λv=>bi (scV N v) ih false) (λ_=>ih) s) l)=true->∀s∈l,s.sc N:=by
   intro l
   induction l with
   |nil=>exact λ_ _ h=>nomatch h
   |cons x l ih=>
    intro g s hs
    rcases x with v|i
    .obtain⟨g1,g2⟩:=bi_t (b:=scV N v) g
     rcases List.mem_cons.mp hs with rfl|hs
     .exact scV_e g1
     .exact ih g2 s hs
    .rcases List.mem_cons.mp hs with rfl|hs
     .trivial
     .exact ih g s hs
  exact this h1 s hs
 case tup vs n=>
  obtain⟨h1,h2⟩:=bi_t h
  exact⟨λv hv=>scV_e (all_e h1 v hv),lt_e h2⟩
 case inst=>exact lt_e h
 case attrs es n=>
  obtain⟨h1,h2⟩:=bi_t h
  have:∀{l:List (Nat×Nat×V)},(List.rec (motive:=λ_=>Bool) true (λe _ ih=>bi (Nat.blt e.2.1 N) (bi (scV N e.2.2) ih false) false) l)=true->∀e∈l,e.2.1<N/\e.2.2.sc N:=by
   intro l
   induction l with
   |nil=>exact λ_ _ h=>nomatch h
   |cons x l ih=>
    intro g e he
    obtain⟨g1,g2⟩:=bi_t (b:=Nat.blt x.2.1 N) g
    obtain⟨g2,g3⟩:=bi_t (b:=scV N x.2.2) g2
    rcases List.mem_cons.mp he with rfl|he
    .exact⟨lt_e g1,scV_e g2⟩
    .exact ih g3 e he
  exact⟨this h1,lt_e h2⟩
 case dS o kvs=>
  obtain⟨h1,h2⟩:=bi_t h
  exact⟨λp hp=>scV_e (all_e (f:=λe:Nat×V=>scV N e.2) h1 p hp),lt_e h2⟩
 case dI o kvs=>
  obtain⟨h1,h2⟩:=bi_t h
  exact⟨λp hp=>scV_e (all_e (f:=λe:Nat×V=>scV N e.2) h1 p hp),lt_e h2⟩
 case dK o kn=>
  obtain⟨h1,h2⟩:=bi_t h
  refine⟨λp hp v hv=>?_,lt_e h2⟩
  have:=all_e (f:=λe:Nat×Option V=>Option.rec (motive:=λ_=>Bool) true (λv=>scV N v) e.2) h1 p hp
  rw[show p.2=some v from hv]at this
  exact scV_e this
 case dT o b sd ops kn=>
  obtain⟨rfl,h⟩:=nilB_e h
  obtain⟨rfl,h⟩:=nilB_e h
  exact mkAA (λ_ h=>nomatch h) (λ_ h=>nomatch h) (lt_e h)
 case scr=>exact lt_e h
 case spt=>exact lt_e h
 case cel o x=>
  obtain⟨h1,h2⟩:=bi_t h
  refine⟨λv hv=>?_,lt_e h2⟩
  cases hv
  exact scV_e h1
 case flt=>exact ff h
 case fld=>exact ff h
theorem alkV_ok{v u:V}{Γ:Fx prog w}{σ:S}{h:Heap}(R:Rl Γ ρ σ h)(g:alkB v u=true):AlkV (iv ρ v) (iv ρ u):=by
 rcases bi_e (b:=sameV v u) g with⟨e,-⟩|⟨-,g⟩
 .exact .inl ⟨by rw[sameV_e e],handed_iv R⟩
 .cases v<;>first|exact ff g|skip
  .cases u<;>first|exact ff g|skip
   exact .inr ⟨_,_,_,rfl,by rw[Nat.eq_of_beq_eq_true g];rfl⟩
  .cases u<;>first|exact ff g|skip
   exact .inr ⟨_,_,_,rfl,by rw[Nat.eq_of_beq_eq_true g];rfl⟩
theorem st3_alk{l:List (Int×Value×Value)}{j:Int}{v u:Value}(h:∀e∈l,AlkV e.2.1 e.2.2)(hv:AlkV v u):∀e∈st3 l j v u,AlkV e.2.1 e.2.2:=by
 intro e he
 unfold st3 at he
 split at he
 .refine elEA (λx hx r381=>?_)<|List.mem_map.mp he;subst r381
  split
  .exact hv
  .exact h x hx
 .rcases List.mem_append.mp he with he|he
  .exact h e he
  .rw[List.mem_singleton]at he;subst he;exact hv
theorem dOf_alk{Γ:Fx prog w}{σ:S}{h:Heap}(R:Rl Γ ρ σ h){x:Option Nat×List (Nat×V×V)}(g:alkP x.2=true):∀e∈dOf ρ x,AlkV e.2.1 e.2.2:=by
 obtain⟨b,ps⟩:=x
 show∀e∈ps.foldr _ _,_
 induction ps with
 |nil=>
  intro e he
  rcases b with _|b
  .exact absurd (show e∈([]:List (Int×Value×Value))from he) List.not_mem_nil
  .exact(R.dd b).2 e he
 |cons p ps ih=>
  obtain⟨g1,g2⟩:=cd_e (b:=alkB p.2.1 p.2.2) g
  exact st3_alk (ih g2) (alkV_ok R g1)
theorem alkM_e{ds:List (Nat×Option Nat×List (Nat×V×V))}(g:alkM ds=true):∀d∈ds,alkP d.2.2=true:=by
 induction ds with
 |nil=>exact λ_ h=>nomatch h
 |cons x ds ih=>
  obtain⟨g1,g2⟩:=cd_e (b:=alkP x.2.2) g
  intro d hd
  rcases List.mem_cons.mp hd with rfl|hd
  .exact g1
  .exact ih g2 d hd
theorem vsL_e{vs:List (Nat×V)}:∀{l:List (Nat×V)} {p:Nat×V},p∈(List.rec (motive:=λ_=>List (Nat×V)) [] (λp _ ih=>oeL (lk vs p.1) p.1 ih) l)->lk vs p.1=some p.2
 |[],p,h=>absurd (show p∈([]:List (Nat×V))from h) List.not_mem_nil
 |q::l,p,h=>by
  have h:p∈oeL (lk vs q.1) q.1 (List.rec (motive:=λ_=>List (Nat×V)) [] (λp _ ih=>oeL (lk vs p.1) p.1 ih) l):=h
  rcases e:lk vs q.1 with _|v
  .rw[e]at h;exact vsL_e (l:=l) h
  .rw[e]at h
   rcases List.mem_cons.mp (show p∈(q.1,v)::_ from h)with rfl|h
   .exact e
   .exact vsL_e (l:=l) h
theorem ads_inj{hp:Hp}(nd:(ads (led w ρ hp)).Nodup):∀{n m:Nat} {o o':O},(n,o)∈hp->(m,o')∈hp->ρ.num n=ρ.num m->n=m:=by
 have e:ads (led w ρ hp)=hp.map λp=>ρ.num p.1:=by unfold ads led;rw[List.map_map];rfl
 rw[e]at nd
 clear e
 induction hp with
 |nil=>intro n m o o' h _ _;exact absurd h List.not_mem_nil
 |cons p hp ih=>
  obtain⟨n1,n2⟩:=List.nodup_cons.mp nd
  intro n m o o' h1 h2 eq
  rcases List.mem_cons.mp h1 with e1|i1<;>rcases List.mem_cons.mp h2 with e2|i2
  .rw[←e1]at e2;exact(congrArg Prod.fst e2).symm
  .subst e1;exact absurd (List.mem_map.mpr ⟨_,i2,eq.symm⟩) n1
  .subst e2;exact absurd (List.mem_map.mpr ⟨_,i1,eq⟩) n1
  .exact ih n2 i1 i2 eq
theorem map_fst{M:Mp}:∀{l:Hp},(List.rec (motive:=λ_=>List Nat) [] (λp _ ih=>fo M p.1::ih) l)=l.map λp=>fo M p.1
 |[]=>rfl
 |p::l=>congrArg (fo M p.1::·) (map_fst (l:=l))
theorem gen_ok(hS:St Γ)(R:Rl Γ ρ σ h)(g:genB M c σ=true)(st:stB c=true)(hci:∀i n,lk Γ.ci i=some n->evn n=true/\fo M n=n/\n<c.nx)
 (bL:∀i ss,lk M.ls i=some ss->(sgs ρ ss).length<=90)(bD:∀b x,lk M.ds b=some x->(dOf ρ x).length<=90):
 ∃ρ',Rl Γ ρ' c h/\ρ'.g=ρ.g/\Gr ρ ρ' M/\∀i,i<c.nx->mem i (app (tkH c.hp) (tkK c.vs))=false->ρ'.num i=ρ.num (bi (evn i) (fo M i) i)/\ρ'.obj i=ρ.obj (bi (evn i) (fo M i) i):=by
 obtain⟨st1,st2⟩:=bi_t st
 obtain⟨st2,st3'⟩:=bi_t st2
 refine elEAAA (λB1 g e1 o1 h1=>?_)<|mK_ok g
 refine elEAAA (λB2 g e2 o2 h2=>?_)<|mH_ok (prog:=prog) (w:=w) g
 obtain⟨nd,ga⟩:=cd_e g
 rw[map_fst]at nd
 have nd:=nodB_ok nd
 obtain⟨ev2,h2⟩:=h2
 let F:=B2++B1
 have eF:F.map (·.1)=app (tkH c.hp) (tkK c.vs):=by rw[app_eq,List.map_append,e1,e2]
 have ndF:(F.map (·.1)).Nodup:=by rw[eF];exact nodB_ok st1
 have oF:∀p∈F,odd p.1=true:=λp hp=>(List.mem_append.mp hp).elim (o2 p) (o1 p)
 have scH:∀p∈c.hp,p.1<c.nx/\p.2.sc c.nx:=by
  have:∀{l:Hp},(List.rec (motive:=λ_=>Bool) true (λp _ ih=>bi (Nat.blt p.1 c.nx) (bi (scO c.nx p.2) ih false) false) l)=true->∀p∈l,p.1<c.nx/\p.2.sc c.nx:=by
   intro l
   induction l with
   |nil=>exact λ_ _ h=>nomatch h
   |cons x l ih=>
    intro g p hp
    obtain⟨g1,g2⟩:=bi_t (b:=Nat.blt x.1 c.nx) g
    obtain⟨g2,g3⟩:=bi_t (b:=scO c.nx x.2) g2
    rcases List.mem_cons.mp hp with rfl|hp
    .exact⟨lt_e g1,scO_e g2⟩
    .exact ih g3 p hp
  exact this st2
 have scVs:∀p∈c.vs,p.2.sc c.nx:=λp hp=>scV_e (all_e (f:=λp:Nat×V=>scV c.nx p.2) st3' p hp)
 have wlt:∀p∈F,p.1<c.nx:=by
  have w1:∀{v:V},v.sc c.nx->∀t∈tkV v,t<c.nx:=λ{v} hv t ht=>by
   cases v<;>first|(rw[List.mem_singleton.mp ht];exact hv)|exact absurd (show t∈([]:List Nat)from ht) List.not_mem_nil
  have w2:∀{l:List (Nat×V)},(∀p∈l,p.2.sc c.nx)->∀t∈tkK l,t<c.nx:=by
   intro l
   induction l with
   |nil=>exact λ_ _ h=>nomatch h
   |cons x l ih=>
    intro hs t ht
    have ht:t∈app (tkK l) (tkV x.2):=ht
    rw[app_eq]at ht
    exact(List.mem_append.mp ht).elim (ih (λp hp=>hs p (.tail _ hp)) t) (w1 (hs x (.head _)) t)
  have w3:∀{o:O},o.sc c.nx->∀t∈tkOb o,t<c.nx:=λ{o} ho t ht=>by
   cases o
   case list ss n=>
    rcases List.mem_cons.mp ht with rfl|ht
    .exact ho.2
    have:∀{l:List Sg},(∀s∈l,s.sc c.nx)->∀t∈tkS l,t<c.nx:=by
     intro l
     induction l with
     |nil=>exact λ_ _ h=>nomatch h
     |cons x l ih=>
      intro hs t ht
      rcases x with v|i
      .have ht:t∈app (tkS l) (tkV v):=ht
       rw[app_eq]at ht
       exact(List.mem_append.mp ht).elim (ih (λp hp=>hs p (.tail _ hp)) t) (w1 (hs _ (.head _)) t)
      .exact ih (λp hp=>hs p (.tail _ hp)) t ht
    exact this ho.1 t ht
   case tup vs n=>
    rcases List.mem_cons.mp ht with rfl|ht
    .exact ho.2
    have:∀{l:List V},(∀s∈l,s.sc c.nx)->∀t∈tkVs l,t<c.nx:=by
     intro l
     induction l with
     |nil=>exact λ_ _ h=>nomatch h
     |cons v l ih=>
      intro hs t ht
      have ht:t∈app (tkVs l) (tkV v):=ht
      rw[app_eq]at ht
      exact(List.mem_append.mp ht).elim (ih (λp hp=>hs p (.tail _ hp)) t) (w1 (hs _ (.head _)) t)
    exact this ho.1 t ht
   case inst=>exact absurd (show t∈([]:List Nat)from ht) List.not_mem_nil
   case attrs es n=>
    rcases List.mem_cons.mp ht with rfl|ht
    .exact ho.2
    have:∀{l:List (Nat×Nat×V)},(∀e∈l,e.2.1<c.nx/\e.2.2.sc c.nx)->∀t∈tkE l,t<c.nx:=by
     intro l
     induction l with
     |nil=>exact λ_ _ h=>nomatch h
     |cons x l ih=>
      intro hs t ht
      have ht:t∈app (tkE l) (app (tkV x.2.2) [x.2.1]):=ht
      rw[app_eq,app_eq]at ht
      rcases List.mem_append.mp ht with ht|ht
      .exact ih (λp hp=>hs p (.tail _ hp)) t ht
      rcases List.mem_append.mp ht with ht|ht
      .exact w1 (hs _ (.head _)).2 t ht
      .rw[List.mem_singleton.mp ht];exact(hs _ (.head _)).1
    exact this ho.1 t ht
   case dS o kvs=>
    rcases List.mem_cons.mp ht with rfl|ht
    .exact ho.2
    .exact w2 ho.1 t ht
   case dI o kvs=>
    rcases List.mem_cons.mp ht with rfl|ht
    .exact ho.2
    .exact w2 ho.1 t ht
   case dK o kn=>
    rcases List.mem_cons.mp ht with rfl|ht
    .exact ho.2
    have:∀{l:List (Nat×Option V)},(∀p∈l,∀v∈p.2,v.sc c.nx)->∀t∈tkN l,t<c.nx:=by
     intro l
     induction l with
     |nil=>exact λ_ _ h=>nomatch h
     |cons x l ih=>
      intro hs t ht
      have ht:t∈app (tkN l) (tkO x.2):=ht
      rw[app_eq]at ht
      rcases List.mem_append.mp ht with ht|ht
      .exact ih (λp hp=>hs p (.tail _ hp)) t ht
      obtain⟨j,y⟩:=x
      rcases y with _|v
      .exact absurd (show t∈([]:List Nat)from ht) List.not_mem_nil
      .exact w1 (hs _ (.head _) v rfl) t ht
    exact this ho.1 t ht
   case dT o b sd ops kn=>rw[List.mem_singleton.mp ht];exact ho.2.2
   case scr=>rw[List.mem_singleton.mp ht];exact ho
   case spt=>rw[List.mem_singleton.mp ht];exact ho
   case cel o x=>
    rcases List.mem_cons.mp ht with rfl|ht
    .exact ho.2
    rcases x with _|v
    .exact absurd (show t∈([]:List Nat)from ht) List.not_mem_nil
    .exact w1 (ho.1 v rfl) t ht
   case flt=>exact absurd (show t∈([]:List Nat)from ht) List.not_mem_nil
   case fld=>exact absurd (show t∈([]:List Nat)from ht) List.not_mem_nil
  have w4:∀{l:Hp},(∀p∈l,p.2.sc c.nx)->∀t∈tkH l,t<c.nx:=by
   intro l
   induction l with
   |nil=>exact λ_ _ h=>nomatch h
   |cons x l ih=>
    intro hs t ht
    have ht:t∈app (tkH l) (tkOb x.2):=ht
    rw[app_eq]at ht
    exact(List.mem_append.mp ht).elim (ih (λp hp=>hs p (.tail _ hp)) t) (w3 (hs x (.head _)) t)
  intro p hp
  have:=List.mem_map_of_mem (f:=λx:Nat×Nat=>x.1) hp
  rw[eF,app_eq]at this
  exact(List.mem_append.mp this).elim (w4 (λp hp=>(scH p hp).2) _) (w2 scVs _)
 have G:Gr ρ (gRho M F ρ c.nx) M:=⟨λn hn hv=>by
  rw[gRho_n]at hn
  rw[gRho_num hn];unfold gIx;rw[hv];rfl,λ_=>rfl,λ_=>rfl,λ_=>rfl,λ_=>rfl⟩
 have A:At ρ (gRho M F ρ c.nx) F:=λp hp=>by
  have hi:=wlt p hp
  have e:gIx M F p.1=p.2:=by unfold gIx;rw[ev_od (oF p hp),lk_nd ndF hp];rfl
  rw[gRho_num hi,gRho_obj hi,e];exact⟨rfl,rfl⟩
 have H:=h2 ρ (gRho M F ρ c.nx) G (λp hp=>by rw[gRho_n];exact(scH p hp).2) A.l
 have N:=h1 ρ (gRho M F ρ c.nx) G (λp hp=>by rw[gRho_n];exact scVs p hp) A.r
 refine elEA (λm Fm cv=>?_)<|R.fr
 have cvs:=(hS.cv _ _ _).mp cv
 have hnum:∀p∈c.hp,(gRho M F ρ c.nx).num p.1=ρ.num (fo M p.1):=λp hp=>G.n p.1 (by rw[gRho_n];exact(scH p hp).1) (ev2 p hp)
 have sub:∀q∈led w (gRho M F ρ c.nx) c.hp,q∈led w ρ σ.hp:=λq hq=>by
  refine elEA (λp hp r382=>?_)<|List.mem_map.mp hq;subst r382
  refine elEAA (λo ho hio z383=>?_)<|H p hp;clear z383
  rw[hnum p hp,hio]
  exact led_mem ho
 have ndl:=(sel_fst (l:=led w ρ σ.hp)).nd R.nd
 refine mkEAAA (gRho M F ρ c.nx) ⟨⟨gRho_n,λp hp=>?_,λp hp=>?_,λp hp=>?_,λi=>?_,λi=>?_,λi=>?_,λb=>?_⟩,⟨R.kn,R.tp,R.bl,R.kt⟩,⟨m,Fm,(hS.cv _ _ _).mpr ⟨λi v hl=>?_,λi n a b=>?_⟩⟩,λq hq=>?_,?_⟩ rfl G (λi hi hm=>?_)
 .refine elEAA (λo ho z384 hok=>?_)<|H p hp;clear z384
  rw[hnum p hp]
  exact hok _ (R.oko ho)
 .rw[gRho_n];exact scH p hp
 .rw[gRho_n];exact scVs p hp
 .show handedIn (Option.rec (motive:=λ_=>Value) _ _ (lk M.xs i))=true
  rcases lk M.xs i with _|u
  .exact R.hx i
  .exact handed_iv R
 .show(Option.rec (motive:=λ_=>List Value) _ _ (lk M.ls i)).length<=90
  rcases e:lk M.ls i with _|ss
  .exact R.ll i
  .exact bL i ss e
 .show∀v∈(Option.rec (motive:=λ_=>List Value) (ρ.L i) (λss=>sgs ρ ss) (lk M.ls i):List Value),_
  rcases lk M.ls i with _|ss
  .exact R.lh i
  .intro v hv
   refine elEA (λs hs hv=>?_)<|List.mem_flatMap.mp hv
   rcases s with u|j
   .rw[List.mem_singleton.mp hv];exact handed_iv R
   .exact R.lh j v hv
 .show(Option.rec (motive:=λ_=>List (Int×Value×Value)) _ _ (lk M.ds b)).length<=90/\∀e∈(Option.rec (motive:=λ_=>List (Int×Value×Value)) (ρ.D b) (λx=>dOf ρ x) (lk M.ds b):List (Int×Value×Value)),_
  rcases e:lk M.ds b with _|x
  .exact R.dd b
  .exact⟨bD b x e,dOf_alk R (alkM_e ga _ (lk_mem e))⟩
 .have e:(lk c.vs i).map (iv (gRho M F ρ c.nx))=lk (kvI ρ (List.rec (motive:=λ_=>List (Nat×V)) [] (λp _ ih=>oeL (lk σ.vs p.1) p.1 ih) c.vs)) i:=by rw[kvI_lk,N]
  rw[hl]at e
  have hm:=lk_mem e.symm
  refine elEA (λp hp e3=>?_)<|List.mem_map.mp hm
  have e4:p.1=i:=congrArg Prod.fst e3
  have e5:iv ρ p.2=iv (gRho M F ρ c.nx) v:=congrArg Prod.snd e3
  have:=cvs.1 p.1 p.2 (vsL_e hp)
  rw[e4,e5]at this
  exact this
 .refine elAA (λc1 c2 c3=>?_)<|hci i n b
  refine⟨by rw[gRho_n];exact c3,?_⟩
  rw[G.n n (by rw[gRho_n];exact c3) c1,c2]
  exact(cvs.2 i n a b).2
 .rcases List.mem_append.mp hq with hq|hq
  .exact R.nw q (List.mem_append_left _ (sub q hq))
  .exact R.nw q (List.mem_append_right _ hq)
 .refine nd_app ?_ ndl.2.1 λq hq x hx=>ndl.2.2 q (sub q hq) x hx
  have e:ads (led w (gRho M F ρ c.nx) c.hp)=(c.hp.map λp=>fo M p.1).map ρ.num:=by
   unfold ads led
   rw[List.map_map,List.map_map]
   exact List.map_congr_left λp hp=>hnum p hp
  rw[e]
  refine List.pairwise_map.mpr (nd.imp_of_mem λ{a b} ha hb hab eq=>hab ?_)
  refine elEA (λp hp r385=>?_)<|List.mem_map.mp ha;subst r385
  refine elEA (λq hq r386=>?_)<|List.mem_map.mp hb;subst r386
  refine elEA (λo ho z387=>?_)<|H p hp;clear z387
  refine elEA (λo' ho' z388=>?_)<|H q hq;clear z388
  exact ads_inj ndl.1 (lk_mem ho) (lk_mem ho') eq
 .rw[gRho_num hi,gRho_obj hi]
  have e:gIx M F i=bi (evn i) (fo M i) i:=by
   unfold gIx
   have:lk F i=none:=by
    rcases q:lk F i with _|j
    .rfl
    .have:=List.mem_map_of_mem (f:=λx:Nat×Nat=>x.1) (lk_mem q)
     rw[eF]at this
     rw[mem_eq.mpr this]at hm;cases hm
   rw[this]
  rw[e];exact⟨rfl,rfl⟩
end
end Mine.Q
namespace Mine.Q
section
variable{prog:Program}{w:World}{Γ:Fx prog w}{ρ ρ' ρ2:Rho}{I:Nat->Bool}{σ c:S}{h:Heap}{hp hpA hpB:Hp}{vs:List (Nat×V)}{nx:Nat}
noncomputable def Same(ρ ρ':Rho)(I:Nat->Bool):Prop:=∀i,I i=true->ρ'.num i=ρ.num i/\ρ'.obj i=ρ.obj i/\ρ'.X i=ρ.X i/\ρ'.T i=ρ.T i/\ρ'.L i=ρ.L i/\ρ'.D i=ρ.D i
theorem Same.trans(h:Same ρ ρ' I)(h':Same ρ' ρ2 I):Same ρ ρ2 I:=λi hi=>by
 refine elAAAAA (λa b c d e f=>?_)<|h i hi
 refine elAAAAA (λa' b' c' d' e' f'=>?_)<|h' i hi
 exact mkAAAAA (a'.trans a) (b'.trans b) (c'.trans c) (d'.trans d) (e'.trans e) (f'.trans f)
theorem Same.pre(x:Pre ρ ρ')(hI:∀i,I i=true->i<ρ.n):Same ρ ρ' I:=λi hi=>
 ⟨x.num (hI i hi),x.obj (hI i hi),congrFun x.2.1 i,congrFun x.2.2.1 i,congrFun x.2.2.2.1 i,congrFun x.2.2.2.2 i⟩
theorem allB_e{α:Type}{f:α->Bool}{l:List α}(h:allB f l=true):∀a∈l,f a=true:=all_e h
theorem same_lns(H:Same ρ ρ' I):∀{as:List Nat},allB I as=true->lns ρ' as=lns ρ as
 |[],_=>rfl
 |a::as,h=>by
  obtain⟨h1,h2⟩:=bi_t (b:=I a) h
  rw[lns_cons,lns_cons,same_lns H (as:=as) h2,(H a h1).2.2.2.2.1]
theorem same_iv(H:Same ρ ρ' I){v:V}(h:iV I v=true):iv ρ' v=iv ρ v:=by
 cases v
 case int as c t=>
  obtain⟨h1,h2⟩:=bi_t (b:=allB I as) h
  show Value.int _ _=Value.int _ _
  rw[same_lns H h1,(H t h2).1]
 case str i t=>exact congrArg (Value.str (nm i)) (H t h).1
 case ref n=>exact congrArg Value.ref (H n h).1
 case opq i=>exact(H i h).2.2.1
 case sat i t=>
  obtain⟨h1,h2⟩:=bi_t (b:=I i) h
  show Value.str _ _=Value.str _ _
  rw[(H i h1).2.2.2.1,(H t h2).1]
 all_goals rfl
theorem same_ivs(H:Same ρ ρ' I){vs:List V}(h:allB (λv=>iV I v) vs=true):ivs ρ' vs=ivs ρ vs:=List.map_congr_left λv hv=>same_iv H (allB_e h v hv)
theorem same_sgs(H:Same ρ ρ' I):∀{ss:List Sg},allB (λs=>iG I s) ss=true->sgs ρ' ss=sgs ρ ss
 |[],_=>rfl
 |s::ss,h=>by
  obtain⟨h1,h2⟩:=bi_t (b:=iG I s) h
  show sv ρ' s++sgs ρ' ss=sv ρ s++sgs ρ ss
  rw[same_sgs H (ss:=ss) h2]
  rcases s with v|i
  .show[iv ρ' v]++_=[iv ρ v]++_;rw[same_iv H h1]
  .show ρ'.L i++_=ρ.L i++_;rw[(H i h1).2.2.2.2.1]
theorem same_opt(H:Same ρ ρ' I){o:Option V}(h:iP I o=true):o.map (iv ρ')=o.map (iv ρ):=by
 rcases o with _|v
 .rfl
 .exact congrArg some (same_iv H h)
theorem same_io(H:Same ρ ρ' I){o:O}(h:iO I o=true):io w ρ' o=io w ρ o:=by
 cases o
 case list ss n=>
  obtain⟨h1,h2⟩:=bi_t h
  show listOf _ _=listOf _ _
  rw[same_sgs H h1,(H n h2).1]
 case tup vs n=>
  obtain⟨h1,h2⟩:=bi_t h
  show tupo _ _=tupo _ _
  rw[same_ivs H h1,(H n h2).1]
 case inst C d=>exact congrArg (instObj C) (H d h).1
 case attrs es n=>
  obtain⟨h1,h2⟩:=bi_t h
  show dictOf _ _=dictOf _ _
  rw[(H n h2).1,show es.map (entry w ρ')=es.map (entry w ρ)from List.map_congr_left λe he=>by
   obtain⟨a,b⟩:=bi_t (allB_e h1 e he)
   unfold entry;rw[(H _ a).1,same_iv H b]]
 case dS o kvs=>exact(H o (bi_t h).2).2.1
 case dI o kvs=>exact(H o (bi_t h).2).2.1
 case dK o kn=>exact(H o (bi_t h).2).2.1
 case dT o b sd ops kn=>exact(H o (bi_t (bi_t (bi_t h).2).2).1).2.1
 case scr o=>exact(H o h).2.1
 case spt o b=>exact(H o h).2.1
 case cel o x=>exact(H o (bi_t h).2).2.1
 case flt=>exact ff h
 case fld=>exact ff h
theorem same_ok(H:Same ρ ρ' I){a:Addr}{o:O}(h:iO I o=true)(K:okO prog w ρ a o):okO prog w ρ' a o:=by
 have kvm:∀{kvs:List (Nat×V)},allB (λe=>iV I e.2) kvs=true->∀j,(lk kvs j).map (iv ρ')=(lk kvs j).map (iv ρ):=λh j=>by
  rcases q:lk _ j with _|v
  .rfl
  .exact congrArg some (same_iv H (allB_e h _ (lk_mem q)))
 cases o
 case dS o kvs=>
  obtain⟨h1,h2⟩:=bi_t h
  obtain⟨⟨l,k1,k2,k3⟩,k4⟩:=K
  exact⟨⟨l,by rw[(H o h2).2.1];exact k1,k2,λj=>by rw[k3,kvm h1]⟩,k4⟩
 case dI o kvs=>
  obtain⟨h1,h2⟩:=bi_t h
  refine⟨?_,K.2⟩
  rw[(H o h2).2.1,show kvs.map (λp=>((p.1:Int),iv ρ' p.2))=kvs.map (λp=>((p.1:Int),iv ρ p.2))from List.map_congr_left λp hp=>by rw[same_iv H (allB_e h1 p hp)]]
  exact K.1
 case dK o kn=>
  obtain⟨h1,h2⟩:=bi_t h
  obtain⟨⟨l,k1,k2⟩,k3⟩:=K
  exact⟨⟨l,by rw[(H o h2).2.1];exact k1,λp hp=>by rw[k2 p hp,same_opt H (allB_e h1 p hp)]⟩,k3⟩
 case dT o b sd ops kn=>
  obtain⟨h1,h⟩:=bi_t h
  obtain⟨h2,h⟩:=bi_t h
  obtain⟨h3,h4⟩:=bi_t h
  refine elAA (λk1 k2 k3=>?_) K;clear K
  have eb:bsT ρ' b sd=bsT ρ b sd:=by unfold bsT;rw[(H b h4).2.2.2.2.2]
  have et:∀{ops:List (Nat×V)},allB (λe=>iV I e.2) ops=true->tabT ρ' b sd ops=tabT ρ b sd ops:=by
   intro ops
   induction ops with
   |nil=>exact λ_=>eb
   |cons p ops ih=>
    intro h
    obtain⟨g1,g2⟩:=bi_t (b:=iV I p.2) h
    show stored (tabT ρ' b sd ops) _ _=stored (tabT ρ b sd ops) _ _
    rw[ih g2,same_iv H g1]
  exact mkAA (by rw[(H o h3).2.1,et h1];exact k1) (λp hp=>by rw[eb,k2 p hp,same_opt H (allB_e h2 p hp)]) k3
 case scr o=>show∃_ _ _,_;rw[(H o h).2.1];exact K
 case spt o b=>show∃_ _ _,_;rw[(H o h).2.1];exact K
 case cel o x=>
  obtain⟨h1,h2⟩:=bi_t h
  show(ρ'.obj o).data=.cell (x.map (iv ρ'))
  rw[(H o h2).2.1,same_opt H h1];exact K
 case flt=>exact ff h
 case fld=>exact ff h
 all_goals trivial
structure Blk(prog:Program)(w:World)(ρ:Rho)(hp:Hp):Prop where
 ok:∀p∈hp,okO prog w ρ (ρ.num p.1) p.2
 so:∀p∈hp,p.1<ρ.n/\p.2.sc ρ.n
theorem Blk.same(B:Blk prog w ρ hp)(H:Same ρ ρ' I)(hi:iH I hp=true)(hn:ρ.n<=ρ'.n):Blk prog w ρ' hp/\led w ρ' hp=led w ρ hp:=by
 have h1:∀p∈hp,I p.1=true/\iO I p.2=true:=λp hp=>bi_t (allB_e hi p hp)
 exact⟨⟨λp hp=>by rw[(H _ (h1 p hp).1).1];exact same_ok H (h1 p hp).2 (B.ok p hp),λp hp=>⟨Nat.lt_of_lt_of_le (B.so p hp).1 hn,(B.so p hp).2.up hn⟩⟩,
  List.map_congr_left λp hp=>by rw[(H _ (h1 p hp).1).1,same_io H (h1 p hp).2]⟩
theorem Blk.nf(B:Blk prog w ρ hp)(hi:iH I hp=true):NFs (led w ρ hp):=λq hq=>by
 refine elEA (λp hp r389=>?_)<|List.mem_map.mp hq;subst r389
 exact nf_o (B.ok p hp) λo d e=>by
  have:=(bi_t (allB_e hi p hp)).2
  rw[e]at this
  exact ff this
noncomputable def Fx.rs(Γ:Fx prog w)(r:Lg)(nf:NFs r):Fx prog w:={Γ with rest:=r,nf:=nf}
theorem take_out{nf:NFs (led w ρ hpB++Γ.rest)}(R:Rl Γ ρ ⟨hpA++hpB,vs,nx⟩ h):Rl (Γ.rs (led w ρ hpB++Γ.rest) nf) ρ ⟨hpA,vs,nx⟩ h/\Blk prog w ρ hpB:=by
 have e:led w ρ (hpA++hpB)++(Γ.rest++Γ.its)=led w ρ hpA++((led w ρ hpB++Γ.rest)++Γ.its):=by unfold led;rw[List.map_append];simp only[List.append_assoc]
 refine elEA (λm F cv=>?_)<|R.fr
 refine⟨⟨⟨R.ln,λp hp=>R.ok p (List.mem_append_left _ hp),λp hp=>R.so p (List.mem_append_left _ hp),R.sv,R.hx,R.ll,R.lh,R.dd⟩,⟨R.kn,R.tp,R.bl,R.kt⟩,⟨m,F,Γ.cx _ _ _ _ _ .refl R.sv rfl cv⟩,?_,?_⟩,⟨λp hp=>R.ok p (List.mem_append_right _ hp),λp hp=>R.so p (List.mem_append_right _ hp)⟩⟩
 .show News _ _ _ (led w ρ hpA++((led w ρ hpB++Γ.rest)++Γ.its));rw[←e];exact R.nw
 .show(ads (led w ρ hpA++((led w ρ hpB++Γ.rest)++Γ.its))).Nodup;rw[←e];exact R.nd
theorem put_in{l:Lg}{nf:NFs (l++Γ.rest)}(R:Rl (Γ.rs (l++Γ.rest) nf) ρ ⟨hpA,vs,nx⟩ h)(B:Blk prog w ρ hpB)(el:led w ρ hpB=l):Rl Γ ρ ⟨hpA++hpB,vs,nx⟩ h:=by
 have e:led w ρ (hpA++hpB)++(Γ.rest++Γ.its)=led w ρ hpA++((l++Γ.rest)++Γ.its):=by rw[←el];unfold led;rw[List.map_append];simp only[List.append_assoc]
 refine elEA (λm F cv=>?_)<|R.fr
 refine⟨⟨R.ln,λp hp=>(List.mem_append.mp hp).elim (R.ok p) (B.ok p),λp hp=>(List.mem_append.mp hp).elim (R.so p) (B.so p),R.sv,R.hx,R.ll,R.lh,R.dd⟩,⟨R.kn,R.tp,R.bl,R.kt⟩,⟨m,F,Γ.cx _ _ _ _ _ .refl R.sv rfl cv⟩,?_,?_⟩
 .show News _ _ _ (led w ρ (hpA++hpB)++(Γ.rest++Γ.its));rw[e];exact R.nw
 .show(ads (led w ρ (hpA++hpB)++(Γ.rest++Γ.its))).Nodup;rw[e];exact R.nd
theorem Rl.perm(R:Rl Γ ρ ⟨hpA,vs,nx⟩ h)(p:List.Perm hpA hpB):Rl Γ ρ ⟨hpB,vs,nx⟩ h:=by
 refine elEA (λm F cv=>?_)<|R.fr
 have e:List.Perm (Γ.lg ρ ⟨hpA,vs,nx⟩) (Γ.lg ρ ⟨hpB,vs,nx⟩):=(p.map _).append_right _
 exact⟨⟨R.ln,λq hq=>R.ok q (p.mem_iff.mpr hq),λq hq=>R.so q (p.mem_iff.mpr hq),R.sv,R.hx,R.ll,R.lh,R.dd⟩,⟨R.kn,R.tp,R.bl,R.kt⟩,⟨m,F,Γ.cx _ _ _ _ _ .refl R.sv rfl cv⟩,news_perm R.nw e,nd_perm R.nd e⟩
theorem Rl.view(hS:St Γ)(R:Rl Γ ρ σ h)(hn:ρ'.n=c.nx)(hg:ρ'.g=ρ.g)(el:List.Perm (led w ρ σ.hp) (led w ρ' c.hp))(B:Blk prog w ρ' c.hp)(hsv:∀p∈c.vs,p.2.sc ρ'.n)(hx:∀i,handedIn (ρ'.X i)=true)(ll:∀i,(ρ'.L i).length<=90)(lh:∀i,∀v∈ρ'.L i,handedIn v=true)
 (dd:∀i,(ρ'.D i).length<=90/\∀e∈ρ'.D i,AlkV e.2.1 e.2.2)(hv:∀i v,lk c.vs i=some v->∃u,lk σ.vs i=some u/\iv ρ u=iv ρ' v)(hci:∀i n,lk Γ.ci i=some n->n<ρ'.n/\ρ'.num n=ρ.num n):Rl Γ ρ' c h:=by
 refine elEA (λm F cv=>?_)<|R.fr
 have cvs:=(hS.cv _ _ _).mp cv
 have e:List.Perm (Γ.lg ρ σ) (Γ.lg ρ' c):=el.append_right _
 refine⟨⟨hn,B.ok,B.so,hsv,hx,ll,lh,dd⟩,⟨by rw[hg];exact R.kn,by rw[hg];exact R.tp,by rw[hg];exact R.bl,λt=>by rw[hg];exact R.kt t⟩,⟨m,by rw[hg];exact F,(hS.cv _ _ _).mpr ⟨λi v hl=>?_,λi n a b=>?_⟩⟩,?_,?_⟩
 .refine elEA (λu h1 h2=>?_)<|hv i v hl
  rw[←h2];exact cvs.1 i u h1
 .obtain⟨c1,c2⟩:=hci i n b
  exact⟨c1,by rw[c2];exact(cvs.2 i n a b).2⟩
 .show News ρ'.g _ _ _;rw[hg];exact news_perm R.nw e
 .exact nd_perm R.nd e
theorem execs_app{A:Around}{l r:List Stmt}{env:Env}{Q:Flow->Shared->Prop}{E:Value->Shared->Prop}{s:Shared}(h:wpAny (model prog w) A (execs l env) (λf s'=>match f with|.next=>wpAny (model prog w) A (execs r env) Q E s'|f=>Q f s') E s):wpAny (model prog w) A (execs (l++r) env) Q E s:=by
 intro C p hC
 have main:∀(l:List Stmt) p s,Sem.wp (model prog w) C (execs l env) (λf p' s'=>match f with|.next=>wpAny (model prog w) A (execs r env) Q E s'|f=>Q f s') (λe _ s'=>E e s') p s->Sem.wp (model prog w) C (execs (l++r) env) (λf _ s'=>Q f s') (λe _ s'=>E e s') p s:=by
  intro l
  induction l with
  |nil=>
   intro p s h
   rw[show execs [] env=pure Flow.next from by rw[execs],Sem.wp_pure']at h
   exact h C p hC
  |cons a l ih=>
   intro p s h
   rw[List.cons_append,execs_cons,Sem.wp_bind']
   rw[execs_cons,Sem.wp_bind']at h
   refine Sem.wp_mono _ C _ (λf p' s' h'=>?_) (λ_ _ _ h'=>h') _ _ h
   cases f
   .exact ih _ _ h'
   all_goals exact h'
 exact main l p s (h C p hC)
end
end Mine.Q
namespace Mine.Q
inductive US where
 |ab|sp|pa|di
noncomputable def pLaw:Pm:=⟨cL 12 430,430,[(56,0)],λ_ _ _=>false⟩
noncomputable def cel(x:Option V):Hp:=[(0,.cel 1 x)]
noncomputable def scp:Hp:=[(2,.scr 5),(4,.spt 7 0)]
noncomputable def bas(inp inb:List Sg)(ud bd:O):Hp:=[(10,.inst 345 12),(12,.attrs [(31,13,.ref 14),(29,15,.int [50] 0 17),(28,19,.ref 16),(21,21,.opq 53),(20,23,.ref 18),(32,25,.opq 54)] 27),(14,.list inp 29),(16,.list [.sg 52] 31),(18,ud),(20,.dS 35 [(72,.ref 22),(28,.ref 24),(20,.ref 26)]),(22,.list inb 37),(24,.list [.sg 52] 39),(26,bd)]
noncomputable def usl(k a:Nat)(s:US)(r:List (Nat×V)):List (Nat×V):=US.rec r ((k,.ref a)::r) ((k,.ref a)::r) ((k,.ref a)::r) s
noncomputable def bsI(s6 s5 s7:US):Hp:=bas [.sg 50,.sg 51] [.sg 51] (.dI 33 (usl 6 100 s6 (usl 5 200 s5 (usl 7 300 s7 [])))) (.dI 41 (usl 6 140 s6 (usl 5 240 s5 (usl 7 340 s7 []))))
noncomputable def bsK(inp inb:List Sg)(kn kn2:List (Nat×Option V)):Hp:=bas inp inb (.dT 33 57 true [] kn) (.dT 41 58 true [] kn2)
noncomputable def blg(o k acc len:Nat)(fv:Nat->V)(rows:List Sg)(pl pl2:V)(tb tb2:O):Hp:=[((Nat.add o 0),.inst 142 (Nat.add o 2)),((Nat.add o 2),.attrs [(11,(Nat.add o 1),.int [] (Int.ofNat k) (Nat.add o 3)),(12,(Nat.add o 5),.ref (Nat.add o 4)),(13,(Nat.add o 7),.opq (Nat.add o 0)),(14,(Nat.add o 9),pl)] (Nat.add o 13)),((Nat.add o 4),.inst 100 (Nat.add o 6)),((Nat.add o 6),.attrs [(4,(Nat.add o 15),.opq (Nat.add o 1)),(5,(Nat.add o 17),.str acc (Nat.add o 19)),(6,(Nat.add o 21),fv (Nat.add o 23)),(7,(Nat.add o 25),.int [] (Int.ofNat len) (Nat.add o 27)),(8,(Nat.add o 29),.ref (Nat.add o 8)),(9,(Nat.add o 31),.ref (Nat.add o 10))] (Nat.add o 33)),((Nat.add o 8),.list rows (Nat.add o 35)),((Nat.add o 10),tb),((Nat.add o 40),.dS (Nat.add o 39) [(19,.ref (Nat.add o 42)),(42,.ref (Nat.add o 44)),(14,pl2),(73,.ref (Nat.add o 46))]),((Nat.add o 42),.tup [.str acc (Nat.add o 43),fv (Nat.add o 45)] (Nat.add o 47)),((Nat.add o 44),.list rows (Nat.add o 49)),((Nat.add o 46),tb2)]
noncomputable def blS(o k:Nat)(fv:Nat->V)(rows:List Sg)(c:Nat):Hp:=blg o k 163 0 fv rows (.int [o] (Int.ofNat c) (Nat.add o 11)) (.int [o] (Int.ofNat c) (Nat.add o 41)) (.dT (Nat.add o 37) o true [] []) (.dT (Nat.add o 51) o false [] [])
noncomputable def blD(o k:Nat)(fv:Nat->V)(kn kn2:List (Nat×Option V)):Hp:=blg o k 164 3 fv [] (.opq (Nat.add o 2)) (.int [] 0 (Nat.add o 41)) (.dT (Nat.add o 37) o true [] kn) (.dT (Nat.add o 51) o false [] kn2)
noncomputable def gn(o t:Nat):V:=.sat o t
noncomputable def blk(o k:Nat)(s:US):Hp:=US.rec [] (blS o k (gn o) [.sg o,.sg (Nat.add o 70)] 0) (blS o k (gn o) [.sg o] 1) (blD o k (gn o) [] []) s
noncomputable def vs4:List (Nat×V):=[(33,.ref 10),(43,.ref 20),(38,.ref 2),(39,.ref 4)]
noncomputable def vs5:List (Nat×V):=[(33,.ref 10),(43,.ref 20),(38,.ref 2),(39,.ref 4),(59,.ref 414)]
noncomputable def hpU(s6 s5 s7:US):Hp:=app (bsI s6 s5 s7) (app (blk 100 6 s6) (app (blk 200 5 s5) (blk 300 7 s7)))
noncomputable def stA(k:Nat):S:=⟨app (cel (some (.int [] (Int.ofNat k) 3))) scp,vs4,400⟩
noncomputable def celL(k:Nat)(x:Option V):Bool:=tokK ⟨app (cel x) scp,vs4,400⟩ λt σ=>putK σ 0 (λc=>.cel c (some (.int [] (Int.ofNat k) t))) λσ=>genK (inR 10 400) ⟨[],[],[],[],[]⟩ (stA k) σ
noncomputable def uV(u t:Nat):V:=Nat.rec (motive:=λ_=>V) (.str 173 t) (λu _=>Nat.rec (motive:=λ_=>V) (.int [] 6 t) (λu _=>Nat.rec (motive:=λ_=>V) (.int [] 5 t) (λu _=>Nat.rec (motive:=λ_=>V) (.int [] 7 t) (λu _=>Nat.rec (motive:=λ_=>V) (.str 61 t) (λu _=>.int [] 8 t) u) u) u) u) u
noncomputable def txI(j:Nat):Nat:=Nat.rec 193 (λj _=>Nat.rec 194 (λj _=>Nat.rec 175 (λ_ _=>195) j) j) j
noncomputable def ctl(v:V)(hf:Bool)(r:Option Nat):Hp:=[(400,.dS 401 ((69,v)::app (bi hf [(70,(.str 173 405))] []) (Option.rec [] (λn=>[(71,.int [] (Int.ofNat n) 407)]) r)))]
noncomputable def txs(lit two:Bool)(k:Nat):Hp:=[(408,.list (.it (bi lit (.str (txI (Nat.mod k 4)) 411) (.opq 408))::bi two [.it (bi lit (.str (txI (Nat.mod (Nat.succ k) 4)) 413) (.opq 410))] []) 409)]
noncomputable def lsl(two:Bool):Hp:=[(414,.list (.it (.ref 416)::bi two [.it (.ref 418)] []) 415)]
noncomputable def lsi(two:Bool)(k3:Nat)(k2:Bool):Hp:=app [(416,.list (.it (.ref 420)::bi k2 [.it (.ref 422)] []) 417),(420,.tup [.int [] (Int.ofNat k3) 421,.opq 420] 423)] (app (bi k2 [(422,.tup [.int [] 4 425,.boo true] 427)] []) (bi two (app [(418,.list (.it (.ref 424)::bi k2 [.it (.ref 426)] []) 419),(424,.tup [.int [] (Int.ofNat k3) 429,.opq 424] 431)] (bi k2 [(426,.tup [.int [] 4 433,.boo true] 435)] [])) []))
noncomputable def vsK(v:V)(hf:Bool)(r:Option Nat)(w:Bool):List (Nat×V):=app vs5 [(23,v),(6,.str (bi hf 165 166) 439),(34,Option.rec .non (λn=>.int [] (Int.ofNat n) 441) r),(8,.ref (bi hf 408 414)),(35,.ref 400),(60,.boo w),(36,.ref 408)]
noncomputable def stV(v v2:V)(hf:Bool)(r:Option Nat)(two lit w:Bool)(k k3:Nat)(k2:Bool):S:=⟨app (app (ctl v hf r) (app (txs lit two k) (lsl two))) (app (lsi two k3 k2) (app (cel (some (.opq 0))) scp)),vsK v2 hf r w,450⟩
noncomputable def stK(u:Nat)(hf:Bool)(r:Option Nat)(two lit w:Bool)(k:Nat):S:=stV (uV u 403) (uV u 437) hf r two lit w k (Nat.mod k 3) (Nat.beq (Nat.mod k 2) 1)
noncomputable def refN(σ:S)(i:Nat)(k:Nat->Bool):Bool:=oe (lk σ.vs i) λv=>refK v k
noncomputable def booN(σ:S)(i:Nat)(k:Bool->Bool):Bool:=oe (lk σ.vs i) λv=>(V.rec (motive:=λ_=>Bool) (false) (λb=>k b) (λ_ _ _=>false) (λ_ _=>false) (λ_=>false) (λ_=>false) (λ_ _=>false) (λ_=>false) v)
noncomputable def uOf(v:V)(k:Nat->Bool):Bool:=(V.rec (motive:=λ_=>Bool) (false) (λ_=>false) (λas c _=>litK v λn=>bi (Nat.beq n 6) (k 1) (bi (Nat.beq n 5) (k 2) (bi (Nat.beq n 7) (k 3) (bi (Nat.beq n 8) (k 5) false)))) (λi _=>bi (Nat.beq i 173) (k 0) (bi (Nat.beq i 61) (k 4) false)) (λ_=>false) (λ_=>false) (λ_ _=>false) (λ_=>false) v)
noncomputable def rOf(v:V)(k:Option Nat->Bool):Bool:=(V.rec (motive:=λ_=>Bool) (k none) (λ_=>false) (λas c _=>litK v λn=>cd (Nat.ble n 2) (k (some n))) (λ_ _=>false) (λ_=>false) (λ_=>false) (λ_ _=>false) (λ_=>false) v)
noncomputable def lsO(hp:Hp)(n:Nat)(k:List V->Bool):Bool:=oe (lk hp n) λo=>(O.rec (motive:=λ_=>Bool) (λss _=>itsS ss k) (λ_ _=>false) (λ_ _=>false) (λ_ _=>false) (λ_ _=>false) (λ_ _=>false) (λ_ _=>false) (λ_ _ _ _ _=>false) (λ_=>false) (λ_ _=>false) (λ_ _=>false) (λ_ _=>false) (λ_ _ _=>false) o)
noncomputable def tpO(hp:Hp)(n:Nat)(k:List V->Bool):Bool:=oe (lk hp n) λo=>(O.rec (motive:=λ_=>Bool) (λ_ _=>false) (λvs _=>k vs) (λ_ _=>false) (λ_ _=>false) (λ_ _=>false) (λ_ _=>false) (λ_ _=>false) (λ_ _ _ _ _=>false) (λ_=>false) (λ_ _=>false) (λ_ _=>false) (λ_ _=>false) (λ_ _ _=>false) o)
noncomputable def inO(hp:Hp)(b t0 t1:Nat)(v:V)(k:List (Nat×Nat)->List (Nat×V)->Bool):Bool:=refK v λn=>lsO hp n λvs=>List.rec false (λa r _=>refK a λm=>tpO hp m λus=>List.rec false (λ_ us _=>List.rec false (λy _ _=>List.rec (k [(b,n),(t0,m)] [(t0,y)]) (λc _ _=>refK c λq=>k [(b,n),(t0,m),(t1,q)] [(t0,y)]) r) us) us) vs
noncomputable def endB(kk:Nat)(σ:S)(u:Nat)(hf:Bool)(r:Option Nat)(w two:Bool)(om:List (Nat×Nat))(xs tx:List (Nat×V)):Bool:=cd (genK (inR 10 400) ⟨om,(0,.int [] (Int.ofNat kk) 3)::xs,[],[],[]⟩ (stK u hf r two true w kk) σ) (genK (inR 10 400) ⟨om,(0,.int [] (Int.ofNat kk) 3)::app tx xs,[],[],[]⟩ (stK u hf r two false w kk) σ)
noncomputable def endA(kk:Nat)(σ:S):Bool:=oe (lk σ.vs 23) λuv=>uOf uv λu=>booN σ 58 λhf=>oe (lk σ.vs 34) λrv=>rOf rv λr=>booN σ 60 λw=>refN σ 35 λnc=>refN σ 36 λnt=>refN σ 59 λnl=>lsO σ.hp nt λts=>lsO σ.hp nl λls=>cd (bi (Nat.beq u 4) hf true) (List.rec false (λt0 tr _=>List.rec false (λl0 lr _=>inO σ.hp 416 420 422 l0 λom xs=>List.rec (List.rec (endB kk σ u hf r w false (app [(400,nc),(408,nt),(414,nl)] om) xs [(408,t0)]) (λ_ _ _=>false) lr) (λt1 _ _=>List.rec false (λl1 _ _=>inO σ.hp 418 424 426 l1 λom2 xs2=>endB kk σ u hf r w true (app [(400,nc),(408,nt),(414,nl)] (app om om2)) (app xs xs2) [(408,t0),(410,t1)]) lr) tr) ls) ts)
noncomputable def runA(kk:Nat):Bool:=vS irLA pLaw (stA kk) ⟨λσ=>endA kk σ,λ_ _=>false,λ_=>false⟩
noncomputable def itsB(ss:List Sg)(n:Nat):Bool:=List.rec (motive:=λ_=>Nat->Bool) (λ_=>true) (λs _ ih n=>(Sg.rec (motive:=λ_=>Bool) (λ_=>Nat.rec (motive:=λ_=>Bool) false (λm _=>ih m) n) (λ_=>false) s)) ss n
noncomputable def pfxB(s0 ss:List Sg):Bool:=List.rec (motive:=λ_=>List Sg->Bool) (λss=>itsB ss 2) (λx _ ih ss=>List.rec true (λy r _=>bi (sameG x y) (ih r) (itsB (y::r) 2)) ss) s0 ss
noncomputable def inpJ(j:Nat):List Sg:=Nat.rec [.sg 50,.sg 51] (λj _=>Nat.rec [.sg 50] (λj _=>Nat.rec [.sg 50,.it (.opq 55)] (λ_ _=>[.sg 50,.it (.opq 55),.it (.opq 56),.sg 51]) j) j) j
noncomputable def inbJ(j:Nat):List Sg:=Nat.rec [.sg 51] (λj _=>Nat.rec [] (λj _=>Nat.rec [.it (.opq 55)] (λ_ _=>[.it (.opq 55),.it (.opq 56),.sg 51]) j) j) j
noncomputable def atE(hp:Hp)(n i:Nat)(k:V->Bool):Bool:=oe (lk hp n) λo=>(O.rec (motive:=λ_=>Bool) (λ_ _=>false) (λ_ _=>false) (λ_ _=>false) (λes _=>oe (lk es i) λe=>k e.2) (λ_ kvs=>oe (lk kvs i) λv=>k v) (λ_ _=>false) (λ_ _=>false) (λ_ _ _ _ _=>false) (λ_=>false) (λ_ _=>false) (λ_ _=>false) (λ_ _=>false) (λ_ _ _=>false) o)
noncomputable def lsS(hp:Hp)(n:Nat)(k:List Sg->Bool):Bool:=oe (lk hp n) λo=>(O.rec (motive:=λ_=>Bool) (λss _=>k ss) (λ_ _=>false) (λ_ _=>false) (λ_ _=>false) (λ_ _=>false) (λ_ _=>false) (λ_ _=>false) (λ_ _ _ _ _=>false) (λ_=>false) (λ_ _=>false) (λ_ _=>false) (λ_ _=>false) (λ_ _ _=>false) o)
noncomputable def dtO(hp:Hp)(n:Nat)(k:List (Nat×V)->Bool):Bool:=oe (lk hp n) λo=>(O.rec (motive:=λ_=>Bool) (λ_ _=>false) (λ_ _=>false) (λ_ _=>false) (λ_ _=>false) (λ_ _=>false) (λ_ _=>false) (λ_ _=>false) (λ_ _ _ ops _=>k ops) (λ_=>false) (λ_ _=>false) (λ_ _=>false) (λ_ _=>false) (λ_ _ _=>false) o)
noncomputable def endS(σ:S)(inp:List Sg)(k:List (Nat×Nat)->List (Nat×List Sg)->Bool):Bool:=atE σ.hp 12 29 λav=>intK av λas c=>onN c λc=>lsS σ.hp 14 λss=>cd (sameS ss inp) (takS ss as c λt1=>drpS ss as c λt2=>lsS σ.hp 16 λso=>cd (pfxB [.sg 52] so) (atE σ.hp 20 72 λbv=>refK bv λnb=>k [(22,nb)] [(50,t1),(51,t2),(52,so)]))
noncomputable def zipO(a b:List (Nat×V))(k:List (Nat×V×V)->Bool):Bool:=List.rec (motive:=λ_=>List (Nat×V)->(List (Nat×V×V)->Bool)->Bool) (λb k=>List.rec (k []) (λ_ _ _=>false) b) (λp _ ih b k=>List.rec false (λq r _=>ih r λl=>k ((p.1,p.2,q.2)::l)) b) a b k
noncomputable def out0(i:Nat):Bool:=bi (Nat.blt i 10) true (bi (inR 416 436 i) true (inR 100 400 i))
noncomputable def outU(o i:Nat):Bool:=bi (Nat.blt i 10) true (bi (inR 416 436 i) true (bi (inR o (Nat.add o 100) i) false (inR 100 400 i)))
noncomputable def outV(o i:Nat):Bool:=bi (Nat.blt i 10) true (bi (inR o (Nat.add o 100) i) false (inR 100 400 i))
noncomputable def tg0(two:Bool):S:=⟨app (lsl two) (bsK [.sg 50,.sg 51] [.sg 51] [] []),vs5,450⟩
noncomputable def end0(two:Bool)(inp:List Sg)(σ:S):Bool:=endS σ inp λom ls=>genK out0 ⟨om,[],ls,[],[]⟩ (tg0 two) σ
noncomputable def knU(k a:Nat):List (Nat×Option V):=[(k,some (.ref a))]
noncomputable def tgU(o k:Nat)(ext:Hp)(s:US):S:=⟨app ext (app (bsK [.sg 50,.sg 51] [.sg 51] [] []) (blk o k s)),vs5,450⟩
noncomputable def endQ(o k:Nat)(ext:Hp)(f:Nat)(r0:List Sg)(σ:S):Bool:=endS σ [.sg 50,.sg 51] λom ls=>atE σ.hp (Nat.add o 2) 14 λpv=>intK pv λas c=>onN c λc=>atE σ.hp (Nat.add o 6) 8 λrv=>refK rv λnr=>atE σ.hp (Nat.add o 40) 42 λrv2=>refK rv2 λnr2=>lsS σ.hp nr λss=>cd (pfxB r0 ss) (bi (lenS ss λas2 c2=>cd (eqN as2 as) (Nat.beq c (Nat.succ c2))) (genK (outU o) ⟨((Nat.add o 8),nr)::((Nat.add o 44),nr2)::om,[],(o,ss)::((Nat.add o 70),[])::ls,[],[(o,f)]⟩ (tgU o k ext .pa) σ) (takS ss as c λt1=>drpS ss as c λt2=>genK (outU o) ⟨((Nat.add o 8),nr)::((Nat.add o 44),nr2)::om,[],(o,t1)::((Nat.add o 70),t2)::ls,[],[(o,f)]⟩ (tgU o k ext .sp) σ))
noncomputable def endD(o k:Nat)(I:Nat->Bool)(ext:Hp)(f:Nat)(σ:S):Bool:=endS σ [.sg 50,.sg 51] λom ls=>atE σ.hp (Nat.add o 2) 14 λpv=>atE σ.hp (Nat.add o 6) 8 λrv=>refK rv λnr=>atE σ.hp (Nat.add o 40) 42 λrv2=>refK rv2 λnr2=>dtO σ.hp (Nat.add o 10) λops=>dtO σ.hp (Nat.add o 46) λops2=>cd (Nat.ble (len ops) 2) (zipO ops ops2 λps=>genK I ⟨((Nat.add o 8),nr)::((Nat.add o 44),nr2)::om,[((Nat.add o 2),pv)],ls,[(o,some o,ps)],[(o,f)]⟩ (tgU o k ext .di) σ)
noncomputable def rowJ(o j:Nat):List Sg:=Nat.rec [.sg o,.sg (Nat.add o 70)] (λj _=>Nat.rec [.sg o] (λj _=>Nat.rec [.sg o,.it (.opq (Nat.add o 80))] (λ_ _=>[.sg o,.it (.opq (Nat.add o 80)),.it (.opq (Nat.add o 81)),.sg (Nat.add o 70)]) j) j) j
noncomputable def fl(f t:Nat):V:=.str f t
noncomputable def run11(c:S)(post:S->Bool):Bool:=cd (scE c) (vS irL11 pLaw c ⟨post,λ_ _=>false,λ_=>false⟩)
noncomputable def bls:List Bool:=[true,false]
noncomputable def rcs:List (Option Nat):=[none,some 1,some 2,some 0]
noncomputable def nJs:List Nat:=[1,2,3]
noncomputable def mid(two:Bool):Hp:=app (txs false two 0) (lsl two)
noncomputable def kn0(u0:Nat):List (Nat×Option V):=Nat.rec [] (λu _=>Nat.rec [(6,none)] (λu _=>Nat.rec [(5,none)] (λu _=>Nat.rec [(7,none)] (λ_ _=>[(8,none)]) u) u) u) u0
noncomputable def st0(u0:Nat)(hf:Bool)(r:Option Nat)(two w:Bool)(j:Nat):S:=⟨app (app (ctl (uV u0 403) hf r) (mid two)) (bsK (inpJ j) (inbJ j) (kn0 u0) (kn0 u0)),vsK (uV u0 437) hf r w,450⟩
noncomputable def all0(u0:Nat):Bool:=allB (λhf=>allB (λr=>allB (λtwo=>allB (λw=>allB (λj=>run11 (st0 u0 hf r two w j) (end0 two (inpJ j))) (bi w [0] nJs)) bls) bls) rcs) bls
noncomputable def stU(u0 o k:Nat)(hf:Bool)(r:Option Nat)(two w:Bool)(mid b:Hp):S:=⟨app (app (ctl (uV u0 403) hf r) mid) (app (bsK [.sg 50,.sg 51] [.sg 51] (knU k o) (knU k (Nat.add o 40))) b),vsK (uV u0 437) hf r w,450⟩
noncomputable def allQ(u0 o k f:Nat):Bool:=allB (λhf=>allB (λr=>allB (λtwo=>allB (λw=>allB (λj=>run11 (stU u0 o k hf r two w (mid two) (blS o k (fl f) (rowJ o j) 0)) (endQ o k (lsl two) f (rowJ o j))) (bi w [0] nJs)) bls) bls) rcs) bls
noncomputable def allP(u0 o k f:Nat):Bool:=allB (λhf=>allB (λr=>allB (λtwo=>allB (λw=>run11 (stU u0 o k hf r two w (mid two) (blS o k (fl f) [.sg o] 1)) (endQ o k (lsl two) f [.sg o])) bls) bls) rcs) bls
noncomputable def knJ(sd:Bool)(j key x t t2:Nat):Nat×Option V:=(key,Nat.rec (motive:=λ_=>Option V) none (λj _=>Nat.rec (motive:=λ_=>Option V) (some (.opq x)) (λ_ _=>some (.sat x (bi sd t t2))) j) j)
noncomputable def knR(o:Nat)(sd:Bool)(r:Option Nat)(two:Bool)(j j2:Nat):List (Nat×Option V):=Option.rec [] (λr=>knJ sd j r (Nat.add o 80) (Nat.add o 61) (Nat.add o 63)::bi two [knJ sd j2 (Nat.succ r) (Nat.add o 81) (Nat.add o 65) (Nat.add o 67)] []) r
noncomputable def js3(r:Option Nat):List Nat:=Option.rec [0] (λ_=>[0,1,2]) r
noncomputable def allR(u0 o k f:Nat):Bool:=allB (λhf=>allB (λr=>allB (λtwo=>allB (λj=>allB (λj2=>run11 (stU u0 o k hf r two false (mid two) (blD o k (fl f) (knR o true r two j j2) (knR o false r two j j2))) (endD o k (outU o) (lsl two) f)) (bi two (js3 r) [0])) (js3 r)) bls) rcs) bls
noncomputable def allW(u0 o k f:Nat):Bool:=allB (λr=>allB (λtwo=>allB (λkk=>run11 (stU u0 o k true r two true (app (txs true two kk) (lsl two)) (blD o k (fl f) [] [])) (endD o k (outU o) (lsl two) f)) [0,1,2,3]) bls) rcs
noncomputable def allV(u0 o k f:Nat):Bool:=allB (λr=>allB (λtwo=>allB (λk3=>allB (λk2=>run11 (stU u0 o k false r two true (app (txs false two 0) (app (lsl two) (lsi two k3 k2))) (blD o k (fl f) [] [])) (endD o k (outV o) (app (lsl two) (lsi two k3 k2)) f)) bls) [0,1,2]) bls) rcs
noncomputable def outN(i:Nat):Bool:=bi (Nat.blt i 2) true (bi (inR 416 436 i) true (inR 10 400 i))
noncomputable def stN(r:Option Nat)(two w:Bool)(kk:Nat):S:=⟨app (app (ctl (uV 4 403) true r) (app (txs true two kk) (lsl two))) scp,vsK (uV 4 437) true r w,450⟩
noncomputable def tgN(two:Bool):S:=⟨app (lsl two) scp,vs5,450⟩
noncomputable def endN(two:Bool)(σ:S):Bool:=genK outN ⟨[],[],[],[],[]⟩ (tgN two) σ
noncomputable def allN:Bool:=allB (λr=>allB (λtwo=>allB (λw=>allB (λkk=>run11 (stN r two w kk) (endN two)) [0,1,2,3]) bls) bls) rcs
noncomputable def sts:List US:=[.ab,.sp,.pa,.di]
noncomputable def st12(s6 s5 s7:US):S:=⟨hpU s6 s5 s7,vs5,450⟩
noncomputable def out12(i:Nat):Bool:=bi (Nat.blt i 10) true (inR 400 436 i)
noncomputable def run12(s6 s5 s7:US):Bool:=cd (scE (st12 s6 s5 s7)) (cd (stB (st12 s6 s5 s7)) (cd (offB out12 (st12 s6 s5 s7)) ((ev irLS).t pLaw (st12 s6 s5 s7) λb σ=>cd (neg b) (genK out12 ⟨[],[],[],[],[]⟩ (st12 s6 s5 s7) σ))))
noncomputable def all12(s6:US):Bool:=allB (λs5=>allB (λs7=>run12 s6 s5 s7) sts) sts
noncomputable def stPl(two:Bool)(k3:Nat)(k2:Bool):S:=⟨app (lsl two) (lsi two k3 k2),vs5,450⟩
noncomputable def outP(i:Nat):Bool:=Nat.blt i 400
noncomputable def runP(two:Bool)(k3:Nat)(k2:Bool):Bool:=cd (scE (stPl two k3 k2)) (cd (stB (stPl two k3 k2)) (cd (offB outP (stPl two k3 k2)) ((ev irLP).t pLaw (stPl two k3 k2) λb σ=>cd (neg b) (genK outP ⟨[],[],[],[],[]⟩ (stPl two k3 k2) σ))))
noncomputable def allPl:Bool:=allB (λtwo=>allB (λk3=>allB (λk2=>runP two k3 k2) bls) [0,1,2]) bls
noncomputable def irG1:IE:=(.sub (.loc 39 61743273999) (.int 0 61744584721) 61743274002)
noncomputable def irG2:IE:=(.blt .len (.cns (.loc 38 61746944031) .nil) 61745895456 61745895448)
noncomputable def irLW:IS:=(.ats [(33,57312237065),(43,57314072079)] (.cal 143 536 (.cns (.loc 38 57318790691) (.cns (.loc 39 57320887849) .nil)) 57315907114 57315907100) 57312237098 57312237071 .done)
noncomputable def stW:S:=⟨app (cel none) scp,[(38,.ref 2),(39,.ref 4)],400⟩
noncomputable def stJ(x:Option V)(s6 s5 s7:US):S:=⟨app (app (cel x) scp) (hpU s6 s5 s7),vs4,400⟩
noncomputable def i00(i:Nat):Bool:=Nat.beq i 0
noncomputable def okJ(s6 s5 s7:US):Bool:=bi (scE (stJ (some (.opq 0)) s6 s5 s7)) (bi (stB (stJ none s6 s5 s7)) (offB i00 (stJ none s6 s5 s7)) false) false
noncomputable def allJ(s6:US):Bool:=allB (λs5=>allB (λs7=>okJ s6 s5 s7) sts) sts
noncomputable def irL1:IS:=(.asg 39 (.lis (.cns (.int 0 57180115981) .nil) 57179853838) 57178018830 57178018824 .done)
noncomputable def st1:S:=⟨[(0,.cel 1 none),(2,.scr 5)],[(38,.ref 2)],400⟩
noncomputable def st2:S:=⟨[(0,.cel 1 none),(2,.scr 5),(6,.list [.it (.int [] 0 97)] 99)],[(38,.ref 2),(39,.ref 6)],400⟩
noncomputable def run1:Bool:=cd (stB st2) (cd (offB i00 st2) (vS irL1 pLaw st1 ⟨λσ=>refN σ 39 λn=>genK i00 ⟨[(6,n)],[],[],[],[]⟩ st2 σ,λ_ _=>false,λ_=>false⟩))
noncomputable def insD(hp:Hp)(n:Nat)(k:Nat->Bool):Bool:=oe (lk hp n) λo=>(O.rec (motive:=λ_=>Bool) (λ_ _=>false) (λ_ _=>false) (λ_ d=>k d) (λ_ _=>false) (λ_ _=>false) (λ_ _=>false) (λ_ _=>false) (λ_ _ _ _ _=>false) (λ_=>false) (λ_ _=>false) (λ_ _=>false) (λ_ _=>false) (λ_ _ _=>false) o)
noncomputable def dIO(hp:Hp)(n:Nat)(k:List (Nat×V)->Bool):Bool:=oe (lk hp n) λo=>(O.rec (motive:=λ_=>Bool) (λ_ _=>false) (λ_ _=>false) (λ_ _=>false) (λ_ _=>false) (λ_ _=>false) (λ_ kvs=>k kvs) (λ_ _=>false) (λ_ _ _ _ _=>false) (λ_=>false) (λ_ _=>false) (λ_ _=>false) (λ_ _=>false) (λ_ _ _=>false) o)
noncomputable def strV(v:V)(k:Nat->Bool):Bool:=(V.rec (motive:=λ_=>Bool) (false) (λ_=>false) (λ_ _ _=>false) (λi _=>k i) (λ_=>false) (λ_=>false) (λ_ _=>false) (λ_=>false) v)
noncomputable def atR(hp:Hp)(n i:Nat)(k:Nat->Bool):Bool:=atE hp n i λv=>refK v k
noncomputable def unWB(hp:Hp)(ku kb:List (Nat×V))(key o:Nat)(k:US->Nat->List (Nat×Nat)->List (Nat×V)->Bool):Bool:=Option.rec (k .ab 165 [] []) (λv=>refK v λa=>insD hp a λda=>atR hp da 12 λnf=>insD hp nf λdf=>atE hp df 4 λvn=>atE hp df 5 λva=>strV va λia=>atE hp df 6 λvf=>strV vf λiF=>cd (bi (Nat.beq iF 165) true (Nat.beq iF 166)) (atR hp df 8 λnr=>atR hp df 9 λnn=>atE hp da 13 λvb=>atE hp da 14 λpv=>oe (lk kb key) λvq=>refK vq λnq=>atR hp nq 19 λns=>atR hp nq 42 λnrr=>atR hp nq 73 λnt=>k (bi (Nat.beq ia 163) .sp .di) iF [(o,a),((Nat.add o 2),da),((Nat.add o 4),nf),((Nat.add o 6),df),((Nat.add o 8),nr),((Nat.add o 10),nn),((Nat.add o 40),nq),((Nat.add o 42),ns),((Nat.add o 44),nrr),((Nat.add o 46),nt)] [(o,vb),((Nat.add o 1),vn),((Nat.add o 2),pv)])) (lk ku key)
noncomputable def lsW(ss:List Sg):List (Nat×List Sg):=[(50,[]),(51,ss),(52,[]),(100,[]),(170,[]),(200,[]),(270,[]),(300,[]),(370,[])]
noncomputable def dsW:List (Nat×Option Nat×List (Nat×V×V)):=[(100,none,[]),(200,none,[]),(300,none,[])]
noncomputable def irWa:IS:=(.asl 42 (.lc (.bin .Add (.str 72 41745018384) (.blt .str (.cns (.loc 56 41747901976) .nil) 41746853401 41746853398) 41745018393) [(56,41749736991)] 0 (.rng (.cal 142 531 (.cns (.loc 38 41755242041) (.cns (.loc 39 41757339199) (.cns (.int 4 41758912066) .nil))) 41752620611 41752620594) 41751047748 41751047720) .nil [(200,0),(56,0),(156,1)] 41744756293) 41742921285 41742921224 (.asg 33 (.new 127 345 (.cns (.blt .list (.cns (.loc 42 41882120219) .nil) 41880809500 41880809494) (.cns (.new 105 121 .nil 41883955237 41883955235) .nil)) 41879236646 41879236625) 41877139494 41877139465 (.asg 43 (.dic (.dcn 72 42013454864 (.loc 42 42015027734) (.dcn 28 42016600605 (.lis .nil 42018435617) (.dcn 20 42019484202 (.emp false 42021843502) .nil))) 42013192751) 42011357743 42011357704 .done)))
noncomputable def irWt:IE:=(.tup (.cns (.int 6 42149508116) (.cns (.int 5 42150294551) (.cns (.int 7 42151080986) .nil))) 42149245979)
noncomputable def irWb:IS:=(.ite (.cmp .Gt (.cal 142 531 (.cns (.loc 38 42284250651) (.cns (.loc 39 42286347809) (.cns (.int 3 42287920676) .nil))) 42281629221 42281629204) (.int 0 42289231401) 42281629225) (.asg 19 (.sub (.cal 141 524 .nil 42417944607 42417944605) (.cal 142 531 (.cns (.loc 38 42423973936) (.cns (.loc 39 42426071094) (.cns (.int 4 42427643961) .nil))) 42421352506 42421352489) 42417944635) 42416109627 42416109584 (.asg 15 (.dic (.dcn 66 42552687131 (.bin .Add (.str 176 42554784288) (.blt .str (.cns (.loc 11 42557405741) .nil) 42556357166 42556357158) 42554784302) (.dcn 67 42559765048 (.sub (.loc 19 42562386494) (.int 0 42563697216) 42562386497) (.dcn 63 42564745801 (.sub (.loc 19 42566842959) (.int 1 42568153681) 42566842962) .nil))) 42552425043) 42550327891 42550327825 (.ite (.cmp .Eq (.sub (.loc 19 42685332499) (.int 0 42686643221) 42685332502) (.str 164 42688216098) 42685332514) (.sst (.loc 15 42819812885) (.str 64 42821385756) (.int 3 42824007201) 42819812897 42819812893 .done) .done 42684546593 (.exp (.cal 114 202 (.cns (.att (.loc 33 42955603995) 21 42955604001) (.cns (.att (.loc 33 42959011880) 20 42959011886) (.cns (.loc 11 42962419766) (.cns (.loc 15 42964516925) .nil)))) 42952982590 42952982549) 42952982590 (.sst (.sub (.loc 43 43087200784) (.str 20 43088511512) 43087200793) (.loc 11 43090870816) (.dic (.dcn 19 43093754411 (.loc 19 43095851569) (.dcn 42 43097424441 (.lis .nil 43099521597) (.dcn 14 43100570182 (.int 0 43102929481) (.dcn 73 43103715922 (.emp false 43106075222) .nil)))) 43093492311) 43087200855 43087200801 .done))))) .done 42280845911 .done)
noncomputable def irWr:IS:=(.ret (.tup (.cns (.loc 33 43221419025) (.cns (.loc 43 43223254039) .nil)) 43221156888) 43219321880)
noncomputable def pW:Pm:=⟨cH 11 440,440,[],λ_ _ _=>false⟩
noncomputable def nF(k:Nat):Nat:=bi (Nat.beq k 6) 178 (bi (Nat.beq k 5) 177 179)
noncomputable def wblG(o k acc len:Nat):Hp:=[((Nat.add o 0),.inst 142 (Nat.add o 2)),((Nat.add o 2),.attrs [(11,(Nat.add o 1),.int [] (Int.ofNat k) (Nat.add o 3)),(12,(Nat.add o 5),.ref (Nat.add o 4)),(13,(Nat.add o 7),.opq (Nat.add o 0)),(14,(Nat.add o 9),.int [] 0 (Nat.add o 11))] (Nat.add o 13)),((Nat.add o 4),.inst 100 (Nat.add o 6)),((Nat.add o 6),.attrs [(4,(Nat.add o 15),.str (nF k) (Nat.add o 53)),(5,(Nat.add o 17),.str acc (Nat.add o 19)),(6,(Nat.add o 21),.sat o (Nat.add o 23)),(7,(Nat.add o 25),.int [] (Int.ofNat len) (Nat.add o 27)),(8,(Nat.add o 29),.ref (Nat.add o 8)),(9,(Nat.add o 31),.ref (Nat.add o 10))] (Nat.add o 33)),((Nat.add o 8),.list [] (Nat.add o 35)),((Nat.add o 10),.dI (Nat.add o 37) []),((Nat.add o 40),.dS (Nat.add o 39) [(19,.ref (Nat.add o 42)),(42,.ref (Nat.add o 44)),(14,.int [] 0 (Nat.add o 41)),(73,.ref (Nat.add o 46))]),((Nat.add o 42),.tup [.str acc (Nat.add o 43),.sat o (Nat.add o 45)] (Nat.add o 47)),((Nat.add o 44),.list [] (Nat.add o 49)),((Nat.add o 46),.dI (Nat.add o 51) [])]
noncomputable def wbl(o k:Nat)(s:US):Hp:=US.rec [] (wblG o k 163 0) [] (wblG o k 164 3) s
noncomputable def hpX(s6 s5 s7:US):Hp:=app [(2,.scr 5),(4,.spt 7 0),(60,.inst 121 62),(62,.attrs [(10,61,.ref 64)] 63),(64,.dS 65 (usl (nF 6) 104 s6 (usl (nF 5) 204 s5 (usl (nF 7) 304 s7 [])))),(10,.inst 345 12),(12,.attrs [(31,13,.ref 14),(29,15,.int [] 0 17),(28,19,.ref 16),(21,21,.ref 60),(20,23,.ref 18),(32,25,.opq 54)] 27),(14,.list [.sg 51] 29),(16,.list [] 31),(18,.dI 33 (usl 6 100 s6 (usl 5 200 s5 (usl 7 300 s7 [])))),(20,.dS 35 [(72,.ref 22),(28,.ref 24),(20,.ref 26)]),(22,.list [.sg 51] 37),(24,.list [] 39),(26,.dI 41 (usl 6 140 s6 (usl 5 240 s5 (usl 7 340 s7 []))))] (app (wbl 100 6 s6) (app (wbl 200 5 s5) (wbl 300 7 s7)))
noncomputable def vsX:List (Nat×V):=[(38,.ref 2),(39,.ref 4),(33,.ref 10),(43,.ref 20)]
noncomputable def stX(s6 s5 s7:US):S:=⟨hpX s6 s5 s7,vsX,400⟩
noncomputable def tpX:Hp:=[(66,.tup [.int [] 6 67,.int [] 5 69,.int [] 7 71] 73)]
noncomputable def stXt:S:=⟨app (hpX .ab .ab .ab) tpX,vsX,400⟩
noncomputable def endX0(n:Nat)(σ:S):Bool:=refN σ 33 λnw=>insD σ.hp nw λdw=>atR σ.hp dw 31 λni=>atR σ.hp dw 28 λno=>atR σ.hp dw 21 λns=>insD σ.hp ns λds=>atR σ.hp ds 10 λnf=>atR σ.hp dw 20 λnu=>atE σ.hp dw 32 λvmk=>refN σ 43 λnb=>atR σ.hp nb 72 λnbi=>atR σ.hp nb 28 λnbo=>atR σ.hp nb 20 λnbu=>lsS σ.hp ni λss=>cd (itsB ss 3) (genK i00 ⟨[(10,nw),(12,dw),(14,ni),(16,no),(60,ns),(62,ds),(64,nf),(18,nu),(20,nb),(22,nbi),(24,nbo),(26,nbu),(66,n)],[(54,vmk)],lsW ss,dsW,[(100,165),(200,165),(300,165)]⟩ stXt σ)
noncomputable def stX0:S:=⟨[(2,.scr 5),(4,.spt 7 0)],[(38,.ref 2),(39,.ref 4)],400⟩
noncomputable def postA(P:Pm)(σ:S):Bool:=(ev irWt).e P σ λv σ=>refK v λn=>endX0 n σ
noncomputable def runX0:Bool:=cd (scE stX0) (vS irWa pW stX0 ⟨λσ=>postA pW σ,λ_ _=>false,λ_=>false⟩)
noncomputable def putS(k:Nat)(s s6 s5 s7:US)(g:US->US->US->Bool):Bool:=bi (Nat.beq k 6) (g s s5 s7) (bi (Nat.beq k 5) (g s6 s s7) (g s6 s5 s))
noncomputable def endX(o k:Nat)(s6 s5 s7:US)(σ:S):Bool:=dIO σ.hp 18 λku=>dIO σ.hp 26 λkb=>unWB σ.hp ku kb k o λs f om xs=>putS k s s6 s5 s7 λs6 s5 s7=>genK i00 ⟨om,xs,[(o,[]),((Nat.add o 70),[])],[(o,none,[])],[(o,f)]⟩ (stX s6 s5 s7) σ
noncomputable def runX(o k:Nat)(s6 s5 s7:US):Bool:=vS irWb pW ⟨hpX s6 s5 s7,(11,.int [] (Int.ofNat k) 400)::vsX,401⟩ ⟨λσ=>endX o k s6 s5 s7 σ,λ_ _=>false,λ_=>false⟩
noncomputable def ust:List US:=[.ab,.sp,.di]
noncomputable def allX:Bool:=bi (runX 100 6 .ab .ab .ab) (bi (allB (λs6=>runX 200 5 s6 .ab .ab) ust) (allB (λs6=>allB (λs5=>runX 300 7 s6 s5 .ab) ust) ust) false) false
noncomputable def hpY(s6 s5 s7:US):Hp:=app [(398,.tup [.ref 10,.ref 20] 399)] (app scp (hpU s6 s5 s7))
noncomputable def stY(s6 s5 s7:US):S:=⟨hpY s6 s5 s7,[],400⟩
noncomputable def xsY(o:Nat):List (Nat×V):=[((Nat.add o 1),.str (nF (bi (Nat.beq o 100) 6 (bi (Nat.beq o 200) 5 7))) (Nat.add o 53)),((Nat.add o 2),.int [] 0 (Nat.add o 11))]
noncomputable def runY(s6 s5 s7:US):Bool:=vS irWr pW (stX s6 s5 s7) ⟨λ_=>false,λv σ=>refK v λn=>genK i00 ⟨[(398,n)],(53,.ref 60)::app (xsY 100) (app (xsY 200) (xsY 300)),[(50,[]),(52,[]),(100,[]),(170,[]),(200,[]),(270,[]),(300,[]),(370,[])],dsW,[]⟩ (stY s6 s5 s7) σ,λ_=>false⟩
noncomputable def allY(s6:US):Bool:=allB (λs5=>allB (λs7=>runY s6 s5 s7) ust) ust
noncomputable def okX(s6 s5 s7:US):Bool:=bi (bi (stB (stX s6 s5 s7)) (offB i00 (stX s6 s5 s7)) false) (bi (bi (stB (stY s6 s5 s7)) (offB i00 (stY s6 s5 s7)) false) (scE ⟨app (cel none) (app scp (hpU s6 s5 s7)),vs4,400⟩) false) false
noncomputable def okXt:Bool:=bi (stB stXt) (offB i00 stXt) false
noncomputable def allXo:Bool:=allB (λs6=>allB (λs5=>allB (λs7=>okX s6 s5 s7) ust) ust) ust
end Mine.Q
namespace Mine.Q
section
variable{prog:Program}{w:World}{Γ:Fx prog w}{ρ ρ' ρ2:Rho}{I:Nat->Bool}{σ c:S}{h:Heap}{hp hpA hpB:Hp}{vs:List (Nat×V)}{nx tk:Nat}{M:Mp}{E:Value->Shared->Prop}
theorem off_e(h:offB I c=true)(i:Nat)(hi:I i=true):mem i (app (tkH c.hp) (tkK c.vs))=false:=by
 rcases q:mem i (app (tkH c.hp) (tkK c.vs))with _|_
 .rfl
 .have:=allB_e h i (mem_eq.mp q)
  rw[hi]at this;exact ff this
theorem key_e{α:Type}{l:List (Nat×α)}(h:allB (λp=>bi (I p.1) false true) l=true)(i:Nat)(hi:I i=true):lk l i=none:=by
 rcases q:lk l i with _|x
 .rfl
 .have:=allB_e h _ (lk_mem q)
  rw[hi]at this;exact ff this
theorem genK_e(g:genK I M c σ=true):keyB I M=true/\lk M.om 0=none/\genB M c σ=true:=by
 obtain⟨a,g⟩:=cd_e g
 obtain⟨b,g⟩:=cd_e g
 refine mkAA a ?_ g
 rcases q:lk M.om 0 with _|_
 .rfl
 .rw[q]at b;exact ff b
structure LawFx(Γ:Fx prog w):Prop where
 ex:∃qual scope L a cdv,Γ.env=envOfC qual scope L a cdv/\Γ.L=L/\scope.kind=.function/\CsOk [56] scope
 cv:∀m ρ σ,Γ.cov m ρ σ↔(∀i v,lk σ.vs i=some v->m (nm i)=some (iv ρ v))/\CellsOk Γ ρ
 fe:Γ.fenv=Γ.env
 ll:Γ.env.locals=Γ.L
 D:Γ.D=430
 out:Γ.outer=[]
 ci:Γ.ci=[(56,0)]
 tn:Γ.tn=false
 hc:Γ.hc=false
 wA:wfS irLA Γ.env.scope=true
 w11:wfS irL11 Γ.env.scope=true
 wS:(wf irLS).t Γ.env.scope=true
 wP:(wf irLP).t Γ.env.scope=true
 wW:wfS irLW Γ.env.scope=true
 w13:(wf irG1).e Γ.env.scope=true/\(wf irG2).e Γ.env.scope=true
 ck:cll Γ.env.scope 56=true
theorem LawFx.st(H:LawFx Γ):St Γ:=by
 refine elEEEEEAAA (λqual scope L a cdv he hL hk hcs=>?_)<|H.ex
 exact⟨nm_of (Γ:=Γ.nt) he rfl hk hL hcs.cl H.cv,H.cv,H.ll,H.fe,H.hc,λe=>nm_of (Γ:=Γ.hm e) he rfl hk hL hcs.cl H.cv⟩
theorem LawFx.rs(H:LawFx Γ){r:Lg}{nf:NFs r}:LawFx (Γ.rs r nf):=⟨H.ex,H.cv,H.fe,H.ll,H.D,H.out,H.ci,H.tn,H.hc,H.wA,H.w11,H.wS,H.wP,H.wW,H.w13,H.ck⟩
theorem LawFx.it(H:LawFx Γ){J:Addr}{ot:Obj}:LawFx (Γ.it J ot):=⟨H.ex,H.cv,H.fe,H.ll,H.D,H.out,H.ci,H.tn,H.hc,H.wA,H.w11,H.wS,H.wP,H.wW,H.w13,H.ck⟩
theorem LawFx.pg(H:LawFx Γ):PG true pLaw Γ:=⟨H.D.symm,H.ci.symm,λ_=>H.out,H.hc,λx Γ' hD ho=>cL_ok (cH_all 12) (λa r e=>fn_allC _ (lk_mem e)) hD.symm (ho rfl)⟩
theorem LawFx.hci(H:LawFx Γ)(hn:0<c.nx)(hm:lk M.om 0=none):∀i n,lk Γ.ci i=some n->evn n=true/\fo M n=n/\n<c.nx:=λi n e=>by
 rw[H.ci,lk_cons]at e
 rcases q:Nat.beq i 56 with _|_
 .rw[q]at e;cases e
 .rw[q]at e
  have e:some 0=some n:=e
  cases e
  exact mkAA rfl (by unfold fo;rw[hm]) hn
theorem gen2(H:LawFx Γ)(R:Rl Γ ρ σ h)(g:genK I M c σ=true)(st:stB c=true)(off:offB I c=true)(hI:∀i,I i=true->i<c.nx)(hn:0<c.nx)
 (bL:∀i ss,lk M.ls i=some ss->(sgs ρ ss).length<=90)(bD:∀b x,lk M.ds b=some x->(dOf ρ x).length<=90):∃ρ',Rl Γ ρ' c h/\Gr ρ ρ' M/\Same ρ ρ' I/\ρ'.g=ρ.g:=by
 refine elAA (λky om0 g=>?_)<|genK_e g
 refine elEAAA (λρ' R' eg G sm=>?_)<|gen_ok H.st R g st (H.hci hn om0) bL bD
 obtain⟨k1,k⟩:=bi_t ky
 obtain⟨k2,k⟩:=bi_t k
 obtain⟨k3,k⟩:=bi_t k
 obtain⟨k4,k5⟩:=bi_t k
 refine mkEAAA ρ' R' G (λi hi=>?_) eg
 obtain⟨a,b⟩:=sm i (hI i hi) (off_e off i hi)
 have ef:bi (evn i) (fo M i) i=i:=by
  unfold fo;rw[key_e k1 i hi];cases evn i<;>rfl
 rw[ef]at a b
 exact mkAAAAA a b (by rw[G.X,key_e k2 i hi]) (by rw[G.T,key_e k5 i hi]) (by rw[G.L,key_e k3 i hi]) (by rw[G.D,key_e k4 i hi])
theorem seg(H:LawFx Γ){ir:IS}(hw:wfS ir Γ.env.scope=true)(ht:noTry ir=true){post:S->Bool}{Q:Flow->Shared->Prop}(R:Rl Γ ρ c h)(g:vS ir pLaw c ⟨post,λ_ _=>false,λ_=>false⟩=true)
 (K:∀ρ' σ' h' tk',Γ.Ext ρ ρ'->Rl Γ ρ' σ' h'->post σ'=true->Q .next (Γ.sh h' tk')):Γ.wp (execs (toS ir) Γ.env) Q E h tk:=
 wpAny_noRaise (s_all (lv:=true) ir Γ pLaw H.pg H.st hw (λ_=>ht) _ c ρ h tk Q _ g R K (λv ρ' σ' h' tk' _ _ _ g=>ff g) (λ_ _ _ _ _ _ g=>ff g) (λ_ _ _ _ _ _ _ _ _ g=>ff g) PassesOwn.never)
theorem segT(H:LawFx Γ){e:IE}(hw:(wf e).t Γ.env.scope=true){post:Bool->S->Bool}{Q:Bool->Shared->Prop}(R:Rl Γ ρ c h)(g:(ev e).t pLaw c post=true)
 (K:∀b ρ' σ' h' tk',Γ.Ext ρ ρ'->Rl Γ ρ' σ' h'->post b σ'=true->Q b (Γ.sh h' tk')):Γ.wp (isTrue (toE e) Γ.env (eval (toE e) Γ.env)) Q E h tk:=
 wpAny_noRaise ((io_ok H.pg H.st e).t c hw post ρ h tk Q _ g R (λb ρ' σ' h' tk' x _ R' g'=>K b ρ' σ' h' tk' x R' g') (λ_ _ _ _ _ _ _ _ _ g=>ff g))
end
end Mine.Q
namespace Mine.Q
theorem sK_s(i:Nat)(hf:Bool)(r:Option Nat)(two lit w:Bool)(k k3:Nat)(k2:Bool):bi (stB (stV (.str i 403) (.str i 437) hf r two lit w k k3 k2)) (offB (inR 10 400) (stV (.str i 403) (.str i 437) hf r two lit w k k3 k2)) false=true:=by
 cases hf<;>cases r<;>cases two<;>cases lit<;>cases k2<;>exact rfl
theorem sK_i(i:Int)(hf:Bool)(r:Option Nat)(two lit w:Bool)(k k3:Nat)(k2:Bool):bi (stB (stV (.int [] i 403) (.int [] i 437) hf r two lit w k k3 k2)) (offB (inR 10 400) (stV (.int [] i 403) (.int [] i 437) hf r two lit w k k3 k2)) false=true:=by
 cases hf<;>cases r<;>cases two<;>cases lit<;>cases k2<;>exact rfl
theorem le5{u:Nat}(h:u<=5):u=0\/u=1\/u=2\/u=3\/u=4\/u=5:=(by decide:∀u,u<6->u=0\/u=1\/u=2\/u=3\/u=4\/u=5) u (Nat.lt_succ_of_le h)
theorem sK{u:Nat}(hu:u<=5)(hf:Bool)(r:Option Nat)(two lit w:Bool)(k:Nat):stB (stK u hf r two lit w k)=true/\offB (inR 10 400) (stK u hf r two lit w k)=true:=by
 rcases le5 hu with rfl|rfl|rfl|rfl|rfl|rfl
 .exact bi_t (sK_s ..)
 .exact bi_t (sK_i ..)
 .exact bi_t (sK_i ..)
 .exact bi_t (sK_i ..)
 .exact bi_t (sK_s ..)
 .exact bi_t (sK_i ..)
section
variable{prog:Program}{w:World}{Γ:Fx prog w}{ρ ρ' ρ2:Rho}{I:Nat->Bool}{σ c:S}{h:Heap}{hp hpA hpB:Hp}{vs:List (Nat×V)}{nx tk:Nat}{M:Mp}{E:Value->Shared->Prop}
theorem iH_app:∀{A B:Hp},iH I A=true->iH I B=true->iH I (A++B)=true
 |[],_,_,h=>h
 |p::A,B,h1,h2=>by
  obtain⟨a,b⟩:=bi_t (b:=bi (I p.1) (iO I p.2) false) h1
  show bi (bi (I p.1) (iO I p.2) false) (iH I (A++B)) false=true
  rw[a];exact iH_app (A:=A) b h2
theorem Blk.app{A B:Hp}(h1:Blk prog w ρ A)(h2:Blk prog w ρ B):Blk prog w ρ (A++B):=⟨λp hp=>(List.mem_append.mp hp).elim (h1.ok p) (h2.ok p),λp hp=>(List.mem_append.mp hp).elim (h1.so p) (h2.so p)⟩
theorem Blk.l{A B:Hp}(h:Blk prog w ρ (A++B)):Blk prog w ρ A:=⟨λp hp=>h.ok p (List.mem_append_left _ hp),λp hp=>h.so p (List.mem_append_left _ hp)⟩
theorem Blk.r{A B:Hp}(h:Blk prog w ρ (A++B)):Blk prog w ρ B:=⟨λp hp=>h.ok p (List.mem_append_right _ hp),λp hp=>h.so p (List.mem_append_right _ hp)⟩
theorem Rl.blk(R:Rl Γ ρ σ h):Blk prog w ρ σ.hp:=⟨R.ok,R.so⟩
theorem led_app{A B:Hp}:led w ρ (A++B)=led w ρ A++led w ρ B:=List.map_append
noncomputable def Rho.up(ρ:Rho)(fc:List (Nat×Nat))(xs:List (Nat×Value))(ts:List (Nat×Str))(ls:List (Nat×List Value))(ds:List (Nat×List (Int×Value×Value))):Rho where
 c:=(List.range ρ.n).map λi=>((lk fc i).getD (ρ.num i),ρ.obj i)
 X i:=(lk xs i).getD (ρ.X i)
 T i:=(lk ts i).getD (ρ.T i)
 L i:=(lk ls i).getD (ρ.L i)
 D i:=(lk ds i).getD (ρ.D i)
 g:=ρ.g
variable{fc:List (Nat×Nat)}{xs:List (Nat×Value)}{ts:List (Nat×Str)}{ls:List (Nat×List Value)}{ds:List (Nat×List (Int×Value×Value))}
theorem up_n:(ρ.up fc xs ts ls ds).n=ρ.n:=by show(List.map _ _).length=_;rw[List.length_map,List.length_range]
theorem up_num{i:Nat}(hi:i<ρ.n):(ρ.up fc xs ts ls ds).num i=(lk fc i).getD (ρ.num i):=by
 unfold Rho.num
 show((((List.range ρ.n).map λi=>((lk fc i).getD (ρ.num i),ρ.obj i))[i]?).getD (0,default)).1=_
 rw[List.getElem?_map,List.getElem?_range hi];rfl
theorem up_same(h:∀i,I i=true->i<ρ.n/\lk fc i=none/\lk xs i=none/\lk ts i=none/\lk ls i=none/\lk ds i=none):Same ρ (ρ.up fc xs ts ls ds) I:=λi hi=>by
 refine elAAAAA (λa b c d e f=>?_)<|h i hi
 refine mkAAAAA (by rw[up_num a,b];rfl) ?_ ?_ ?_ ?_ ?_
 .unfold Rho.obj
  show((((List.range ρ.n).map λi=>((lk fc i).getD (ρ.num i),ρ.obj i))[i]?).getD (0,default)).2=_
  rw[List.getElem?_map,List.getElem?_range a];rfl
 .show(lk xs i).getD _=_;rw[c];rfl
 .show(lk ts i).getD _=_;rw[d];rfl
 .show(lk ls i).getD _=_;rw[e];rfl
 .show(lk ds i).getD _=_;rw[f];rfl
noncomputable def keys{α:Type}(I:Nat->Bool)(l:List (Nat×α)):Bool:=allB (λp=>bi (I p.1) false true) l
theorem up_same'(hI:∀i,I i=true->i<ρ.n)(h1:keys I fc=true)(h2:keys I xs=true)(h3:keys I ts=true)(h4:keys I ls=true)(h5:keys I ds=true):Same ρ (ρ.up fc xs ts ls ds) I:=
 up_same λi hi=>mkAAAAA (hI i hi) (key_e h1 i hi) (key_e h2 i hi) (key_e h3 i hi) (key_e h4 i hi) (key_e h5 i hi)
theorem scD_e{N:Nat}{o:O}(h:scD N o=true):o.sc N:=by
 cases o
 case dT o b sd ops kn=>
  obtain⟨h1,h⟩:=bi_t h
  obtain⟨h2,h3⟩:=bi_t h
  refine mkAA (λp hp=>scV_e (allB_e h1 p hp)) (λp hp v hv=>?_) (lt_e h3)
  have:=allB_e h2 p hp
  rw[show p.2=some v from hv]at this
  exact scV_e this
 all_goals exact scO_e h
theorem scE_e(h:scE c=true):(∀p∈c.hp,p.1<c.nx/\p.2.sc c.nx)/\∀p∈c.vs,p.2.sc c.nx:=by
 obtain⟨h1,h2⟩:=bi_t h
 exact⟨λp hp=>by
  obtain⟨a,b⟩:=bi_t (allB_e h1 p hp)
  exact⟨lt_e a,scD_e b⟩,λp hp=>scV_e (allB_e h2 p hp)⟩
theorem view_up(H:LawFx Γ){hp':Hp}(R:Rl Γ ρ ⟨hp,vs,nx⟩ h)(same:Same ρ (ρ.up fc xs ts ls ds) I)(h0:I 0=true)(hvs:allB (λp=>iV I p.2) vs=true)(ux:∀p∈xs,handedIn p.2=true)(ul:∀p∈ls,p.2.length<=90/\∀v∈p.2,handedIn v=true)(ud:∀p∈ds,p.2.length<=90/\∀e∈p.2,AlkV e.2.1 e.2.2)
 (el:led w (ρ.up fc xs ts ls ds) hp'=led w ρ hp)(ok:∀p∈hp',okO prog w (ρ.up fc xs ts ls ds) ((ρ.up fc xs ts ls ds).num p.1) p.2)(sc:scE ⟨hp',vs,nx⟩=true):Rl Γ (ρ.up fc xs ts ls ds) ⟨hp',vs,nx⟩ h:=by
 obtain⟨s1,s2⟩:=scE_e sc
 have n1:(ρ.up fc xs ts ls ds).n=nx:=up_n.trans R.ln
 refine Rl.view (c:=⟨hp',vs,nx⟩) H.st R n1 rfl (by rw[el]) ⟨ok,λp hp=>by rw[n1];exact s1 p hp⟩ (λp hp=>by rw[n1];exact s2 p hp) (λi=>?_) (λi=>?_) (λi=>?_) (λi=>?_) (λi v hl=>⟨v,hl,(same_iv same (allB_e hvs _ (lk_mem hl))).symm⟩) (λi n e=>?_)
 .show handedIn ((lk xs i).getD _)=true
  rcases e:lk xs i with _|x
  .exact R.hx i
  .exact ux _ (lk_mem e)
 .show((lk ls i).getD _).length<=90
  rcases e:lk ls i with _|x
  .exact R.ll i
  .exact(ul _ (lk_mem e)).1
 .show∀v∈(lk ls i).getD _,_
  rcases e:lk ls i with _|x
  .exact R.lh i
  .exact(ul _ (lk_mem e)).2
 .show((lk ds i).getD _).length<=90/\∀e∈(lk ds i).getD _,_
  rcases e:lk ds i with _|x
  .exact R.dd i
  .exact ud _ (lk_mem e)
 .rw[H.ci,lk_cons]at e
  rcases q:Nat.beq i 56 with _|_
  .rw[q]at e;cases e
  .rw[q]at e
   have e:some 0=some n:=e
   cases e
   refine elEA (λm F cv=>?_)<|R.fr
   refine⟨?_,(same 0 h0).1⟩
   have:=((H.cv _ _ _).mp cv).2 56 0 H.ck (by rw[H.ci];rfl)
   rw[up_n];exact this.1
end
end Mine.Q
namespace Mine.Q
noncomputable def isU(o k:Nat):Prop:=(o=100/\k=6)\/(o=200/\k=5)\/(o=300/\k=7)
theorem isUk{o k:Nat}{P:Nat->Nat->Prop}(hu:isU o k)(a:P 100 6)(b:P 200 5)(c:P 300 7):P o k:=by
 rcases hu with⟨rfl,rfl⟩|⟨rfl,rfl⟩|⟨rfl,rfl⟩
 .exact a
 .exact b
 .exact c
theorem isU3{o k:Nat}{P:Nat->Prop}(hu:isU o k)(a:P 100)(b:P 200)(c:P 300):P o:=isUk (P:=λx _=>P x) hu a b c
noncomputable def isF(f:Nat):Prop:=f=165\/f=166
structure Bd(ρ:Rho)(b:Nat):Prop where
 inp:(ρ.L 50).length+(ρ.L 51).length<=3
 out:(ρ.L 52).length<=b
 un:∀o k,isU o k->(ρ.L o).length+(ρ.L (o+70)).length<=b/\(ρ.D o).length<=b/\∃f,isF f/\ρ.T o=nm f
section
variable{prog:Program}{w:World}{Γ:Fx prog w}{ρ ρ' ρ2:Rho}{I:Nat->Bool}{σ c:S}{h:Heap}{hp hpA hpB:Hp}{vs:List (Nat×V)}{nx tk b:Nat}{M:Mp}{E:Value->Shared->Prop}
theorem Bd.same(B:Bd ρ b)(S:Same ρ ρ' I)(h:∀i,10<=i->i<400->I i=true):Bd ρ' b:=by
 have e:∀i,10<=i->i<400->ρ'.L i=ρ.L i/\ρ'.D i=ρ.D i/\ρ'.T i=ρ.T i:=λi h1 h2=>by
  refine elAAAAA (λ_ _ _ t l d=>?_)<|S i (h i h1 h2)
  exact mkAA l d t
 refine⟨by rw[(e 50 (by decide) (by decide)).1,(e 51 (by decide) (by decide)).1];exact B.inp,by rw[(e 52 (by decide) (by decide)).1];exact B.out,λo k hu=>?_⟩
 have hu':=hu
 have:=B.un o k hu
 have h1:10<=o/\o+70<400:=by apply isU3 hu'<;>decide
 have h2:=e o h1.1 (Nat.lt_of_le_of_lt (Nat.le_add_right o 70) h1.2)
 rw[h2.1,(e (o+70) (Nat.le_trans h1.1 (Nat.le_add_right o 70)) h1.2).1,h2.2.1,h2.2.2]
 exact this
theorem itsB_ok:∀{ss:List Sg} {n:Nat},itsB ss n=true->(sgs ρ ss).length<=n
 |[],_,_=>Nat.zero_le _
 |.it v::ss,0,g=>ff g
 |.it v::ss,n+1,g=>Nat.succ_le_succ (itsB_ok (ss:=ss) (n:=n) g)
 |.sg _::_,_,g=>ff g
theorem pfx_ok:∀{s0 ss:List Sg},pfxB s0 ss=true->(sgs ρ ss).length<=(sgs ρ s0).length+2
 |[],ss,g=>by have:=itsB_ok (ρ:=ρ) (ss:=ss) (n:=2) g;show _<=0+2;omega
 |x::s0,[],g=>Nat.zero_le _
 |x::s0,y::ss,g=>by
  rcases bi_e (b:=sameG x y) (p:=pfxB s0 ss) (q:=itsB (y::ss) 2) g with⟨e,g⟩|⟨-,g⟩
  .have:=pfx_ok (s0:=s0) (ss:=ss) g
   rw[←sameG_e e]
   show(sv ρ x++sgs ρ ss).length<=(sv ρ x++sgs ρ s0).length+2
   rw[List.length_append,List.length_append];omega
  .have:=itsB_ok (ρ:=ρ) g;omega
theorem atE_e{n i:Nat}{k:V->Bool}(g:atE hp n i k=true):∃v,k v=true:=by
 refine elEA (λo z390 g=>?_)<|oe_e (o:=lk hp n) g;clear z390
 cases o<;>first|exact ff g|skip
 .refine elEA (λe z391 g=>?_)<|oe_e (o:=lk _ i) g;clear z391
  exact⟨_,g⟩
 .refine elEA (λe z392 g=>?_)<|oe_e (o:=lk _ i) g;clear z392
  exact⟨_,g⟩
theorem lsS_e{n:Nat}{k:List Sg->Bool}(g:lsS hp n k=true):∃v,k v=true:=by
 refine elEA (λo z393 g=>?_)<|oe_e (o:=lk hp n) g;clear z393
 cases o<;>first|exact ff g|exact⟨_,g⟩
theorem dtO_e{n:Nat}{k:List (Nat×V)->Bool}(g:dtO hp n k=true):∃v,k v=true:=by
 refine elEA (λo z394 g=>?_)<|oe_e (o:=lk hp n) g;clear z394
 cases o<;>first|exact ff g|exact⟨_,g⟩
theorem split_e{ss:List Sg}{as:List Nat}{c:Nat}{k:List Sg->List Sg->Bool}(g:(takS ss as c λt1=>drpS ss as c λt2=>k t1 t2)=true):∃t1 t2,(∀ρ:Rho,sgs ρ t1++sgs ρ t2=sgs ρ ss)/\k t1 t2=true:=by
 refine elEAA (λt1 g z395 e1=>?_)<|tak_e (k:=λt1=>drpS ss as c λt2=>k t1 t2) g;clear z395
 refine elEAA (λt2 g z396 e2=>?_)<|drp_e (k:=λt2=>k t1 t2) g;clear z396
 exact mkEEA t1 t2 (λρ=>by rw[←e1,←e2];exact List.take_append_drop ..) g
theorem endS_e{inp:List Sg}{k:List (Nat×Nat)->List (Nat×List Sg)->Bool}(g:endS σ inp k=true):∃nb t1 t2 so,(∀ρ:Rho,sgs ρ t1++sgs ρ t2=sgs ρ inp)/\pfxB [.sg 52] so=true/\k [(22,nb)] [(50,t1),(51,t2),(52,so)]=true:=by
 obtain⟨av,g⟩:=atE_e g
 refine elEEEA (λas c t z397 g=>?_)<|int_e (v:=av) g;clear z397
 refine elEA (λc z398 g=>?_)<|onN_e (a:=c) g;clear z398
 obtain⟨ss,g⟩:=lsS_e g
 obtain⟨e,g⟩:=cd_e (b:=sameS ss inp) g
 refine elEEA (λt1 t2 h12 g=>?_)<|split_e (ss:=ss) (as:=as) (c:=c) g
 obtain⟨so,g⟩:=lsS_e g
 obtain⟨p,g⟩:=cd_e (b:=pfxB _ so) g
 obtain⟨bv,g⟩:=atE_e g
 refine elEA (λnb z399 g=>?_)<|ref_e (v:=bv) g;clear z399
 exact⟨nb,t1,t2,so,λρ=>by rw[h12,sameS_e e],p,g⟩
theorem zipO_e:∀{a c:List (Nat×V)} {k:List (Nat×V×V)->Bool},zipO a c k=true->∃ps,ps.length=a.length/\k ps=true
 |[],[],k,g=>⟨[],rfl,g⟩
 |[],_::_,_,g=>ff g
 |_::_,[],_,g=>ff g
 |p::a,q::c,k,g=>by
  refine elEA (λps e g=>?_)<|zipO_e (a:=a) (c:=c) (k:=λl=>k ((p.1,p.2,q.2)::l)) g
  exact⟨_,congrArg (·+1) e,g⟩
theorem st3_len{l:List (Int×Value×Value)}{j:Int}{v u:Value}:(st3 l j v u).length<=l.length+1:=by
 unfold st3
 split
 .rw[List.length_map];omega
 .rw[List.length_append];exact Nat.le_refl _
theorem dOf_len{o:Nat}:∀{ps:List (Nat×V×V)},(dOf ρ (some o,ps)).length<=(ρ.D o).length+ps.length
 |[]=>Nat.le_refl _
 |p::ps=>by
  have:=dOf_len (o:=o) (ps:=ps)
  have h2:=st3_len (l:=dOf ρ (some o,ps)) (j:=(p.1:Int)) (v:=iv ρ p.2.1) (u:=iv ρ p.2.2)
  show(st3 (dOf ρ (some o,ps)) _ _ _).length<=_+(ps.length+1)
  omega
structure BsOk(ρ ρ':Rho)(b:Nat):Prop where
 inp:(ρ'.L 50).length+(ρ'.L 51).length<=3
 out:(ρ'.L 52).length<=b+2
 d1:ρ'.D 57=ρ.D 57
 d2:ρ'.D 58=ρ.D 58
theorem ls_b{ls:List (Nat×List Sg)}(h:∀p∈ls,(sgs ρ p.2).length<=90):∀i ss,lk ls i=some ss->(sgs ρ ss).length<=90:=λi ss e=>h _ (lk_mem e)
theorem b90{x y b:Nat}(h:x+y<=b+2)(hb:b<=60):x<=90/\y<=90:=by omega
theorem b93{x y:Nat}(h:x+y<=3):x<=90/\y<=90:=by omega
theorem b92{x b:Nat}(h:x<=b+2)(hb:b<=60):x<=90:=by omega
theorem len_app2{α:Type}{a c d:List α}(h:a++c=d):a.length+c.length=d.length:=by rw[←h,List.length_append]
theorem out0_lt:∀i,out0 i=true->i<450:=λi h=>by
 rcases bi_e h with⟨h,-⟩|⟨-,h⟩
 .exact Nat.lt_of_lt_of_le (lt_e h) (Nat.le_of_ble_eq_true rfl)
 rcases bi_e h with⟨h,-⟩|⟨-,h⟩
 .exact Nat.lt_of_lt_of_le (lt_e (bi_t h).2) (Nat.le_of_ble_eq_true rfl)
 .exact Nat.lt_of_lt_of_le (lt_e (bi_t h).2) (Nat.le_of_ble_eq_true rfl)
theorem outV_lt{o:Nat}:∀i,outV o i=true->i<450:=λi h=>by
 rcases bi_e h with⟨h,-⟩|⟨-,h⟩
 .exact Nat.lt_of_lt_of_le (lt_e h) (Nat.le_of_ble_eq_true rfl)
 rcases bi_e h with⟨-,h⟩|⟨-,h⟩
 .exact ff h
 .exact Nat.lt_of_lt_of_le (lt_e (bi_t h).2) (Nat.le_of_ble_eq_true rfl)
theorem outU_lt{o:Nat}:∀i,outU o i=true->i<450:=λi h=>by
 rcases bi_e h with⟨h,-⟩|⟨-,h⟩
 .exact Nat.lt_of_lt_of_le (lt_e h) (Nat.le_of_ble_eq_true rfl)
 rcases bi_e h with⟨h,-⟩|⟨-,h⟩
 .exact Nat.lt_of_lt_of_le (lt_e (bi_t h).2) (Nat.le_of_ble_eq_true rfl)
 rcases bi_e h with⟨-,h⟩|⟨-,h⟩
 .exact ff h
 .exact Nat.lt_of_lt_of_le (lt_e (bi_t h).2) (Nat.le_of_ble_eq_true rfl)
theorem outN_lt:∀i,outN i=true->i<450:=λi h=>by
 rcases bi_e h with⟨h,-⟩|⟨-,h⟩
 .exact Nat.lt_of_lt_of_le (lt_e h) (Nat.le_of_ble_eq_true rfl)
 rcases bi_e h with⟨h,-⟩|⟨-,h⟩
 .exact Nat.lt_of_lt_of_le (lt_e (bi_t h).2) (Nat.le_of_ble_eq_true rfl)
 .exact Nat.lt_of_lt_of_le (lt_e (bi_t h).2) (Nat.le_of_ble_eq_true rfl)
theorem tg0_st:∀two,stB (tg0 two)=true/\offB out0 (tg0 two)=true:=by intro two;cases two<;>exact⟨rfl,rfl⟩
theorem tgN_st:∀two,stB (tgN two)=true/\offB outN (tgN two)=true:=by intro two;cases two<;>exact⟨rfl,rfl⟩
theorem tgU_st{o k:Nat}(hu:isU o k){two:Bool}{s:US}:stB (tgU o k (lsl two) s)=true/\offB (outU o) (tgU o k (lsl two) s)=true:=by
 apply isUk hu<;>cases two<;>cases s<;>exact⟨rfl,rfl⟩
theorem tgV_st{o k:Nat}(hu:isU o k){two k2:Bool}{k3:Nat}:stB (tgU o k (app (lsl two) (lsi two k3 k2)) .di)=true/\offB (outV o) (tgU o k (app (lsl two) (lsi two k3 k2)) .di)=true:=by
 apply isUk hu<;>cases two<;>cases k2<;>exact⟨rfl,rfl⟩
theorem fin0(H:LawFx Γ)(R:Rl Γ ρ σ h){two:Bool}{inp:List Sg}(g:end0 two inp σ=true)(hi:(sgs ρ inp).length<=3)(ho:(ρ.L 52).length<=b)(hb:b<=60):∃ρ',Rl Γ ρ' (tg0 two) h/\Same ρ ρ' out0/\ρ'.g=ρ.g/\BsOk ρ ρ' b:=by
 refine elEEEEAA (λnb t1 t2 so h12 hp g=>?_)<|endS_e g
 have ht:(sgs ρ t1).length+(sgs ρ t2).length<=3:=Nat.le_trans (Nat.le_of_eq (len_app2 (h12 ρ))) hi
 have lo2:(sgs ρ [.sg 52]).length=(ρ.L 52).length:=by show(ρ.L 52++[]).length=_;rw[List.append_nil]
 have hs:(sgs ρ so).length<=b+2:=Nat.le_trans (pfx_ok (ρ:=ρ) hp) (Nat.add_le_add_right (Nat.le_trans (Nat.le_of_eq lo2) ho) 2)
 obtain⟨ρ',R',G,S,eg⟩:=gen2 H R g (tg0_st two).1 (tg0_st two).2 out0_lt (Nat.zero_lt_succ 449) (ls_b (fc ((b93 ht).1)<|fc ((b93 ht).2)<|fc (b92 hs hb) fz)) (λ_ _ e=>nomatch e)
 refine⟨ρ',R',S,eg,?_,?_,G.D 57,G.D 58⟩
 .rw[G.L 50,G.L 51];exact ht
 .rw[G.L 52];exact hs
theorem finN(H:LawFx Γ)(R:Rl Γ ρ σ h){two:Bool}(g:endN two σ=true):∃ρ',Rl Γ ρ' (tgN two) h/\Same ρ ρ' outN/\ρ'.g=ρ.g:=by
 obtain⟨ρ',R',G,S,eg⟩:=gen2 H R g (tgN_st two).1 (tgN_st two).2 outN_lt (Nat.zero_lt_succ 449) (λ_ _ e=>nomatch e) (λ_ _ e=>nomatch e)
 exact mkEAA ρ' R' S eg
theorem lsU{α:Type}{o k:Nat}(hu:isU o k){a b x y z:α}:lk [(o,a),(Nat.add o 70,b),(50,x),(51,y),(52,z)] 50=some x/\lk [(o,a),(Nat.add o 70,b),(50,x),(51,y),(52,z)] 51=some y/\lk [(o,a),(Nat.add o 70,b),(50,x),(51,y),(52,z)] 52=some z/\lk [(o,a),(Nat.add o 70,b),(50,x),(51,y),(52,z)] o=some a/\lk [(o,a),(Nat.add o 70,b),(50,x),(51,y),(52,z)] (o+70)=some b:=by
 apply isUk hu<;>exact mkAAAA rfl rfl rfl rfl rfl
theorem oU{α:Type}{o k:Nat}(hu:isU o k){a:α}:lk [(o,a)] o=some a/\lk [(o,a)] 57=none/\lk [(o,a)] 58=none:=by
 apply isUk hu<;>exact mkAA rfl rfl rfl
structure UnOk(ρ ρ':Rho)(o f b:Nat):Prop where
 n0:ρ'.num o=ρ.num o
 n40:ρ'.num (o+40)=ρ.num (o+40)
 l:(ρ'.L o).length+(ρ'.L (o+70)).length<=b+2
 d:(ρ'.D o).length<=b+2
 t:ρ'.T o=nm f
theorem foU{o k:Nat}(hu:isU o k){x y z:Nat}:evn o=true/\evn (o+40)=true/\lk [(Nat.add o 8,x),(Nat.add o 44,y),(22,z)] o=none/\lk [(Nat.add o 8,x),(Nat.add o 44,y),(22,z)] (o+40)=none/\o+40<450:=by
 apply isUk hu<;>exact mkAAAA rfl rfl rfl rfl (by omega)
theorem pa_ne:US.pa≠US.ab:=λe=>nomatch e
theorem sp_ne:US.sp≠US.ab:=λe=>nomatch e
theorem di_ne:US.di≠US.ab:=λe=>nomatch e
theorem finQ(H:LawFx Γ)(R:Rl Γ ρ σ h){o k f:Nat}(hu:isU o k){two:Bool}{r0:List Sg}(g:endQ o k (lsl two) f r0 σ=true)(hi:(ρ.L 50).length+(ρ.L 51).length<=3)(ho:(ρ.L 52).length<=b)(hr:(sgs ρ r0).length<=b)(hd:(ρ.D o).length<=b)(hb:b<=60):
 ∃ρ' s,s≠US.ab/\Rl Γ ρ' (tgU o k (lsl two) s) h/\Same ρ ρ' (outU o)/\ρ'.g=ρ.g/\BsOk ρ ρ' b/\UnOk ρ ρ' o f b:=by
 refine elEEEEAA (λnb t1 t2 so h12 hp g=>?_)<|endS_e g
 have lo2:(sgs ρ [.sg 52]).length=(ρ.L 52).length:=by show(ρ.L 52++[]).length=_;rw[List.append_nil]
 have lo:(sgs ρ so).length<=(ρ.L 52).length+2:=Nat.le_trans (pfx_ok (ρ:=ρ) hp) (Nat.le_of_eq (congrArg (·+2) lo2))
 have l50:(sgs ρ [.sg 50,.sg 51]).length=(ρ.L 50).length+(ρ.L 51).length:=by show(ρ.L 50++(ρ.L 51++[])).length=_;rw[List.append_nil,List.length_append]
 have ht:(sgs ρ t1).length+(sgs ρ t2).length<=3:=Nat.le_trans (Nat.le_of_eq ((len_app2 (h12 ρ)).trans l50)) hi
 have hs:(sgs ρ so).length<=b+2:=Nat.le_trans lo (Nat.add_le_add_right ho 2)
 obtain⟨pv,g⟩:=atE_e g
 refine elEEEA (λas c t z400 g=>?_)<|int_e (v:=pv) g;clear z400
 refine elEA (λc z401 g=>?_)<|onN_e (a:=c) g;clear z401
 obtain⟨rv,g⟩:=atE_e g
 refine elEA (λnr z402 g=>?_)<|ref_e (v:=rv) g;clear z402
 obtain⟨rv2,g⟩:=atE_e g
 refine elEA (λnr2 z403 g=>?_)<|ref_e (v:=rv2) g;clear z403
 obtain⟨ss,g⟩:=lsS_e g
 obtain⟨p,g⟩:=cd_e (b:=pfxB r0 ss) g
 have lr:=Nat.le_trans (pfx_ok (ρ:=ρ) p) (Nat.add_le_add_right hr 2)
 have core:∀(M:Mp) (s:US) (r1 r2:List Sg),M.ls=[(o,r1),(Nat.add o 70,r2),(50,t1),(51,t2),(52,so)]->M.ds=[]->M.ts=[(o,f)]->M.om=[(Nat.add o 8,nr),(Nat.add o 44,nr2),(22,nb)]->(sgs ρ r1).length+(sgs ρ r2).length<=b+2->s≠US.ab->genK (outU o) M (tgU o k (lsl two) s) σ=true->
  ∃ρ' s,s≠US.ab/\Rl Γ ρ' (tgU o k (lsl two) s) h/\Same ρ ρ' (outU o)/\ρ'.g=ρ.g/\BsOk ρ ρ' b/\UnOk ρ ρ' o f b:=λM s r1 r2 e1 e2 e3 e4 hl ns g=>by
  obtain⟨ρ',R',G,S,eg⟩:=gen2 H R g (tgU_st hu).1 (tgU_st hu).2 outU_lt (Nat.zero_lt_succ 449) (by
   rw[e1]
   exact ls_b (fc ((b90 hl hb).1)<|fc ((b90 hl hb).2)<|fc ((b93 ht).1)<|fc ((b93 ht).2)<|fc (b92 hs hb) fz)) (by rw[e2];exact λ_ _ e=>nomatch e)
  refine elAAAA (λq1 q2 q3 q4 q5=>?_)<|lsU hu (a:=r1) (b:=r2) (x:=t1) (y:=t2) (z:=so)
  refine elAAAA (λv1 v2 v3 v4 v5=>?_)<|foU hu (x:=nr) (y:=nr2) (z:=nb)
  have nn:ρ'.n=450:=R'.ln
  have w2:o+40<ρ'.n:=nn.symm▸v5
  have w1:o<ρ'.n:=Nat.lt_of_le_of_lt (Nat.le_add_right o 40) w2
  refine⟨ρ',s,ns,R',S,eg,⟨?_,?_,?_,?_⟩,⟨by rw[G.n o w1 v1];unfold fo;rw[e4,v3],by rw[G.n (o+40) w2 v2];unfold fo;rw[e4,v4],?_,?_,?_⟩⟩
  .rw[G.L 50,G.L 51,e1,q1,q2];exact ht
  .rw[G.L 52,e1,q3];exact hs
  .rw[G.D,e2];rfl
  .rw[G.D,e2];rfl
  .rw[G.L o,G.L (o+70),e1,q4,q5];exact hl
  .rw[G.D,e2];exact Nat.le_trans hd (Nat.le_add_right _ _)
  .rw[G.T,e3,(oU hu).1]
 rcases bi_e g with⟨-,g⟩|⟨-,g⟩
 .exact core _ _ ss [] rfl rfl rfl rfl lr pa_ne g
 .refine elEEA (λr1 r2 hr12 g=>?_)<|split_e (ss:=ss) (as:=as) (c:=c) g
  have:=len_app2 (hr12 ρ)
  exact core _ _ r1 r2 rfl rfl rfl rfl (Nat.le_trans (Nat.le_of_eq this) lr) sp_ne g
theorem ls3U{α:Type}{o k:Nat}(hu:isU o k){x y z:α}:lk [(50,x),(51,y),(52,z)] o=none/\lk [(50,x),(51,y),(52,z)] (o+70)=none:=by
 apply isUk hu<;>exact⟨rfl,rfl⟩
theorem finD(H:LawFx Γ)(R:Rl Γ ρ σ h){o k f:Nat}(hu:isU o k){Io:Nat->Bool}{ext:Hp}(hst:stB (tgU o k ext .di)=true/\offB Io (tgU o k ext .di)=true)(hlt:∀i,Io i=true->i<450)(g:endD o k Io ext f σ=true)(hi:(ρ.L 50).length+(ρ.L 51).length<=3)(ho:(ρ.L 52).length<=b)(hl:(ρ.L o).length+(ρ.L (o+70)).length<=b)(hd:(ρ.D o).length<=b)(hb:b<=60):
 ∃ρ',Rl Γ ρ' (tgU o k ext .di) h/\Same ρ ρ' Io/\ρ'.g=ρ.g/\BsOk ρ ρ' b/\UnOk ρ ρ' o f b:=by
 refine elEEEEAA (λnb t1 t2 so h12 hp g=>?_)<|endS_e g
 have lo2:(sgs ρ [.sg 52]).length=(ρ.L 52).length:=by show(ρ.L 52++[]).length=_;rw[List.append_nil]
 have lo:(sgs ρ so).length<=(ρ.L 52).length+2:=Nat.le_trans (pfx_ok (ρ:=ρ) hp) (Nat.le_of_eq (congrArg (·+2) lo2))
 have l50:(sgs ρ [.sg 50,.sg 51]).length=(ρ.L 50).length+(ρ.L 51).length:=by show(ρ.L 50++(ρ.L 51++[])).length=_;rw[List.append_nil,List.length_append]
 have ht:(sgs ρ t1).length+(sgs ρ t2).length<=3:=Nat.le_trans (Nat.le_of_eq ((len_app2 (h12 ρ)).trans l50)) hi
 have hs:(sgs ρ so).length<=b+2:=Nat.le_trans lo (Nat.add_le_add_right ho 2)
 obtain⟨pv,g⟩:=atE_e g
 obtain⟨rv,g⟩:=atE_e g
 refine elEA (λnr z404 g=>?_)<|ref_e (v:=rv) g;clear z404
 obtain⟨rv2,g⟩:=atE_e g
 refine elEA (λnr2 z405 g=>?_)<|ref_e (v:=rv2) g;clear z405
 obtain⟨ops,g⟩:=dtO_e g
 obtain⟨ops2,g⟩:=dtO_e g
 obtain⟨l2,g⟩:=cd_e (b:=Nat.ble (len ops) 2) g
 have l2:ops.length<=2:=by rw[←len_eq];exact Nat.le_of_ble_eq_true l2
 refine elEA (λps lp g=>?_)<|zipO_e g
 have dl:=dOf_len (ρ:=ρ) (o:=o) (ps:=ps)
 obtain⟨ρ',R',G,S,eg⟩:=gen2 H R g hst.1 hst.2 hlt (Nat.zero_lt_succ 449) (ls_b (fc ((b93 ht).1)<|fc ((b93 ht).2)<|fc (b92 hs hb) fz)) (λi x e=>by
  have:=lk_mem e
  rw[List.mem_singleton]at this
  cases this
  omega)
 refine elAA (λq1 q2 q3=>?_)<|oU hu (a:=((some o,ps):Option Nat×List (Nat×V×V)))
 obtain⟨u1,u2⟩:=ls3U hu (x:=t1) (y:=t2) (z:=so)
 refine elAAAA (λv1 v2 v3 v4 v5=>?_)<|foU hu (x:=nr) (y:=nr2) (z:=nb)
 have nn:ρ'.n=450:=R'.ln
 have w2:o+40<ρ'.n:=nn.symm▸v5
 have w1:o<ρ'.n:=Nat.lt_of_le_of_lt (Nat.le_add_right o 40) w2
 refine⟨ρ',R',S,eg,⟨?_,?_,?_,?_⟩,⟨by rw[G.n o w1 v1];unfold fo;rw[v3],by rw[G.n (o+40) w2 v2];unfold fo;rw[v4],?_,?_,?_⟩⟩
 .rw[G.L 50,G.L 51];exact ht
 .rw[G.L 52];exact hs
 .rw[G.D,q2]
 .rw[G.D,q3]
 .rw[G.L o,G.L (o+70),u1,u2];show(ρ.L o).length+(ρ.L (o+70)).length<=_;omega
 .rw[G.D,q1];show(dOf ρ (some o,ps)).length<=_;omega
 .rw[G.T,(oU hu).1]
end
end Mine.Q
namespace Mine.Q
section
variable{prog:Program}{w:World}{Γ:Fx prog w}{ρ ρ' ρ2:Rho}{I:Nat->Bool}{σ c:S}{h:Heap}{hp hpA hpB:Hp}{vs:List (Nat×V)}{nx tk b:Nat}{M:Mp}{E:Value->Shared->Prop}
noncomputable def iBs(i:Nat):Bool:=bi (inR 10 51 i) true (inR 52 55 i)
theorem dS_view{o:Nat}{kvs kvs':List (Nat×V)}{a:Addr}(e:kvI ρ' kvs'=kvI ρ kvs)(ho:ρ'.obj o=ρ.obj o)(K:okO prog w ρ a (.dS o kvs)):okO prog w ρ' a (.dS o kvs'):=by
 obtain⟨⟨l,k1,k2,k3⟩,k4⟩:=K
 refine⟨⟨l,by rw[ho];exact k1,?_,λj=>?_⟩,k4⟩
 .have:=congrArg List.length e
  simp only[kvI,List.length_map]at this
  omega
 .rw[k3,kvI_lk,kvI_lk,e]
theorem led2{p p':Nat×O}{hp hp':Hp}(hn:ρ'.num p'.1=ρ.num p.1)(hi:io w ρ' p'.2=io w ρ p.2)(ht:led w ρ' hp'=led w ρ hp):led w ρ' (p'::hp')=led w ρ (p::hp):=by
 show(ρ'.num p'.1,io w ρ' p'.2)::led w ρ' hp'=(ρ.num p.1,io w ρ p.2)::led w ρ hp
 rw[hn,hi,ht]
theorem bas_view{inp inp' inb inb':List Sg}{ud ud' bd bd':O}(H:Same ρ ρ' iBs)(h1:sgs ρ' inp'=sgs ρ inp)(h2:sgs ρ' inb'=sgs ρ inb)(h3:io w ρ' ud'=io w ρ ud)(h4:io w ρ' bd'=io w ρ bd):led w ρ' (bas inp' inb' ud' bd')=led w ρ (bas inp inb ud bd):=by
 have n:∀i,iBs i=true->ρ'.num i=ρ.num i:=λi a=>(H i a).1
 unfold bas
 refine led2 (n 10 rfl) (same_io H rfl) (led2 (n 12 rfl) (same_io H rfl) (led2 (n 14 rfl) ?_ (led2 (n 16 rfl) (same_io H rfl) (led2 (n 18 rfl) h3 (led2 (n 20 rfl) (same_io H rfl) (led2 (n 22 rfl) ?_ (led2 (n 24 rfl) (same_io H rfl) (led2 (n 26 rfl) h4 rfl))))))))
 .show listOf (sgs ρ' inp').toArray (ρ'.num 29)=listOf (sgs ρ inp).toArray (ρ.num 29)
  rw[h1,n 29 rfl]
 .show listOf (sgs ρ' inb').toArray (ρ'.num 37)=listOf (sgs ρ inb).toArray (ρ.num 37)
  rw[h2,n 37 rfl]
theorem bas_ok{inp inp' inb inb':List Sg}{ud ud' bd bd':O}(H:Same ρ ρ' iBs)(K:∀p∈bas inp inb ud bd,okO prog w ρ (ρ.num p.1) p.2)(h3:okO prog w ρ' (ρ'.num 18) ud')(h4:okO prog w ρ' (ρ'.num 26) bd'):∀p∈bas inp' inb' ud' bd',okO prog w ρ' (ρ'.num p.1) p.2:=by
 have k20:=K (20,_) (.tail _ (.tail _ (.tail _ (.tail _ (.tail _ (.head _))))))
 refine fc trivial<|fc trivial<|fc trivial<|fc trivial<|fc h3<|fc (?_)<|fc trivial<|fc trivial<|fc h4<|λ_ h=>absurd h List.not_mem_nil
 rw[(H 20 rfl).1]
 exact same_ok H rfl k20
theorem bas_18{inp inb:List Sg}{ud bd:O}(K:∀p∈bas inp inb ud bd,okO prog w ρ (ρ.num p.1) p.2):okO prog w ρ (ρ.num 18) ud/\okO prog w ρ (ρ.num 26) bd:=
 ⟨K (18,ud) (.tail _ (.tail _ (.tail _ (.tail _ (.head _))))),K (26,bd) (.tail _ (.tail _ (.tail _ (.tail _ (.tail _ (.tail _ (.tail _ (.tail _ (.head _)))))))))⟩
noncomputable def Sm(ρ ρ':Rho)(o:Nat):Prop:=∀j,j<60->ρ'.num (Nat.add o j)=ρ.num (Nat.add o j)/\ρ'.obj (Nat.add o j)=ρ.obj (Nat.add o j)/\ρ'.X (Nat.add o j)=ρ.X (Nat.add o j)
section
variable{o k acc len:Nat}{fv fv':Nat->V}{rows rows':List Sg}{pl pl' pl2 pl2':V}{tb tb' tb2 tb2':O}
theorem blg_view(H:Sm ρ ρ' o)(hf1:iv ρ' (fv' (Nat.add o 23))=iv ρ (fv (Nat.add o 23)))(hf2:iv ρ' (fv' (Nat.add o 45))=iv ρ (fv (Nat.add o 45)))(hr:sgs ρ' rows'=sgs ρ rows)(hp:iv ρ' pl'=iv ρ pl)(hp2:iv ρ' pl2'=iv ρ pl2)(ht:io w ρ' tb'=io w ρ tb)(ht2:io w ρ' tb2'=io w ρ tb2):led w ρ' (blg o k acc len fv' rows' pl' pl2' tb' tb2')=led w ρ (blg o k acc len fv rows pl pl2 tb tb2):=by
 have n:∀j,j<60->ρ'.num (Nat.add o j)=ρ.num (Nat.add o j):=λj h=>(H j h).1
 have i:∀c t,t<60->ρ'.num (Nat.add o t)=ρ.num (Nat.add o t)->iv ρ' (.int [] (Int.ofNat c) (Nat.add o t))=iv ρ (.int [] (Int.ofNat c) (Nat.add o t)):=λc t _ e=>by
  show Value.int (0+_) _=Value.int (0+_) _
  rw[e]
 have s:∀x t,t<60->iv ρ' (.str x (Nat.add o t))=iv ρ (.str x (Nat.add o t)):=λx t h=>congrArg (Value.str (nm x)) (n t h)
 have r:∀t,t<60->iv ρ' (.ref (Nat.add o t))=iv ρ (.ref (Nat.add o t)):=λt h=>congrArg Value.ref (n t h)
 have x:∀t,t<60->iv ρ' (.opq (Nat.add o t))=iv ρ (.opq (Nat.add o t)):=λt h=>(H t h).2.2
 have en:∀key t v v',t<60->iv ρ' v'=iv ρ v->entry w ρ' (key,Nat.add o t,v')=entry w ρ (key,Nat.add o t,v):=λkey t v v' h e=>by
  unfold entry
  rw[show ρ'.num (key,Nat.add o t,v').2.1=ρ.num (key,Nat.add o t,v).2.1 from n t h,show iv ρ' (key,Nat.add o t,v').2.2=iv ρ (key,Nat.add o t,v).2.2 from e]
 have d:∀es es' t,t<60->es'.map (entry w ρ')=es.map (entry w ρ)->io w ρ' (.attrs es' (Nat.add o t))=io w ρ (.attrs es (Nat.add o t)):=λes es' t h e=>by
  show dictOf _ _=dictOf _ _
  rw[e,n t h]
 have c2:∀{a b:DictEntry} {l l':List DictEntry},a=b->l=l'->a::l=b::l':=λe1 e2=>by rw[e1,e2]
 have lt:∀j,Nat.blt j 60=true->j<60:=λj h=>Nat.le_of_ble_eq_true h
 unfold blg
 refine led2 (n 0 (lt _ rfl)) (congrArg (instObj 142) (n 2 (lt _ rfl))) ?_
 refine led2 (n 2 (lt _ rfl)) (d _ _ 13 (lt _ rfl) (c2 (en _ 1 _ _ (lt _ rfl) (i _ 3 (lt _ rfl) (n 3 (lt _ rfl)))) (c2 (en _ 5 _ _ (lt _ rfl) (r 4 (lt _ rfl))) (c2 (en _ 7 _ _ (lt _ rfl) (x 0 (lt _ rfl))) (c2 (en _ 9 _ _ (lt _ rfl) hp) rfl))))) ?_
 refine led2 (n 4 (lt _ rfl)) (congrArg (instObj 100) (n 6 (lt _ rfl))) ?_
 refine led2 (n 6 (lt _ rfl)) (d _ _ 33 (lt _ rfl) (c2 (en _ 15 _ _ (lt _ rfl) (x 1 (lt _ rfl))) (c2 (en _ 17 _ _ (lt _ rfl) (s _ 19 (lt _ rfl))) (c2 (en _ 21 _ _ (lt _ rfl) hf1) (c2 (en _ 25 _ _ (lt _ rfl) (i _ 27 (lt _ rfl) (n 27 (lt _ rfl)))) (c2 (en _ 29 _ _ (lt _ rfl) (r 8 (lt _ rfl))) (c2 (en _ 31 _ _ (lt _ rfl) (r 10 (lt _ rfl))) rfl))))))) ?_
 refine led2 (n 8 (lt _ rfl)) ?_ ?_
 .show listOf (sgs ρ' rows').toArray (ρ'.num (Nat.add o 35))=listOf (sgs ρ rows).toArray (ρ.num (Nat.add o 35))
  rw[hr,n 35 (lt _ rfl)]
 refine led2 (n 10 (lt _ rfl)) ht ?_
 refine led2 (n 40 (lt _ rfl)) (H 39 (lt _ rfl)).2.1 ?_
 refine led2 (n 42 (lt _ rfl)) ?_ ?_
 .show tupo [iv ρ' (.str acc (Nat.add o 43)),iv ρ' (fv' (Nat.add o 45))] (ρ'.num (Nat.add o 47))=tupo [iv ρ (.str acc (Nat.add o 43)),iv ρ (fv (Nat.add o 45))] (ρ.num (Nat.add o 47))
  rw[hf2,n 47 (lt _ rfl),s _ 43 (lt _ rfl)]
 refine led2 (n 44 (lt _ rfl)) ?_ ?_
 .show listOf (sgs ρ' rows').toArray (ρ'.num (Nat.add o 49))=listOf (sgs ρ rows).toArray (ρ.num (Nat.add o 49))
  rw[hr,n 49 (lt _ rfl)]
 exact led2 (n 46 (lt _ rfl)) ht2 rfl
theorem blg_ok(H:Sm ρ ρ' o)(K:∀p∈blg o k acc len fv rows pl pl2 tb tb2,okO prog w ρ (ρ.num p.1) p.2)(hp2:iv ρ' pl2'=iv ρ pl2)(h1:okO prog w ρ' (ρ'.num (Nat.add o 10)) tb')(h2:okO prog w ρ' (ρ'.num (Nat.add o 46)) tb2'):∀p∈blg o k acc len fv' rows' pl' pl2' tb' tb2',okO prog w ρ' (ρ'.num p.1) p.2:=by
 have lt:∀j,Nat.blt j 60=true->j<60:=λj h=>Nat.le_of_ble_eq_true h
 have k40:=K (Nat.add o 40,_) (.tail _ (.tail _ (.tail _ (.tail _ (.tail _ (.tail _ (.head _)))))))
 refine fc trivial<|fc trivial<|fc trivial<|fc trivial<|fc trivial<|fc h1<|fc (?_)<|fc trivial<|fc trivial<|fc h2<|λ_ h=>absurd h List.not_mem_nil
 rw[(H 40 (lt _ rfl)).1]
 refine dS_view ?_ (H 39 (lt _ rfl)).2.1 k40
 have r:∀t,t<60->iv ρ' (.ref (Nat.add o t))=iv ρ (.ref (Nat.add o t)):=λt h=>congrArg Value.ref (H t h).1
 show[(_,iv ρ' _),(_,iv ρ' _),(_,iv ρ' _),(_,iv ρ' _)]=[(_,iv ρ _),(_,iv ρ _),(_,iv ρ _),(_,iv ρ _)]
 rw[r 42 (lt _ rfl),r 44 (lt _ rfl),hp2,r 46 (lt _ rfl)]
theorem blg_tb(K:∀p∈blg o k acc len fv rows pl pl2 tb tb2,okO prog w ρ (ρ.num p.1) p.2):okO prog w ρ (ρ.num (Nat.add o 10)) tb/\okO prog w ρ (ρ.num (Nat.add o 46)) tb2:=
 ⟨K (Nat.add o 10,tb) (.tail _ (.tail _ (.tail _ (.tail _ (.tail _ (.head _)))))),K (Nat.add o 46,tb2) (.tail _ (.tail _ (.tail _ (.tail _ (.tail _ (.tail _ (.tail _ (.tail _ (.tail _ (.head _))))))))))⟩
end
theorem pcomm{α:Type}{A B X:List α}:List.Perm (A++(B++X)) (B++(A++X)):=by
 rw[←List.append_assoc,←List.append_assoc];exact List.perm_append_comm.append_right X
theorem p0{α:Type}{I O B X:List α}:List.Perm ((I++O)++(B++X)) ((I++B)++(O++X)):=by
 rw[List.append_assoc,List.append_assoc];exact List.Perm.append_left I pcomm
theorem p1{α:Type}{I O B X C Y:List α}(h:List.Perm X (C++Y)):List.Perm ((I++O)++(B++X)) ((I++(B++C))++(O++Y)):=by
 refine(List.Perm.append_left _ (List.Perm.append_left B h)).trans ?_
 rw[←List.append_assoc B];exact p0
theorem core11(H:LawFx Γ){IN OUT:Hp}{Io:Nat->Bool}{post:S->Bool}{Q:Flow->Shared->Prop}{fc:List (Nat×Nat)}{xs:List (Nat×Value)}{ts:List (Nat×Str)}{ls:List (Nat×List Value)}{ds:List (Nat×List (Int×Value×Value))}{IN':Hp}(T:S->Rho->Prop)
 (R:Rl Γ ρ ⟨IN++OUT,vs,450⟩ h)(nf0:NFs Γ.rest)(hO:iH Io OUT=true)(hlt:∀i,Io i=true->i<450)
 (same:Same ρ (ρ.up fc xs ts ls ds) I)(h0:I 0=true)(hvs:allB (λp=>iV I p.2) vs=true)(hIo:∀i,Io i=true->I i=true)
 (ux:∀p∈xs,handedIn p.2=true)(ul:∀p∈ls,p.2.length<=90/\∀v∈p.2,handedIn v=true)(ud:∀p∈ds,p.2.length<=90/\∀e∈p.2,AlkV e.2.1 e.2.2)
 (el:led w (ρ.up fc xs ts ls ds) IN'=led w ρ IN)(ok:(∀p∈IN,okO prog w ρ (ρ.num p.1) p.2)->∀p∈IN',okO prog w (ρ.up fc xs ts ls ds) ((ρ.up fc xs ts ls ds).num p.1) p.2)
 (run:run11 ⟨IN',vs,450⟩ post=true)
 (fin:∀{Γ':Fx prog w} {ρ1 σ1 h1},LawFx Γ'->Pre (ρ.up fc xs ts ls ds) ρ1->Rl Γ' ρ1 σ1 h1->post σ1=true->∃ρ2 tg,Rl Γ' ρ2 tg h1/\tg.nx=450/\Same ρ1 ρ2 Io/\T tg ρ2)
 (K:∀ρ2 tg h' tk',Rl Γ ρ2 ⟨tg.hp++OUT,tg.vs,450⟩ h'->Same ρ ρ2 Io->T tg ρ2->Q .next (Γ.sh h' tk')):Γ.wp (execs (toS irL11) Γ.env) Q E h tk:=by
 have BO:=R.blk.r
 have nf:NFs (led w ρ OUT++Γ.rest):=λq hq=>(List.mem_append.mp hq).elim (BO.nf hO q) (nf0 q)
 obtain⟨R1,-⟩:=take_out (nf:=nf) R
 obtain⟨sc,run⟩:=cd_e run
 have R2:=view_up (H.rs (nf:=nf)) R1 same h0 hvs ux ul ud el (ok R1.ok) sc
 refine seg (Γ:=Γ.rs (led w ρ OUT++Γ.rest) nf) (H.rs (nf:=nf)) H.w11 rfl R2 run λρ1 σ1 h1 tk1 x R3 g=>?_
 refine elEEAAA (λρ2 tg R4 n4 S2 t=>?_)<|fin (H.rs (nf:=nf)) x.1 R3 g
 have n0:ρ.n=450:=R.ln
 have nu:(ρ.up fc xs ts ls ds).n=450:=up_n.trans n0
 have S01:Same ρ (ρ.up fc xs ts ls ds) Io:=λi hi=>same i (hIo i hi)
 have S12:Same (ρ.up fc xs ts ls ds) ρ1 Io:=Same.pre x.1 λi hi=>by rw[nu];exact hlt i hi
 have S:=(S01.trans S12).trans S2
 have n2:ρ2.n=450:=R4.ln.trans n4
 obtain⟨B2,e2⟩:=BO.same S hO (by rw[n0,n2];exact Nat.le_refl _)
 obtain⟨tgh,tgv,tgn⟩:=tg
 have n4:tgn=450:=n4
 subst n4
 exact K ρ2 _ h1 tk1 (put_in R4 B2 e2) S t
end
end Mine.Q
namespace Mine.Q
section
variable{prog:Program}{w:World}{Γ:Fx prog w}{ρ ρ' ρ2:Rho}{I:Nat->Bool}{σ c:S}{h:Heap}{hp hpA hpB:Hp}{vs:List (Nat×V)}{nx tk b:Nat}{M:Mp}{E:Value->Shared->Prop}
noncomputable def kvU(s6 s5 s7:US):List (Nat×V):=usl 6 100 s6 (usl 5 200 s5 (usl 7 300 s7 []))
noncomputable def kvB(s6 s5 s7:US):List (Nat×V):=usl 6 140 s6 (usl 5 240 s5 (usl 7 340 s7 []))
noncomputable def dU(ρ:Rho)(kvs:List (Nat×V)):List (Int×Value×Value):=kvs.map λp=>((p.1:Int),iv ρ p.2,iv ρ p.2)
theorem kv_ref{s6 s5 s7:US}:(∀p∈kvU s6 s5 s7,∃n,p.2=.ref n/\(n=100\/n=200\/n=300))/\(∀p∈kvB s6 s5 s7,∃n,p.2=.ref n/\(n=140\/n=240\/n=340)):=by
 have h:∀(k a:Nat) (s:US) (l:List (Nat×V)),∀p∈usl k a s l,p=(k,.ref a)\/p∈l:=λk a s l p hp=>by
  cases s
  .exact .inr hp
  all_goals exact List.mem_cons.mp hp
 constructor
 .intro p hp
  rcases h _ _ _ _ p hp with rfl|hp
  .exact⟨_,rfl,.inl rfl⟩
  rcases h _ _ _ _ p hp with rfl|hp
  .exact⟨_,rfl,.inr (.inl rfl)⟩
  rcases h _ _ _ _ p hp with rfl|hp
  .exact⟨_,rfl,.inr (.inr rfl)⟩
  .exact absurd hp List.not_mem_nil
 .intro p hp
  rcases h _ _ _ _ p hp with rfl|hp
  .exact⟨_,rfl,.inl rfl⟩
  rcases h _ _ _ _ p hp with rfl|hp
  .exact⟨_,rfl,.inr (.inl rfl)⟩
  rcases h _ _ _ _ p hp with rfl|hp
  .exact⟨_,rfl,.inr (.inr rfl)⟩
  .exact absurd hp List.not_mem_nil
theorem kv_len{s6 s5 s7:US}:(kvU s6 s5 s7).length<=3/\(kvB s6 s5 s7).length<=3:=by
 cases s6<;>cases s5<;>cases s7<;>exact⟨Nat.le_of_ble_eq_true rfl,Nat.le_of_ble_eq_true rfl⟩
theorem dU_alk{kvs:List (Nat×V)}(h:∀p∈kvs,∃n,p.2=V.ref n):∀e∈dU ρ kvs,AlkV e.2.1 e.2.2:=λe he=>by
 refine elEA (λp hp r406=>?_)<|List.mem_map.mp he;subst r406
 obtain⟨n,e⟩:=h p hp
 exact .inl ⟨rfl,by show handedIn (iv ρ p.2)=true;rw[e];rfl⟩
theorem dU_same{kvs:List (Nat×V)}(h:∀p∈kvs,iv ρ' p.2=iv ρ p.2):dU ρ' kvs=dU ρ kvs:=List.map_congr_left λp hp=>by rw[h p hp]
theorem bs_dU{b:Nat}{kvs:List (Nat×V)}(e:ρ'.D b=dU ρ kvs):bsT ρ' b true=kvs.map λp=>((p.1:Int),iv ρ p.2):=by
 unfold bsT
 rw[e,dU,List.map_map];rfl
theorem dT_of{o b:Nat}{kvs:List (Nat×V)}{kn:List (Nat×Option V)}{a a':Addr}(K:okO prog w ρ a (.dI o kvs))(ea:a'=a)(eo:ρ'.obj o=ρ.obj o)(e:ρ'.D b=dU ρ kvs)(hk:∀p∈kn,(lk kvs p.1).map (iv ρ)=p.2.map (iv ρ')):okO prog w ρ' a' (.dT o b true [] kn):=by
 subst ea
 refine mkAA ?_ (λp hp=>?_) K.2
 .show(ρ'.obj o).IsDictOf _ (bsT ρ' b true)
  rw[eo,bs_dU e];exact K.1
 .rw[bs_dU e,valueAt_I,hk p hp]
theorem dI_of{o b:Nat}{kvs:List (Nat×V)}{a:Addr}(K:okO prog w ρ a (.dT o b true [] []))(e:ρ.D b=dU ρ kvs):okO prog w ρ a (.dI o kvs):=
 ⟨by have:=K.1;rwa[show tabT ρ b true []=bsT ρ b true from rfl,bs_dU e]at this,K.2.2⟩
theorem same_refl{I:Nat->Bool}:Same ρ ρ I:=λ_ _=>mkAAAAA rfl rfl rfl rfl rfl rfl
theorem bs_back(H:LawFx Γ){A B:Hp}{s6 s5 s7:US}(R:Rl Γ ρ ⟨A++(bsK [.sg 50,.sg 51] [.sg 51] [] []++B),vs,nx⟩ h)(hnx:400<=nx)(d1:ρ.D 57=dU ρ (kvU s6 s5 s7))(d2:ρ.D 58=dU ρ (kvB s6 s5 s7)):Rl Γ ρ ⟨A++(bsI s6 s5 s7++B),vs,nx⟩ h:=by
 have BL:=R.blk
 have bk:Blk prog w ρ (bsK [.sg 50,.sg 51] [.sg 51] [] []):=BL.r.l
 obtain⟨k1,k2⟩:=bas_18 bk.ok
 have el:led w ρ (bsI s6 s5 s7)=led w ρ (bsK [.sg 50,.sg 51] [.sg 51] [] []):=bas_view same_refl rfl rfl rfl rfl
 have hn:ρ.n=nx:=R.ln
 have sc:∀p∈bsI s6 s5 s7,p.1<ρ.n/\p.2.sc ρ.n:=λp hp=>by
  have:∀p∈bsI s6 s5 s7,p.1<400/\p.2.sc 400:=λp hp=>by
   have h1:scE ⟨bsI s6 s5 s7,[],400⟩=true:=by cases s6<;>cases s5<;>cases s7<;>exact rfl
   exact(scE_e h1).1 p hp
  exact⟨Nat.lt_of_lt_of_le (this p hp).1 (by omega),(this p hp).2.up (by omega)⟩
 have BI:Blk prog w ρ (bsI s6 s5 s7):=⟨bas_ok same_refl bk.ok (dI_of k1 d1) (dI_of k2 d2),sc⟩
 refine Rl.view (c:=⟨A++(bsI s6 s5 s7++B),vs,nx⟩) H.st R R.ln rfl ?_ (BL.l.app (BI.app BL.r.r)) R.sv R.hx R.ll R.lh R.dd (λi v e=>⟨v,e,rfl⟩) λi n e=>?_
 .show List.Perm (led w ρ (A++(bsK _ _ _ _++B))) (led w ρ (A++(bsI s6 s5 s7++B)))
  rw[led_app,led_app,led_app,led_app,el]
 .rw[H.ci]at e
  have e0:n=0:=by
   rw[lk_cons]at e
   rcases q:Nat.beq i 56 with _|_
   .rw[q]at e;cases e
   .rw[q]at e;exact(Option.some.inj e).symm
  subst e0
  exact⟨by omega,rfl⟩
end
end Mine.Q
namespace Mine.Q
section
variable{prog:Program}{w:World}{Γ:Fx prog w}{ρ ρ' ρ2:Rho}{I:Nat->Bool}{σ c:S}{h:Heap}{hp hpA hpB:Hp}{vs:List (Nat×V)}{nx tk b:Nat}{M:Mp}{E:Value->Shared->Prop}
noncomputable def i0(i:Nat):Bool:=bi (inR 55 59 i) false (bi (Nat.beq i 51) false (Nat.blt i 450))
noncomputable def iU(o i:Nat):Bool:=bi (inR 57 59 i) false (bi (inR (Nat.add o 60) (Nat.add o 100) i) false (Nat.blt i 450))
theorem inc_e{f g:Nat->Bool}(h:((List.range 450).all λi=>!(f i)||g i)=true)(hf:∀i,f i=true->i<450):∀i,f i=true->g i=true:=λi hi=>by
 have:=List.all_eq_true.mp h i (List.mem_range.mpr (hf i hi))
 rw[hi]at this;exact this
theorem iBs_lt:∀i,iBs i=true->i<450:=λi h=>by
 rcases bi_e h with⟨h,-⟩|⟨-,h⟩<;>exact Nat.lt_of_lt_of_le (lt_e (bi_t h).2) (Nat.le_of_ble_eq_true rfl)
theorem i0_lt:∀i,i0 i=true->i<450:=λi h=>by
 rcases bi_e h with⟨-,h⟩|⟨-,h⟩
 .exact ff h
 rcases bi_e h with⟨-,h⟩|⟨-,h⟩
 .exact ff h
 .exact lt_e h
theorem iU_lt{o:Nat}:∀i,iU o i=true->i<450:=λi h=>by
 rcases bi_e h with⟨-,h⟩|⟨-,h⟩
 .exact ff h
 rcases bi_e h with⟨-,h⟩|⟨-,h⟩
 .exact ff h
 .exact lt_e h
theorem inc1:∀i,iBs i=true->i0 i=true:=inc_e (by decide+kernel) iBs_lt
theorem inc2:∀i,out0 i=true->i0 i=true:=inc_e (by decide+kernel) out0_lt
theorem incs{o k:Nat}(hu:isU o k):(∀i,iBs i=true->iU o i=true)/\(∀i,outU o i=true->iU o i=true)/\(∀i,outV o i=true->iU o i=true):=by
 apply isUk hu<;>exact mkAA (inc_e (by decide+kernel) iBs_lt) (inc_e (by decide+kernel) outU_lt) (inc_e (by decide+kernel) outV_lt)
theorem Same.mono{J:Nat->Bool}(S:Same ρ ρ' I)(h:∀i,J i=true->I i=true):Same ρ ρ' J:=λi hi=>S i (h i hi)
theorem same_led(S:Same ρ ρ' I)(hi:iH I hp=true):led w ρ' hp=led w ρ hp:=List.map_congr_left λp hp=>by
 obtain⟨a,b⟩:=bi_t (allB_e hi p hp)
 rw[(S _ a).1,same_io S b]
theorem same_oks(S:Same ρ ρ' I)(hi:iH I hp=true)(K:∀p∈hp,okO prog w ρ (ρ.num p.1) p.2):∀p∈hp,okO prog w ρ' (ρ'.num p.1) p.2:=λp hp=>by
 obtain⟨a,b⟩:=bi_t (allB_e hi p hp)
 rw[(S _ a).1];exact same_ok S b (K p hp)
theorem sp51{ds:List (Nat×List (Int×Value×Value))}{js:List Nat}(hj:js=[0]\/js=nJs)(hl:∀v∈ρ.L 51,handedIn v=true)(hn:(ρ.L 51).length<=90):∃j xs ls,j∈js/\keys i0 xs=true/\keys i0 ls=true/\(∀p∈xs,handedIn p.2=true)/\(∀p∈ls,p.2.length<=90/\∀v∈p.2,handedIn v=true)/\
 sgs (ρ.up [] xs [] ls ds) (inpJ j)=sgs ρ [.sg 50,.sg 51]/\sgs (ρ.up [] xs [] ls ds) (inbJ j)=sgs ρ [.sg 51]:=by
 rcases hj with rfl|rfl
 .exact mkEEEAAAAAA 0 [] [] (.head _) rfl rfl (λ_ h=>absurd h List.not_mem_nil) (λ_ h=>absurd h List.not_mem_nil) rfl rfl
 match e:ρ.L 51 with
 |[]=>
  refine mkEEEAAAAAA 1 [] [] (.head _) rfl rfl (λ_ h=>absurd h List.not_mem_nil) (λ_ h=>absurd h List.not_mem_nil) ?_ ?_
  .show ρ.L 50++[]=ρ.L 50++(ρ.L 51++[]);rw[e];rfl
  .show[]=ρ.L 51++[];rw[e];rfl
 |[x]=>
  rw[e]at hl
  refine mkEEEAAAAAA 2 [(55,x)] [] (.tail _ (.head _)) rfl rfl (λp h=>by rw[List.mem_singleton]at h;subst h;exact hl x (.head _)) (λ_ h=>absurd h List.not_mem_nil) ?_ ?_
  .show ρ.L 50++(x::[])=ρ.L 50++(ρ.L 51++[]);rw[e];rfl
  .show x::[]=ρ.L 51++[];rw[e];rfl
 |x::y::r=>
  rw[e]at hl hn
  refine mkEEEAAAAAA 3 [(55,x),(56,y)] [(51,r)] (.tail _ (.tail _ (.head _))) rfl rfl (λp h=>?_) (λp h=>?_) ?_ ?_
  .rcases List.mem_cons.mp h with rfl|h
   .exact hl x (.head _)
   .rw[List.mem_singleton]at h;subst h;exact hl y (.tail _ (.head _))
  .rw[List.mem_singleton]at h;subst h
   exact⟨by simp only[List.length_cons]at hn;show r.length<=90;omega,λv hv=>hl v (.tail _ (.tail _ hv))⟩
  .show ρ.L 50++(x::y::(r++[]))=ρ.L 50++(ρ.L 51++[]);rw[e];rfl
  .show x::y::(r++[])=ρ.L 51++[];rw[e];rfl
theorem lsi_out{two k2:Bool}{k3:Nat}:iH out0 (lsi two k3 k2)=true/\∀o,iH (outU o) (lsi two k3 k2)=true:=by
 cases two<;>cases k2<;>exact⟨rfl,λo=>rfl⟩
theorem p2{α:Type}{A B C X:List α}:List.Perm (A++(B++(C++X))) ((A++C)++(B++X)):=by
 rw[List.append_assoc A C];exact List.Perm.append_left A pcomm
theorem bl_in(x:Bool):x∈bls:=by
 cases x
 .exact .tail _ (.head _)
 .exact .head _
theorem ctl_in{v:V}{hf:Bool}{r:Option Nat}{two:Bool}{I:Nat->Bool}(hv:iV I v=true)(h:((List.range 50).all λi=>I (400+i))=true):iH I (ctl v hf r++(txs false two 0++lsl two))=true:=by
 have J:∀i,400<=i->i<450->I i=true:=λi h1 h2=>by
  have:=List.all_eq_true.mp h (i-400) (List.mem_range.mpr (by omega))
  rwa[show 400+(i-400)=i by omega]at this
 have t:∀{a b:Bool},a=true->b=true->bi a b false=true:=λh1 h2=>by rw[h1];exact h2
 have j:∀i,Nat.ble 400 i=true->Nat.blt i 450=true->I i=true:=λi h1 h2=>J i (Nat.le_of_ble_eq_true h1) (lt_e h2)
 refine iH_app ?_ (iH_app ?_ ?_)
 .cases hf<;>cases r<;>exact t (t (j _ rfl rfl) (t (by first|exact t hv rfl|exact t hv (t (j _ rfl rfl) rfl)|exact t hv (t (j _ rfl rfl) (t (j _ rfl rfl) rfl))) (j _ rfl rfl))) rfl
 .cases two<;>exact t (t (j _ rfl rfl) (t (by first|exact t (j _ rfl rfl) rfl|exact t (j _ rfl rfl) (t (j _ rfl rfl) rfl)) (j _ rfl rfl))) rfl
 .cases two<;>exact t (t (j _ rfl rfl) (t (by first|exact t (j _ rfl rfl) rfl|exact t (j _ rfl rfl) (t (j _ rfl rfl) rfl)) (j _ rfl rfl))) rfl
theorem mid_eq{v:V}{hf:Bool}{r:Option Nat}{two:Bool}{k:Nat}:app (ctl v hf r) (mid two)=ctl v hf r++(txs false two k++lsl two):=by
 rw[app_eq]
 show _++app (txs false two 0) (lsl two)=_
 rw[app_eq];rfl
theorem uV_in{u t:Nat}(hu:u<=5){I:Nat->Bool}(h:I t=true):iV I (uV u t)=true:=by
 match u,hu with
 |0,_=>exact h
 |1,_=>exact h
 |2,_=>exact h
 |3,_=>exact h
 |4,_=>exact h
 |5,_=>exact h
theorem vsK_in{v:V}{hf w:Bool}{r:Option Nat}{I:Nat->Bool}(hv:iV I v=true)(h:I 10=true/\I 20=true/\I 2=true/\I 4=true/\I 414=true/\I 439=true/\I 441=true/\I 408=true/\I 400=true):allB (λp=>iV I p.2) (vsK v hf r w)=true:=by
 refine elAAAAAAA (λh1 h2 h3 h4 h5 h6 h7 q407=>?_) h;refine elA (λh8 h9=>?_) q407;clear q407;clear h
 have t:∀{a b:Bool},a=true->b=true->bi a b false=true:=λh1 h2=>by rw[h1];exact h2
 cases hf<;>cases r<;>exact t h1 (t h2 (t h3 (t h4 (t h5 (t hv (t h6 (t (by first|exact h7|rfl) (t (by first|exact h8|exact h5) (t h9 (t rfl (t h8 rfl)))))))))))
noncomputable abbrev LI(two:Bool)(k3:Nat)(k2:Bool):Hp:=lsi two k3 k2++(cel (some (.opq 0))++scp)
theorem no11(H:LawFx Γ)(nf0:NFs Γ.rest){Q:Flow->Shared->Prop}{u:Nat}{hf two w' k2:Bool}{r:Option Nat}{k k3:Nat}{s6 s5 s7:US}{X:Hp}(hall:all0 u=true)(hu:u<=5)(hr:r∈rcs)
 (hkn:∀p∈kn0 u,p.2=none/\lk (kvU s6 s5 s7) p.1=none/\lk (kvB s6 s5 s7) p.1=none)
 (R:Rl Γ ρ ⟨((ctl (uV u 403) hf r++(txs false two k++lsl two))++LI two k3 k2)++(bsI s6 s5 s7++X),vsK (uV u 437) hf r w',450⟩ h)(hX:iH out0 X=true)(B:Bd ρ b)(hb:b<=60)
 (K:∀ρ' h' tk',Rl Γ ρ' ⟨(lsl two++LI two k3 k2)++(bsI s6 s5 s7++X),vs5,450⟩ h'->Bd ρ' (b+2)->Q .next (Γ.sh h' tk')):Γ.wp (execs (toS irL11) Γ.env) Q E h tk:=by
 have R1:=R.perm p0
 have hn:ρ.n=450:=R.ln
 refine elEEEAAAAAA (λj xs ls hj kx kl ux ul e1 e2=>?_)<|sp51 (ρ:=ρ) (ds:=[(57,dU ρ (kvU s6 s5 s7)),(58,dU ρ (kvB s6 s5 s7))]) (js:=bi w' [0] nJs) (by cases w'<;>first|exact .inl rfl|exact .inr rfl) (R.lh 51) (R.ll 51)
 have run:=allB_e (allB_e (allB_e (allB_e (allB_e hall hf (bl_in _)) r hr) two (bl_in _)) w' (bl_in _)) j hj
 have same:Same ρ (ρ.up [] xs [] ls [(57,dU ρ (kvU s6 s5 s7)),(58,dU ρ (kvB s6 s5 s7))]) i0:=up_same' (λi hi=>by rw[hn];exact i0_lt i hi) rfl kx rfl kl rfl
 have hctl:iH i0 (ctl (uV u 403) hf r++(txs false two 0++lsl two))=true:=ctl_in (uV_in hu rfl) (by decide+kernel)
 have href:∀{kvs:List (Nat×V)},(∀p∈kvs,∃n,p.2=V.ref n)->∀p∈dU ρ kvs,AlkV p.2.1 p.2.2:=λh=>dU_alk h
 have hU:=kv_ref (s6:=s6) (s5:=s5) (s7:=s7)
 have hL:=kv_len (s6:=s6) (s5:=s5) (s7:=s7)
 refine core11 (IN:=(ctl (uV u 403) hf r++(txs false two k++lsl two))++bsI s6 s5 s7) (OUT:=LI two k3 k2++X) (Io:=out0) (I:=i0) (IN':=app (app (ctl (uV u 403) hf r) (mid two)) (bsK (inpJ j) (inbJ j) (kn0 u) (kn0 u))) (post:=end0 two (inpJ j)) H
  (λtg ρ2=>tg=tg0 two/\(ρ2.L 50).length+(ρ2.L 51).length<=3/\(ρ2.L 52).length<=b+2/\ρ2.D 57=dU ρ (kvU s6 s5 s7)/\ρ2.D 58=dU ρ (kvB s6 s5 s7)) R1 nf0 (iH_app (iH_app lsi_out.1 (iH_app rfl rfl)) hX) out0_lt same rfl (vsK_in (uV_in hu rfl) ⟨rfl,rfl,rfl,rfl,rfl,rfl,rfl,rfl,rfl⟩) inc2 ux ul (λp hp=>?_) ?_ (λK0=>?_) run ?_ ?_
 .rcases List.mem_cons.mp hp with rfl|hp
  .exact⟨by show(dU ρ _).length<=90;unfold dU;rw[List.length_map];omega,dU_alk λp hp=>by refine elEA (λn e z408=>?_)<|hU.1 p hp;clear z408;exact⟨n,e⟩⟩
  .rw[List.mem_singleton]at hp;subst hp
   exact⟨by show(dU ρ _).length<=90;unfold dU;rw[List.length_map];omega,dU_alk λp hp=>by refine elEA (λn e z409=>?_)<|hU.2 p hp;clear z409;exact⟨n,e⟩⟩
 .rw[app_eq,led_app,led_app,mid_eq (k:=k)]
  congr 1
  .exact same_led same hctl
  .exact bas_view (same.mono inc1) e1 e2 ((same 33 rfl).2.1) ((same 41 rfl).2.1)
 .rw[app_eq,mid_eq (k:=k)]
  intro p hp
  have K1:∀p∈bsI s6 s5 s7,okO prog w ρ (ρ.num p.1) p.2:=λp hp=>K0 p (List.mem_append_right _ hp)
  obtain⟨k18,k26⟩:=bas_18 K1
  rcases List.mem_append.mp hp with hp|hp
  .exact same_oks same hctl (λp hp=>K0 p (List.mem_append_left _ hp)) p hp
  .refine bas_ok (same.mono inc1) K1 (dT_of k18 (same 18 rfl).1 (same 33 rfl).2.1 rfl λp hp=>?_) (dT_of k26 (same 26 rfl).1 (same 41 rfl).2.1 rfl λp hp=>?_) p hp
   .show Option.map _ (lk (kvU s6 s5 s7) p.1)=_
    rw[(hkn p hp).2.1,(hkn p hp).1];rfl
   .show Option.map _ (lk (kvB s6 s5 s7) p.1)=_
    rw[(hkn p hp).2.2,(hkn p hp).1];rfl
 .intro Γ' ρ1 σ1 h1 H' x R3 g
  have sL:∀ss,sgs ρ1 ss=sgs (ρ.up [] xs [] ls [(57,dU ρ (kvU s6 s5 s7)),(58,dU ρ (kvB s6 s5 s7))]) ss\/True:=λ_=>.inr trivial
  have l1:(sgs ρ1 (inpJ j)).length<=3:=by
   have hl:∀i,ρ1.L i=(ρ.up [] xs [] ls [(57,dU ρ (kvU s6 s5 s7)),(58,dU ρ (kvB s6 s5 s7))]).L i:=λi=>congrFun x.2.2.2.1 i
   have:∀ss:List Sg,(sgs ρ1 ss).length=(sgs (ρ.up [] xs [] ls [(57,dU ρ (kvU s6 s5 s7)),(58,dU ρ (kvB s6 s5 s7))]) ss).length:=by
    intro ss
    induction ss with
    |nil=>rfl
    |cons s ss ih=>
     show(sv ρ1 s++sgs ρ1 ss).length=(sv _ s++sgs _ ss).length
     rw[List.length_append,List.length_append,ih]
     rcases s with v|i
     .rfl
     .show(ρ1.L i).length+_=_;rw[hl];rfl
   rw[this,e1]
   show(ρ.L 50++(ρ.L 51++[])).length<=3
   rw[List.append_nil,List.length_append];exact B.inp
  have l2:(ρ1.L 52).length<=b:=by
   rw[congrFun x.2.2.2.1 52,(same 52 rfl).2.2.2.2.1];exact B.out
  refine elEAAA (λρ2 R4 S2 eg bo=>?_)<|fin0 H' R3 g l1 l2 hb
  exact⟨ρ2,_,R4,rfl,S2,rfl,bo.inp,bo.out,by rw[bo.d1,congrFun x.2.2.2.2 57];rfl,by rw[bo.d2,congrFun x.2.2.2.2 58];rfl⟩
 .rintro ρ2 tg h' tk' R4 S2 ⟨rfl,b1,b2,d1,d2⟩
  have ref:∀n,(n=100\/n=200\/n=300)\/(n=140\/n=240\/n=340)->iv ρ2 (.ref n)=iv ρ (.ref n):=λn hn=>by
   show Value.ref _=Value.ref _
   rcases hn with(rfl|rfl|rfl)|(rfl|rfl|rfl)<;>rw[(S2 _ rfl).1]
  have R5:Rl Γ ρ2 ⟨lsl two++(bsK [.sg 50,.sg 51] [.sg 51] [] []++(LI two k3 k2++X)),vs5,450⟩ h':=by
   have:=R4
   unfold tg0 at this
   rw[app_eq,List.append_assoc]at this
   exact this
  have R6:=bs_back H (s6:=s6) (s5:=s5) (s7:=s7) R5 (by omega) (by rw[d1,dU_same (ρ':=ρ2) (ρ:=ρ) λp hp=>by refine elEA (λn e hn=>?_)<|hU.1 p hp;rw[e];exact ref n (.inl hn)]) (by rw[d2,dU_same (ρ':=ρ2) (ρ:=ρ) λp hp=>by refine elEA (λn e hn=>?_)<|hU.2 p hp;rw[e];exact ref n (.inr hn)])
  refine K ρ2 h' tk' (R6.perm p2) ⟨b1,b2,λo k0 hu0=>?_⟩
  .have q:=B.un o k0 hu0
   have e:∀i,out0 i=true->ρ2.L i=ρ.L i/\ρ2.D i=ρ.D i/\ρ2.T i=ρ.T i:=λi hi=>by
    refine elAAAAA (λ_ _ _ t l d=>?_)<|S2 i hi
    exact mkAA l d t
   have o1:out0 o=true/\out0 (o+70)=true:=by rcases hu0 with⟨rfl,-⟩|⟨rfl,-⟩|⟨rfl,-⟩<;>exact⟨rfl,rfl⟩
   rw[(e o o1.1).1,(e _ o1.2).1,(e o o1.1).2.1,(e o o1.1).2.2]
   exact mkAA (by omega) (by omega) q.2.2
end
end Mine.Q
namespace Mine.Q
section
variable{prog:Program}{w:World}{Γ:Fx prog w}{ρ ρ' ρ2:Rho}{I:Nat->Bool}{σ c:S}{h:Heap}{hp hpA hpB:Hp}{vs:List (Nat×V)}{nx tk b:Nat}{M:Mp}{E:Value->Shared->Prop}
theorem p3{α:Type}{A B C D X:List α}:List.Perm (A++(B++(C++(D++X)))) ((A++D)++(B++(C++X))):=by
 rw[List.append_assoc A D]
 refine List.Perm.append_left A (List.Perm.trans (List.Perm.append_left B pcomm) pcomm)
noncomputable abbrev dsU(ρ:Rho)(s6 s5 s7:US):List (Nat×List (Int×Value×Value)):=[(57,dU ρ (kvU s6 s5 s7)),(58,dU ρ (kvB s6 s5 s7))]
theorem sm_of{o k:Nat}(hu:isU o k)(S:Same ρ ρ' (iU o)):Sm ρ ρ' o:=λj hj=>by
 have:iU o (Nat.add o j)=true:=by
  have h:∀o,(o=100\/o=200\/o=300)->((List.range 60).all λj=>iU o (Nat.add o j))=true:=by
   rintro o (rfl|rfl|rfl)<;>decide+kernel
  exact List.all_eq_true.mp (h o (by apply isU3 hu<;>simp)) j (List.mem_range.mpr hj)
 refine elAAA (λa b c z410=>?_)<|S _ this;clear z410
 exact mkAA a b c
theorem sgs_len{ρ1:Rho}(hl:∀i,ρ1.L i=ρ.L i):∀ss:List Sg,(sgs ρ1 ss).length=(sgs ρ ss).length
 |[]=>rfl
 |s::ss=>by
  show(sv ρ1 s++sgs ρ1 ss).length=(sv ρ s++sgs ρ ss).length
  rw[List.length_append,List.length_append,sgs_len hl ss]
  rcases s with v|i
  .rfl
  .show(ρ1.L i).length+_=(ρ.L i).length+_;rw[hl]
theorem unX(H:LawFx Γ)(nf0:NFs Γ.rest){Q:Flow->Shared->Prop}{o k u f:Nat}(hu:isU o k)(hf':isF f)(hu5:u<=5){hf w':Bool}{r:Option Nat}{s6 s5 s7 s:US}{A A' OUTL Y ext b':Hp}{Io:Nat->Bool}(hA':A'=A)(hA:iH (iU o) A=true)(hIo:∀i,Io i=true->iU o i=true)(hIl:∀i,Io i=true->i<450)
 (hIr:∀o' k',isU o' k'->o'≠o->Io o'=true/\Io (o'+70)=true/\Io (o'+40)=true)(hO:iH Io (OUTL++Y)=true)
 (R:Rl Γ ρ ⟨(A++(bsI s6 s5 s7++blk o k s))++(OUTL++Y),vsK (uV u 437) hf r w',450⟩ h)(B:Bd ρ b)(hb:b<=60)
 {fc:List (Nat×Nat)}{xs:List (Nat×Value)}{ts:List (Nat×Str)}{ls:List (Nat×List Value)}(kf:keys (iU o) fc=true)(kx:keys (iU o) xs=true)(kt:keys (iU o) ts=true)(kl:keys (iU o) ls=true)(ux:∀p∈xs,handedIn p.2=true)(ul:∀p∈ls,p.2.length<=90/\∀v∈p.2,handedIn v=true)
 (hkU:lk (kvU s6 s5 s7) k=some (.ref o))(hkB:lk (kvB s6 s5 s7) k=some (.ref (o+40)))
 (eb:Same ρ (ρ.up fc xs ts ls (dsU ρ s6 s5 s7)) (iU o)->led w (ρ.up fc xs ts ls (dsU ρ s6 s5 s7)) b'=led w ρ (blk o k s))(okb:Same ρ (ρ.up fc xs ts ls (dsU ρ s6 s5 s7)) (iU o)->(∀p∈blk o k s,okO prog w ρ (ρ.num p.1) p.2)->∀p∈b',okO prog w (ρ.up fc xs ts ls (dsU ρ s6 s5 s7)) ((ρ.up fc xs ts ls (dsU ρ s6 s5 s7)).num p.1) p.2)
 {post:S->Bool}(run:run11 ⟨app A' (app (bsK [.sg 50,.sg 51] [.sg 51] (knU k o) (knU k (Nat.add o 40))) b'),vsK (uV u 437) hf r w',450⟩ post=true)
 (fin:∀{Γ':Fx prog w} {ρ1 σ1 h1},LawFx Γ'->(∀i,ρ1.L i=(ρ.up fc xs ts ls (dsU ρ s6 s5 s7)).L i)->(∀i,ρ1.D i=(ρ.up fc xs ts ls (dsU ρ s6 s5 s7)).D i)->Rl Γ' ρ1 σ1 h1->post σ1=true->∃ρ2 s',s'≠US.ab/\Rl Γ' ρ2 (tgU o k ext s') h1/\Same ρ1 ρ2 Io/\BsOk ρ1 ρ2 b/\UnOk ρ1 ρ2 o f b)
 (K:∀ρ' s' h' tk',s'≠US.ab->Rl Γ ρ' ⟨(ext++OUTL)++(bsI s6 s5 s7++(blk o k s'++Y)),vs5,450⟩ h'->Bd ρ' (b+2)->Q .next (Γ.sh h' tk')):Γ.wp (execs (toS irL11) Γ.env) Q E h tk:=by
 subst hA'
 have hn:ρ.n=450:=R.ln
 refine elAA (λc1 c2 c3=>?_)<|incs hu
 have hU:=kv_ref (s6:=s6) (s5:=s5) (s7:=s7)
 have hL:=kv_len (s6:=s6) (s5:=s5) (s7:=s7)
 have iu:∀i,iBs i=true->iU o i=true:=c1
 have same:Same ρ (ρ.up fc xs ts ls (dsU ρ s6 s5 s7)) (iU o):=up_same' (λi hi=>by rw[hn];exact iU_lt i hi) kf kx kt kl rfl
 have u0:iU o 0=true/\(iU o 10=true/\iU o 20=true/\iU o 2=true/\iU o 4=true/\iU o 414=true/\iU o 439=true/\iU o 441=true/\iU o 408=true/\iU o 400=true)/\iU o 437=true/\iU o 18=true/\iU o 26=true/\iU o 33=true/\iU o 41=true/\iU o o=true/\iU o (o+40)=true:=by
  apply isU3 hu<;>exact⟨rfl,⟨rfl,rfl,rfl,rfl,rfl,rfl,rfl,rfl,rfl⟩,rfl,rfl,rfl,rfl,rfl,rfl,rfl⟩
 refine elAAAAAAA (λu1 u2 u3 u4 u5 u6 u7 q411=>?_) u0;refine elA (λu8 u9=>?_) q411;clear q411;clear u0
 have uL:allB (λs=>iG (iU o) s) [.sg 50,.sg 51]=true/\allB (λs=>iG (iU o) s) [.sg 51]=true:=by
  apply isU3 hu<;>exact⟨rfl,rfl⟩
 refine core11 (IN:=A'++(bsI s6 s5 s7++blk o k s)) (OUT:=OUTL++Y) (Io:=Io) (I:=iU o) (IN':=app A' (app (bsK [.sg 50,.sg 51] [.sg 51] (knU k o) (knU k (Nat.add o 40))) b')) (post:=post) H
  (λtg ρ2=>∃s',s'≠US.ab/\tg=tgU o k ext s'/\Bd ρ2 (b+2)/\ρ2.D 57=dU ρ (kvU s6 s5 s7)/\ρ2.D 58=dU ρ (kvB s6 s5 s7)/\ρ2.num o=ρ.num o/\ρ2.num (o+40)=ρ.num (o+40)) R nf0 hO hIl same u1 (vsK_in (uV_in hu5 u3) u2) hIo ux ul (λp hp=>?_) ?_ (λK0=>?_) run ?_ ?_
 .rcases List.mem_cons.mp hp with rfl|hp
  .exact⟨by show(dU ρ _).length<=90;unfold dU;rw[List.length_map];omega,dU_alk λp hp=>by refine elEA (λn e z412=>?_)<|hU.1 p hp;clear z412;exact⟨n,e⟩⟩
  .rw[List.mem_singleton]at hp;subst hp
   exact⟨by show(dU ρ _).length<=90;unfold dU;rw[List.length_map];omega,dU_alk λp hp=>by refine elEA (λn e z413=>?_)<|hU.2 p hp;clear z413;exact⟨n,e⟩⟩
 .rw[app_eq,app_eq,led_app,led_app,led_app,led_app,same_led same hA,eb same]
  congr 2
  exact bas_view (same.mono iu) (same_sgs same uL.1) (same_sgs same uL.2) (same 33 u6).2.1 (same 41 u7).2.1
 .rw[app_eq,app_eq]
  intro p hp
  have K1:∀p∈bsI s6 s5 s7,okO prog w ρ (ρ.num p.1) p.2:=λp hp=>K0 p (List.mem_append_right _ (List.mem_append_left _ hp))
  obtain⟨k18,k26⟩:=bas_18 K1
  rcases List.mem_append.mp hp with hp|hp
  .exact same_oks same hA (λp hp=>K0 p (List.mem_append_left _ hp)) p hp
  rcases List.mem_append.mp hp with hp|hp
  .refine bas_ok (same.mono iu) K1 (dT_of k18 (same 18 u4).1 (same 33 u6).2.1 rfl λp hp=>?_) (dT_of k26 (same 26 u5).1 (same 41 u7).2.1 rfl λp hp=>?_) p hp
   .rw[show p=(k,some (.ref o))from List.mem_singleton.mp hp]
    show Option.map _ (lk (kvU s6 s5 s7) k)=_
    rw[hkU]
    show some (Value.ref _)=some (Value.ref _)
    rw[(same o u8).1]
   .rw[show p=(k,some (.ref (o+40)))from List.mem_singleton.mp hp]
    show Option.map _ (lk (kvB s6 s5 s7) k)=_
    rw[hkB]
    show some (Value.ref _)=some (Value.ref _)
    rw[(same (o+40) u9).1]
  .exact okb same (λp hp=>K0 p (List.mem_append_right _ (List.mem_append_right _ hp))) p hp
 .intro Γ' ρ1 σ1 h1 H' x R3 g
  refine elEEAAAA (λρ2 s' ns R4 S2 bo uo=>?_)<|fin H' (λi=>congrFun x.2.2.2.1 i) (λi=>congrFun x.2.2.2.2 i) R3 g
  have n1:∀i,iU o i=true->ρ1.num i=ρ.num i:=λi hi=>(x.num (by rw[up_n,hn];exact iU_lt i hi)).trans (same i hi).1
  refine⟨ρ2,_,R4,rfl,S2,s',ns,rfl,⟨bo.inp,bo.out,λo' k' hu'=>?_⟩,by rw[bo.d1,congrFun x.2.2.2.2 57];rfl,by rw[bo.d2,congrFun x.2.2.2.2 58];rfl,by rw[uo.n0,n1 o u8],by rw[uo.n40,n1 _ u9]⟩
  by_cases e:o'=o
  .subst e
   exact⟨uo.l,uo.d,f,hf',uo.t⟩
  .refine elAA (λj1 j2 z414=>?_)<|hIr o' k' hu' e;clear z414
   have q:=B.un o' k' hu'
   have z1:=S2 o' j1
   have z2:=S2 (o'+70) j2
   have y1:=same o' (hIo _ j1)
   have y2:=same (o'+70) (hIo _ j2)
   rw[z1.2.2.2.2.1,z2.2.2.2.2.1,z1.2.2.2.2.2,z1.2.2.2.1,congrFun x.2.2.2.1 o',congrFun x.2.2.2.1 (o'+70),congrFun x.2.2.2.2 o',congrFun x.2.2.1 o',y1.2.2.2.2.1,y2.2.2.2.2.1,y1.2.2.2.2.2,y1.2.2.2.1]
   exact mkAA (by omega) (by omega) q.2.2
 .rintro ρ2 tg h' tk' R4 S2 ⟨s',ns,rfl,bd,d1,d2,m1,m2⟩
  have ref:∀n,((n=100\/n=200\/n=300)\/(n=140\/n=240\/n=340))->iv ρ2 (.ref n)=iv ρ (.ref n):=λn hn=>by
   show Value.ref _=Value.ref _
   congr 1
   have key:∀o' k',isU o' k'->ρ2.num o'=ρ.num o'/\ρ2.num (o'+40)=ρ.num (o'+40):=λo' k' hu'=>by
    by_cases e:o'=o
    .subst e;exact⟨m1,m2⟩
    .refine elAA (λj1 z415 j3=>?_)<|hIr o' k' hu' e;clear z415
     exact⟨(S2 _ j1).1,(S2 _ j3).1⟩
   rcases hn with(rfl|rfl|rfl)|(rfl|rfl|rfl)
   .exact(key 100 6 (.inl ⟨rfl,rfl⟩)).1
   .exact(key 200 5 (.inr (.inl ⟨rfl,rfl⟩))).1
   .exact(key 300 7 (.inr (.inr ⟨rfl,rfl⟩))).1
   .exact(key 100 6 (.inl ⟨rfl,rfl⟩)).2
   .exact(key 200 5 (.inr (.inl ⟨rfl,rfl⟩))).2
   .exact(key 300 7 (.inr (.inr ⟨rfl,rfl⟩))).2
  have R5:Rl Γ ρ2 ⟨ext++(bsK [.sg 50,.sg 51] [.sg 51] [] []++(blk o k s'++(OUTL++Y))),vs5,450⟩ h':=by
   have:=R4
   unfold tgU at this
   rw[app_eq,app_eq,List.append_assoc,List.append_assoc]at this
   exact this
  have R6:=bs_back H (s6:=s6) (s5:=s5) (s7:=s7) R5 (by omega) (by rw[d1,dU_same (ρ':=ρ2) (ρ:=ρ) λp hp=>by refine elEA (λn e hn=>?_)<|hU.1 p hp;rw[e];exact ref n (.inl hn)]) (by rw[d2,dU_same (ρ':=ρ2) (ρ:=ρ) λp hp=>by refine elEA (λn e hn=>?_)<|hU.2 p hp;rw[e];exact ref n (.inr hn)])
  exact K ρ2 s' h' tk' ns (R6.perm p3) bd
end
end Mine.Q
namespace Mine.Q
section
variable{prog:Program}{w:World}{Γ:Fx prog w}{ρ ρ' ρ2:Rho}{I:Nat->Bool}{σ c:S}{h:Heap}{hp hpA hpB:Hp}{vs:List (Nat×V)}{nx tk b:Nat}{M:Mp}{E:Value->Shared->Prop}
theorem hI_out{o k:Nat}(hu:isU o k):(∀o' k',isU o' k'->o'≠o->outU o o'=true/\outU o (o'+70)=true/\outU o (o'+40)=true)/\(∀o' k',isU o' k'->o'≠o->outV o o'=true/\outV o (o'+70)=true/\outV o (o'+40)=true):=by
 constructor<;>intro o' k' hu' ne<;>rcases hu with⟨rfl,-⟩|⟨rfl,-⟩|⟨rfl,-⟩<;>rcases hu' with⟨rfl,-⟩|⟨rfl,-⟩|⟨rfl,-⟩<;>first|exact absurd rfl ne|exact mkAA rfl rfl rfl
theorem up_len{fc:List (Nat×Nat)}{xs:List (Nat×Value)}{ts:List (Nat×Str)}{ls:List (Nat×List Value)}{ds:List (Nat×List (Int×Value×Value))}{o k:Nat}(hu:isU o k){ρ1:Rho}(S:Same ρ (ρ.up fc xs ts ls ds) (iU o))(hL:∀i,ρ1.L i=(ρ.up fc xs ts ls ds).L i)(hD:∀i,ρ1.D i=(ρ.up fc xs ts ls ds).D i)(B:Bd ρ b):(ρ1.L 50).length+(ρ1.L 51).length<=3/\(ρ1.L 52).length<=b/\(ρ1.D o).length<=b:=by
 have u0:iU o 50=true/\iU o 51=true/\iU o 52=true/\iU o o=true:=by apply isU3 hu<;>exact mkAAA rfl rfl rfl rfl
 refine elAAA (λa c d e=>?_) u0;clear u0
 have q:=B.un o k hu
 rw[hL 50,hL 51,hL 52,hD o,(S 50 a).2.2.2.2.1,(S 51 c).2.2.2.2.1,(S 52 d).2.2.2.2.1,(S o e).2.2.2.2.2]
 exact mkAA B.inp B.out q.2.1
theorem sp70{o k:Nat}(hu:isU o k){js:List Nat}(hj:js=[0]\/js=nJs)(hl:∀v∈ρ.L (o+70),handedIn v=true)(hn:(ρ.L (o+70)).length<=90):∃j xs ls,j∈js/\keys (iU o) xs=true/\keys (iU o) ls=true/\(∀p∈xs,handedIn p.2=true)/\(∀p∈ls,p.2.length<=90/\∀v∈p.2,handedIn v=true)/\
 ∀fc ts ds,sgs (ρ.up fc xs ts ls ds) (rowJ o j)=sgs ρ [.sg o,.sg (o+70)]:=by
 rcases hj with rfl|rfl
 .exact mkEEEAAAAA 0 [] [] (.head _) rfl rfl (λ_ h=>absurd h List.not_mem_nil) (λ_ h=>absurd h List.not_mem_nil) (λ_ _ _=>rfl)
 match e:ρ.L (o+70)with
 |[]=>
  refine mkEEEAAAAA 1 [] [] (.head _) rfl rfl (λ_ h=>absurd h List.not_mem_nil) (λ_ h=>absurd h List.not_mem_nil) (λfc ts ds=>?_)
  show ρ.L o++[]=ρ.L o++(ρ.L (o+70)++[]);rw[e];rfl
 |[x]=>
  rw[e]at hl
  refine mkEEEAAAAA 2 [(o+80,x)] [] (.tail _ (.head _)) ?_ rfl (λp h=>by rw[List.mem_singleton]at h;subst h;exact hl x (.head _)) (λ_ h=>absurd h List.not_mem_nil) (λfc ts ds=>?_)
  .apply isU3 hu<;>rfl
  .have:((lk [(o+80,x)] (o+80)).getD (ρ.X (o+80)))=x:=by apply isU3 hu<;>rfl
   show ρ.L o++((lk [(o+80,x)] (o+80)).getD (ρ.X (o+80))::[])=ρ.L o++(ρ.L (o+70)++[]);rw[e,this];rfl
 |x::y::r=>
  rw[e]at hl hn
  refine mkEEEAAAAA 3 [(o+80,x),(o+81,y)] [(o+70,r)] (.tail _ (.tail _ (.head _))) ?_ ?_ (λp h=>?_) (λp h=>?_) (λfc ts ds=>?_)
  .apply isU3 hu<;>rfl
  .apply isU3 hu<;>rfl
  .rcases List.mem_cons.mp h with rfl|h
   .exact hl x (.head _)
   .rw[List.mem_singleton]at h;subst h;exact hl y (.tail _ (.head _))
  .rw[List.mem_singleton]at h;subst h
   exact⟨by simp only[List.length_cons]at hn;show r.length<=90;omega,λv hv=>hl v (.tail _ (.tail _ hv))⟩
  .have:(lk [(o+80,x),(o+81,y)] (o+80)).getD (ρ.X (o+80))=x/\(lk [(o+80,x),(o+81,y)] (o+81)).getD (ρ.X (o+81))=y/\(∀z,(lk [(o+70,r)] (o+70)).getD z=r)/\(lk [(o+70,r)] o).getD (ρ.L o)=ρ.L o:=by apply isU3 hu<;>exact mkAAA rfl rfl (λ_=>rfl) rfl
   show(lk [(o+70,r)] o).getD (ρ.L o)++((lk [(o+80,x),(o+81,y)] (o+80)).getD (ρ.X (o+80))::(lk [(o+80,x),(o+81,y)] (o+81)).getD (ρ.X (o+81))::((lk [(o+70,r)] (o+70)).getD (ρ.L (o+70))++[]))=ρ.L o++(ρ.L (o+70)++[]);rw[e,this.1,this.2.1,this.2.2.1,this.2.2.2];rfl
theorem blS_ok{o k f c:Nat}(hu:isU o k){rows rows':List Sg}(S:Same ρ ρ' (iU o))(ft:ρ.T o=nm f)(hr:sgs ρ' rows'=sgs ρ rows):led w ρ' (blS o k (fl f) rows' c)=led w ρ (blS o k (gn o) rows c)/\((∀p∈blS o k (gn o) rows c,okO prog w ρ (ρ.num p.1) p.2)->∀p∈blS o k (fl f) rows' c,okO prog w ρ' (ρ'.num p.1) p.2):=by
 have u:iU o (Nat.add o 23)=true/\iU o (Nat.add o 45)=true/\iV (iU o) (.int [o] (Int.ofNat c) (Nat.add o 11))=true/\iV (iU o) (.int [o] (Int.ofNat c) (Nat.add o 41))=true/\iO (iU o) (.dT (Nat.add o 37) o true [] [])=true/\iO (iU o) (.dT (Nat.add o 51) o false [] [])=true/\iU o (Nat.add o 10)=true/\iU o (Nat.add o 46)=true:=by
  apply isU3 hu<;>exact⟨rfl,rfl,rfl,rfl,rfl,rfl,rfl,rfl⟩
 refine elAAAAAAA (λu1 u2 u3 u4 u5 u6 u7 u8=>?_) u;clear u
 have m:=sm_of hu S
 have s:∀t,iU o t=true->iv ρ' (fl f t)=iv ρ (gn o t):=λt ht=>by
  show Value.str (nm f) _=Value.str (ρ.T o) _
  rw[ft,(S t ht).1]
 refine⟨blg_view m (s _ u1) (s _ u2) hr (same_iv S u3) (same_iv S u4) (same_io S u5) (same_io S u6),λK=>blg_ok m K (same_iv S u4) ?_ ?_⟩
 .rw[(S _ u7).1];exact same_ok S u5 (blg_tb K).1
 .rw[(S _ u8).1];exact same_ok S u6 (blg_tb K).2
theorem unQ(H:LawFx Γ)(nf0:NFs Γ.rest){Q:Flow->Shared->Prop}{o k u f:Nat}(hu:isU o k)(hf':isF f)(hu5:u<=5){hf two w' k2:Bool}{r:Option Nat}{k0 k3:Nat}{s6 s5 s7:US}{Y:Hp}(hall:allQ u o k f=true)(hr:r∈rcs)(ft:ρ.T o=nm f)(hY:iH (outU o) Y=true)
 (hkU:lk (kvU s6 s5 s7) k=some (.ref o))(hkB:lk (kvB s6 s5 s7) k=some (.ref (o+40)))
 (R:Rl Γ ρ ⟨((ctl (uV u 403) hf r++(txs false two k0++lsl two))++(bsI s6 s5 s7++blk o k .sp))++(LI two k3 k2++Y),vsK (uV u 437) hf r w',450⟩ h)(B:Bd ρ b)(hb:b<=60)
 (K:∀ρ' s' h' tk',s'≠US.ab->Rl Γ ρ' ⟨(lsl two++LI two k3 k2)++(bsI s6 s5 s7++(blk o k s'++Y)),vs5,450⟩ h'->Bd ρ' (b+2)->Q .next (Γ.sh h' tk')):Γ.wp (execs (toS irL11) Γ.env) Q E h tk:=by
 refine elEEEAAAAA (λj xs ls hj kx kl ux ul e1=>?_)<|sp70 (ρ:=ρ) hu (js:=bi w' [0] nJs) (by cases w'<;>first|exact .inl rfl|exact .inr rfl) (R.lh (o+70)) (R.ll (o+70))
 have run:=allB_e (allB_e (allB_e (allB_e (allB_e hall hf (bl_in _)) r hr) two (bl_in _)) w' (bl_in _)) j hj
 have hrow:=e1 [] [] (dsU ρ s6 s5 s7)
 refine unX H nf0 hu hf' hu5 (fc:=[]) (ts:=[]) (A':=app (ctl (uV u 403) hf r) (mid two)) (ext:=lsl two) (Io:=outU o) (mid_eq (k:=k0)) ?_ (incs hu).2.1 outU_lt (hI_out hu).1 (iH_app (iH_app (lsi_out.2 o) (iH_app rfl rfl)) hY) R B hb rfl kx rfl kl ux ul hkU hkB (λS=>(blS_ok (prog:=prog) hu S ft hrow).1) (λS K0=>(blS_ok (prog:=prog) hu S ft hrow).2 K0) run ?_ K
 .exact ctl_in (uV_in hu5 (by apply isU3 hu<;>rfl)) (by apply isU3 hu<;>decide+kernel)
 .intro Γ' ρ1 σ1 h1 H' hL hD R1 g
  have S:Same ρ (ρ.up [] xs [] ls (dsU ρ s6 s5 s7)) (iU o):=up_same' (λi hi=>by rw[show ρ.n=450 from R.ln];exact iU_lt i hi) rfl kx rfl kl (by apply isU3 hu<;>rfl)
  refine elAA (λl1 l2 l3=>?_)<|up_len hu S hL hD B
  have q:=(B.un o k hu).1
  refine elEEAAAAA (λρ2 s' ns R2 S2 z416 x y=>?_) (finQ H' R1 hu g l1 l2 (by
   rw[sgs_len hL,hrow]
   show(ρ.L o++(ρ.L (o+70)++[])).length<=b
   rw[List.append_nil,List.length_append];exact q) l3 hb);clear z416
  exact mkEEAAAA ρ2 s' ns R2 S2 x y
theorem unP(H:LawFx Γ)(nf0:NFs Γ.rest){Q:Flow->Shared->Prop}{o k u f:Nat}(hu:isU o k)(hf':isF f)(hu5:u<=5){hf two w' k2:Bool}{r:Option Nat}{k0 k3:Nat}{s6 s5 s7:US}{Y:Hp}(hall:allP u o k f=true)(hr:r∈rcs)(ft:ρ.T o=nm f)(hY:iH (outU o) Y=true)
 (hkU:lk (kvU s6 s5 s7) k=some (.ref o))(hkB:lk (kvB s6 s5 s7) k=some (.ref (o+40)))
 (R:Rl Γ ρ ⟨((ctl (uV u 403) hf r++(txs false two k0++lsl two))++(bsI s6 s5 s7++blk o k .pa))++(LI two k3 k2++Y),vsK (uV u 437) hf r w',450⟩ h)(B:Bd ρ b)(hb:b<=60)
 (K:∀ρ' s' h' tk',s'≠US.ab->Rl Γ ρ' ⟨(lsl two++LI two k3 k2)++(bsI s6 s5 s7++(blk o k s'++Y)),vs5,450⟩ h'->Bd ρ' (b+2)->Q .next (Γ.sh h' tk')):Γ.wp (execs (toS irL11) Γ.env) Q E h tk:=by
 have run:=allB_e (allB_e (allB_e (allB_e hall hf (bl_in _)) r hr) two (bl_in _)) w' (bl_in _)
 refine unX H nf0 hu hf' hu5 (fc:=[]) (xs:=[]) (ts:=[]) (ls:=[]) (A':=app (ctl (uV u 403) hf r) (mid two)) (ext:=lsl two) (Io:=outU o) (mid_eq (k:=k0)) ?_ (incs hu).2.1 outU_lt (hI_out hu).1 (iH_app (iH_app (lsi_out.2 o) (iH_app rfl rfl)) hY) R B hb rfl rfl rfl rfl (λ_ h=>absurd h List.not_mem_nil) (λ_ h=>absurd h List.not_mem_nil) hkU hkB (λS=>(blS_ok (prog:=prog) hu S ft (same_sgs S (by apply isU3 hu<;>rfl))).1) (λS K0=>(blS_ok (prog:=prog) hu S ft (same_sgs S (by apply isU3 hu<;>rfl))).2 K0) run ?_ K
 .exact ctl_in (uV_in hu5 (by apply isU3 hu<;>rfl)) (by apply isU3 hu<;>decide+kernel)
 .intro Γ' ρ1 σ1 h1 H' hL hD R1 g
  have S:Same ρ (ρ.up [] [] [] [] (dsU ρ s6 s5 s7)) (iU o):=up_same' (λi hi=>by rw[show ρ.n=450 from R.ln];exact iU_lt i hi) rfl rfl rfl rfl (by apply isU3 hu<;>rfl)
  refine elAA (λl1 l2 l3=>?_)<|up_len hu S hL hD B
  have q:=(B.un o k hu).1
  refine elEEAAAAA (λρ2 s' ns R2 S2 z417 x y=>?_) (finQ H' R1 hu g l1 l2 (by
   rw[sgs_len hL]
   show(ρ.L o++[]).length<=b
   rw[List.append_nil];omega) l3 hb);clear z417
  exact mkEEAAAA ρ2 s' ns R2 S2 x y
end
end Mine.Q
namespace Mine.Q
section
variable{prog:Program}{w:World}{Γ:Fx prog w}{ρ ρ' ρ2:Rho}{I:Nat->Bool}{σ c:S}{h:Heap}{hp hpA hpB:Hp}{vs:List (Nat×V)}{nx tk b:Nat}{M:Mp}{E:Value->Shared->Prop}
theorem tab_l(n:Int):∀D:List (Int×Value×Value),(∀e∈D,AlkV e.2.1 e.2.2)->(∀sd,valueAt (D.map λe=>(e.1,bi sd e.2.1 e.2.2)) n=none)\/(∃v,handedIn v=true/\∀sd,valueAt (D.map λe=>(e.1,bi sd e.2.1 e.2.2)) n=some v)\/∃s a c,∀sd,valueAt (D.map λe=>(e.1,bi sd e.2.1 e.2.2)) n=some (.str s (bi sd a c))
 |[],_=>.inl λ_=>rfl
 |e::D,hD=>by
  have step:∀sd,valueAt ((e::D).map λe=>(e.1,bi sd e.2.1 e.2.2)) n=bi (decide (e.1=n)) (some (bi sd e.2.1 e.2.2)) (valueAt (D.map λe=>(e.1,bi sd e.2.1 e.2.2)) n):=λsd=>by
   unfold valueAt
   rw[List.map_cons,List.find?_cons]
   cases decide ((e.1,bi sd e.2.1 e.2.2).1=n)<;>rfl
  rcases q:decide (e.1=n)with _|_
  .rcases tab_l n D λe he=>hD e (.tail _ he)with h|⟨v,hv,h⟩|⟨s,a,c,h⟩
   .exact .inl λsd=>by rw[step,q];exact h sd
   .exact .inr (.inl ⟨v,hv,λsd=>by rw[step,q];exact h sd⟩)
   .exact .inr (.inr ⟨s,a,c,λsd=>by rw[step,q];exact h sd⟩)
  .rcases hD e (.head _)with⟨h1,h2⟩|⟨s,a,c,h1,h2⟩
   .exact .inr (.inl ⟨e.2.1,h2,λsd=>by
     rw[step,q]
     rcases sd with _|_
     .exact congrArg some h1.symm
     .rfl⟩)
   .exact .inr (.inr ⟨s,a,c,λsd=>by rw[step,q,h1,h2];cases sd<;>rfl⟩)
theorem tab_at{o:Nat}(hD:∀e∈ρ.D o,AlkV e.2.1 e.2.2)(n:Nat):∃j v s a c,j∈[0,1,2]/\handedIn v=true/\∀ρ' x t t2,ρ'.X x=v->ρ'.T x=s->ρ'.num t=a->ρ'.num t2=c->∀sd key,valueAt (bsT ρ o sd) (n:Int)=(knJ sd j key x t t2).2.map (iv ρ'):=by
 rcases tab_l (n:Int) (ρ.D o) hD with h|⟨v,hv,h⟩|⟨s,a,c,h⟩
 .exact⟨0,.none,"",0,0,.head _,rfl,λρ' x t t2 _ _ _ _ sd key=>h sd⟩
 .exact⟨1,v,"",0,0,.tail _ (.head _),hv,λρ' x t t2 e _ _ _ sd key=>by rw[←e]at h;exact h sd⟩
 .refine⟨2,.none,s,a,c,.tail _ (.tail _ (.head _)),rfl,λρ' x t t2 _ e1 e2 e3 sd key=>(h sd).trans ?_⟩
  show some (Value.str s (bi sd a c))=some (Value.str (ρ'.T x) (ρ'.num (bi sd t t2)))
  rw[e1];cases sd
  .rw[←e3];rfl
  .rw[←e2];rfl
theorem blD_ok{o k f:Nat}(hu:isU o k){kn kn2:List (Nat×Option V)}(S:Same ρ ρ' (iU o))(ft:ρ.T o=nm f):led w ρ' (blD o k (fl f) kn kn2)=led w ρ (blk o k .di)/\((∀p∈kn,valueAt (bsT ρ o true) (p.1:Int)=p.2.map (iv ρ'))->(∀p∈kn2,valueAt (bsT ρ o false) (p.1:Int)=p.2.map (iv ρ'))->(∀p∈blk o k .di,okO prog w ρ (ρ.num p.1) p.2)->∀p∈blD o k (fl f) kn kn2,okO prog w ρ' (ρ'.num p.1) p.2):=by
 have u:iU o (Nat.add o 23)=true/\iU o (Nat.add o 45)=true/\iV (iU o) (.opq (Nat.add o 2))=true/\iV (iU o) (.int [] 0 (Nat.add o 41))=true/\iU o (Nat.add o 37)=true/\iU o (Nat.add o 51)=true/\iU o (Nat.add o 10)=true/\iU o (Nat.add o 46)=true/\iU o o=true:=by
  apply isU3 hu<;>exact⟨rfl,rfl,rfl,rfl,rfl,rfl,rfl,rfl,rfl⟩
 refine elAAAAAAA (λu1 u2 u3 u4 u5 u6 u7 q418=>?_) u;refine elA (λu8 u9=>?_) q418;clear q418;clear u
 have m:=sm_of hu S
 have s:∀t,iU o t=true->iv ρ' (fl f t)=iv ρ (gn o t):=λt ht=>by
  show Value.str (nm f) _=Value.str (ρ.T o) _
  rw[ft,(S t ht).1]
 have bs:∀sd,bsT ρ' o sd=bsT ρ o sd:=λsd=>by unfold bsT;rw[(S o u9).2.2.2.2.2]
 refine⟨blg_view m (s _ u1) (s _ u2) rfl (same_iv S u3) (same_iv S u4) (S _ u5).2.1 (S _ u6).2.1,λk1 k2 K=>blg_ok m K (same_iv S u4) ?_ ?_⟩
 .rw[(S _ u7).1]
  refine elAA (λa1 a2 a3=>?_)<|(blg_tb K).1
  exact mkAA (by rw[(S _ u5).2.1,show tabT ρ' o true []=bsT ρ' o true from rfl,bs];exact a1) (λp hp=>by rw[bs];exact k1 p hp) a3
 .rw[(S _ u8).1]
  refine elAA (λa1 a2 a3=>?_)<|(blg_tb K).2
  exact mkAA (by rw[(S _ u6).2.1,show tabT ρ' o false []=bsT ρ' o false from rfl,bs];exact a1) (λp hp=>by rw[bs];exact k2 p hp) a3
theorem fcU{α:Type}{o k:Nat}(hu:isU o k){a b c d:α}:∀z,(lk [(o+61,a),(o+63,b),(o+65,c),(o+67,d)] (o+61)).getD z=a/\(lk [(o+61,a),(o+63,b),(o+65,c),(o+67,d)] (o+63)).getD z=b/\(lk [(o+61,a),(o+63,b),(o+65,c),(o+67,d)] (o+65)).getD z=c/\(lk [(o+61,a),(o+63,b),(o+65,c),(o+67,d)] (o+67)).getD z=d:=by
 intro z;apply isU3 hu<;>exact mkAAA rfl rfl rfl rfl
theorem xsU{α:Type}{o k:Nat}(hu:isU o k){a b:α}:∀z,(lk [(o+80,a),(o+81,b)] (o+80)).getD z=a/\(lk [(o+80,a),(o+81,b)] (o+81)).getD z=b:=by
 intro z;apply isU3 hu<;>exact⟨rfl,rfl⟩
theorem keyU{α:Type}{o k:Nat}(hu:isU o k){x y u v:α}:keys (iU o) [(o+80,x),(o+81,y)]=true/\keys (iU o) [(o+61,x),(o+63,y),(o+65,u),(o+67,v)]=true:=by
 apply isU3 hu<;>exact⟨rfl,rfl⟩
theorem unR(H:LawFx Γ)(nf0:NFs Γ.rest){Q:Flow->Shared->Prop}{o k u f:Nat}(hu:isU o k)(hf':isF f)(hu5:u<=5){hf two k2:Bool}{r:Option Nat}{k0 k3:Nat}{s6 s5 s7:US}{Y:Hp}(hall:allR u o k f=true)(hr:r∈rcs)(ft:ρ.T o=nm f)(hY:iH (outU o) Y=true)
 (hkU:lk (kvU s6 s5 s7) k=some (.ref o))(hkB:lk (kvB s6 s5 s7) k=some (.ref (o+40)))
 (R:Rl Γ ρ ⟨((ctl (uV u 403) hf r++(txs false two k0++lsl two))++(bsI s6 s5 s7++blk o k .di))++(LI two k3 k2++Y),vsK (uV u 437) hf r false,450⟩ h)(B:Bd ρ b)(hb:b<=60)
 (K:∀ρ' s' h' tk',s'≠US.ab->Rl Γ ρ' ⟨(lsl two++LI two k3 k2)++(bsI s6 s5 s7++(blk o k s'++Y)),vs5,450⟩ h'->Bd ρ' (b+2)->Q .next (Γ.sh h' tk')):Γ.wp (execs (toS irL11) Γ.env) Q E h tk:=by
 have main:∀(j j2:Nat) (v v2:Value) (t1 t2:Str) (a c a2 c2:Nat),j∈js3 r->j2∈bi two (js3 r) [0]->handedIn v=true->handedIn v2=true->
  (∀ρ',ρ'.X (o+80)=v->ρ'.X (o+81)=v2->ρ'.T (o+80)=t1->ρ'.T (o+81)=t2->ρ'.num (o+61)=a->ρ'.num (o+63)=c->ρ'.num (o+65)=a2->ρ'.num (o+67)=c2->∀sd,∀p∈knR o sd r two j j2,valueAt (bsT ρ o sd) (p.1:Int)=p.2.map (iv ρ'))->Γ.wp (execs (toS irL11) Γ.env) Q E h tk:=by
  intro j j2 v v2 t1 t2 a c a2 c2 hj hj2 hv hv2 hkn
  have run:=allB_e (allB_e (allB_e (allB_e (allB_e hall hf (bl_in _)) r hr) two (bl_in _)) j hj) j2 hj2
  obtain⟨kx,-⟩:=keyU hu (x:=v) (y:=v2) (u:=v) (v:=v)
  obtain⟨kt,-⟩:=keyU hu (x:=t1) (y:=t2) (u:=t1) (v:=t1)
  obtain⟨-,kf⟩:=keyU hu (x:=a) (y:=c) (u:=a2) (v:=c2)
  have n0:ρ.n=450:=R.ln
  have hkn':∀sd,∀p∈knR o sd r two j j2,valueAt (bsT ρ o sd) (p.1:Int)=p.2.map (iv (ρ.up [(o+61,a),(o+63,c),(o+65,a2),(o+67,c2)] [(o+80,v),(o+81,v2)] [(o+80,t1),(o+81,t2)] [] (dsU ρ s6 s5 s7))):=by
   have lt:o+67<450:=by apply isU3 hu<;>omega
   have F:∀z,_:=fcU hu (a:=a) (b:=c) (c:=a2) (d:=c2)
   refine hkn _ (xsU hu _).1 (xsU hu _).2 (xsU hu _).1 (xsU hu _).2 ?_ ?_ ?_ ?_
   .rw[up_num (by omega)];exact(F _).1
   .rw[up_num (by omega)];exact(F _).2.1
   .rw[up_num (by omega)];exact(F _).2.2.1
   .rw[up_num (by omega)];exact(F _).2.2.2
  refine unX H nf0 hu hf' hu5 (fc:=[(o+61,a),(o+63,c),(o+65,a2),(o+67,c2)]) (xs:=[(o+80,v),(o+81,v2)]) (ts:=[(o+80,t1),(o+81,t2)]) (ls:=[]) (A':=app (ctl (uV u 403) hf r) (mid two)) (ext:=lsl two) (Io:=outU o) (mid_eq (k:=k0)) ?_ (incs hu).2.1 outU_lt (hI_out hu).1 (iH_app (iH_app (lsi_out.2 o) (iH_app rfl rfl)) hY) R B hb kf kx kt rfl (λp h=>?_) (λ_ h=>absurd h List.not_mem_nil) hkU hkB (λS=>(blD_ok (prog:=prog) hu S ft).1) (λS K0=>(blD_ok (prog:=prog) hu S ft).2 (hkn' true) (hkn' false) K0) run ?_ K
  .exact ctl_in (uV_in hu5 (by apply isU3 hu<;>rfl)) (by apply isU3 hu<;>decide+kernel)
  .rcases List.mem_cons.mp h with rfl|h
   .exact hv
   .rw[List.mem_singleton]at h;subst h;exact hv2
  .intro Γ' ρ1 σ1 h1 H' hL hD R1 g
   have S:Same ρ (ρ.up [(o+61,a),(o+63,c),(o+65,a2),(o+67,c2)] [(o+80,v),(o+81,v2)] [(o+80,t1),(o+81,t2)] [] (dsU ρ s6 s5 s7)) (iU o):=up_same' (λi hi=>by rw[n0];exact iU_lt i hi) kf kx kt rfl (by apply isU3 hu<;>rfl)
   refine elAA (λl1 l2 l3=>?_)<|up_len hu S hL hD B
   have q:=(B.un o k hu).1
   refine elEAAAA (λρ2 R2 S2 z419 x y=>?_) (finD H' R1 hu (tgU_st hu) outU_lt g l1 l2 (by rw[hL,hL];exact q) l3 hb);clear z419
   exact mkEEAAAA ρ2 (.di) di_ne R2 S2 x y
 rcases r with _|n
 .exact main 0 0 .none .none "" "" 0 0 0 0 (.head _) (by cases two<;>exact .head _) rfl rfl λ_ _ _ _ _ _ _ _ _ sd p hp=>absurd hp List.not_mem_nil
 .refine elEEEEEAA (λj v s a c hj hv e1=>?_)<|tab_at (R.dd o).2 n
  refine elEEEEEAA (λj2 v2 s2 a2 c2 hj2 hv2 e2=>?_)<|tab_at (R.dd o).2 (n+1)
  rcases two with _|_
  .refine main j 0 v v2 s s2 a c a2 c2 hj (.head _) hv hv2 λρ' x1 x2 y1 y2 z1 z2 z3 z4 sd p hp=>?_
   rw[show p=knJ sd j n (o+80) (o+61) (o+63)from List.mem_singleton.mp hp]
   exact e1 ρ' _ _ _ x1 y1 z1 z2 sd n
  .refine main j j2 v v2 s s2 a c a2 c2 hj hj2 hv hv2 λρ' x1 x2 y1 y2 z1 z2 z3 z4 sd p hp=>?_
   rcases List.mem_cons.mp hp with rfl|hp
   .exact e1 ρ' _ _ _ x1 y1 z1 z2 sd n
   .rw[show p=knJ sd j2 (n+1) (o+81) (o+65) (o+67)from List.mem_singleton.mp hp]
    exact e2 ρ' _ _ _ x2 y2 z3 z4 sd (n+1)
end
end Mine.Q
namespace Mine.Q
section
variable{prog:Program}{w:World}{Γ:Fx prog w}{ρ ρ' ρ2:Rho}{I:Nat->Bool}{σ c:S}{h:Heap}{hp hpA hpB:Hp}{vs:List (Nat×V)}{nx tk b:Nat}{M:Mp}{E:Value->Shared->Prop}
theorem iH_lr:∀{A B:Hp},iH I (A++B)=true->iH I A=true/\iH I B=true
 |[],_,h=>⟨rfl,h⟩
 |p::A,B,h=>by
  obtain⟨a,h⟩:=bi_t (b:=bi (I p.1) (iO I p.2) false) (p:=iH I (A++B)) h
  obtain⟨x,y⟩:=iH_lr (A:=A) h
  exact⟨by show bi (bi (I p.1) (iO I p.2) false) (iH I A) false=true;rw[a];exact x,y⟩
theorem txs_in{two lit:Bool}{k:Nat}{I:Nat->Bool}(h:iH I (txs false two 0)=true)(h1:I 411=true)(h2:I 413=true):iH I (txs lit two k)=true:=by
 have t:∀{a b:Bool},a=true->b=true->bi a b false=true:=λh1 h2=>by rw[h1];exact h2
 cases lit
 .exact h
 .obtain⟨a,-⟩:=bi_t (b:=bi (I 408) _ false) h
  obtain⟨i408,a⟩:=bi_t a
  obtain⟨-,i409⟩:=bi_t a
  cases two
  .exact t (t i408 (t (t h1 rfl) i409)) rfl
  .exact t (t i408 (t (t h1 (t h2 rfl)) i409)) rfl
theorem txs_mod{two lit:Bool}:∀k,k<10->∃kk,kk∈[0,1,2,3]/\txs lit two k=txs lit two kk
 |0,_=>⟨0,by decide,rfl⟩
 |1,_=>⟨1,by decide,rfl⟩
 |2,_=>⟨2,by decide,rfl⟩
 |3,_=>⟨3,by decide,rfl⟩
 |4,_=>⟨0,by decide,rfl⟩
 |5,_=>⟨1,by decide,rfl⟩
 |6,_=>⟨2,by decide,rfl⟩
 |7,_=>⟨3,by decide,rfl⟩
 |8,_=>⟨0,by decide,rfl⟩
 |9,_=>⟨1,by decide,rfl⟩
 |n+10,h=>absurd h (by omega)
theorem nokn{o:Nat}{sd:Bool}:∀p∈([]:List (Nat×Option V)),valueAt (bsT ρ o sd) (p.1:Int)=p.2.map (iv ρ'):=λ_ h=>absurd h List.not_mem_nil
theorem unD(H:LawFx Γ)(nf0:NFs Γ.rest){Q:Flow->Shared->Prop}{o k u f:Nat}(hu:isU o k)(hf':isF f)(hu5:u<=5){hf two w':Bool}{r:Option Nat}{s6 s5 s7:US}{A A' OUTL Y ext:Hp}{Io:Nat->Bool}(eA:A'=A)(hA:iH (iU o) A=true)(hIo:∀i,Io i=true->iU o i=true)(hIl:∀i,Io i=true->i<450)
 (hIr:∀o' k',isU o' k'->o'≠o->Io o'=true/\Io (o'+70)=true/\Io (o'+40)=true)(hO:iH Io (OUTL++Y)=true)(hst:stB (tgU o k ext .di)=true/\offB Io (tgU o k ext .di)=true)(ft:ρ.T o=nm f)
 (hkU:lk (kvU s6 s5 s7) k=some (.ref o))(hkB:lk (kvB s6 s5 s7) k=some (.ref (o+40)))
 (run:run11 ⟨app A' (app (bsK [.sg 50,.sg 51] [.sg 51] (knU k o) (knU k (Nat.add o 40))) (blD o k (fl f) [] [])),vsK (uV u 437) hf r w',450⟩ (endD o k Io ext f)=true)
 (R:Rl Γ ρ ⟨(A++(bsI s6 s5 s7++blk o k .di))++(OUTL++Y),vsK (uV u 437) hf r w',450⟩ h)(B:Bd ρ b)(hb:b<=60)
 (K:∀ρ' s' h' tk',s'≠US.ab->Rl Γ ρ' ⟨(ext++OUTL)++(bsI s6 s5 s7++(blk o k s'++Y)),vs5,450⟩ h'->Bd ρ' (b+2)->Q .next (Γ.sh h' tk')):Γ.wp (execs (toS irL11) Γ.env) Q E h tk:=by
 refine unX H nf0 hu hf' hu5 (fc:=[]) (xs:=[]) (ts:=[]) (ls:=[]) (A':=A') eA hA hIo hIl hIr hO R B hb rfl rfl rfl rfl (λ_ h=>absurd h List.not_mem_nil) (λ_ h=>absurd h List.not_mem_nil) hkU hkB (λS=>(blD_ok (prog:=prog) hu S ft).1) (λS K0=>(blD_ok (prog:=prog) hu S ft).2 nokn nokn K0) run ?_ K
 intro Γ' ρ1 σ1 h1 H' hL hD R1 g
 have S:Same ρ (ρ.up [] [] [] [] (dsU ρ s6 s5 s7)) (iU o):=up_same' (λi hi=>by rw[show ρ.n=450 from R.ln];exact iU_lt i hi) rfl rfl rfl rfl (by apply isU3 hu<;>rfl)
 refine elAA (λl1 l2 l3=>?_)<|up_len hu S hL hD B
 have q:=(B.un o k hu).1
 refine elEAAAA (λρ2 R2 S2 z420 x y=>?_) (finD H' R1 hu hst hIl g l1 l2 (by rw[hL,hL];exact q) l3 hb);clear z420
 exact mkEEAAAA ρ2 (.di) di_ne R2 S2 x y
theorem ctlU_in{o k u:Nat}(hu:isU o k)(hu5:u<=5){hf two:Bool}{r:Option Nat}:iH (iU o) (ctl (uV u 403) hf r)=true/\iH (iU o) (txs false two 0)=true/\iH (iU o) (lsl two)=true/\iU o 411=true/\iU o 413=true:=by
 have:=ctl_in (hf:=hf) (r:=r) (two:=two) (I:=iU o) (uV_in hu5 (t:=403) (by apply isU3 hu<;>rfl)) (by apply isU3 hu<;>decide+kernel)
 obtain⟨a,c⟩:=iH_lr this
 obtain⟨c,d⟩:=iH_lr c
 exact⟨a,c,d,by apply isU3 hu<;>rfl,by apply isU3 hu<;>rfl⟩
theorem unW(H:LawFx Γ)(nf0:NFs Γ.rest){Q:Flow->Shared->Prop}{o k u f:Nat}(hu:isU o k)(hf':isF f)(hu5:u<=5){two k2:Bool}{r:Option Nat}{k0 k3:Nat}{s6 s5 s7:US}{Y:Hp}(hall:allW u o k f=true)(hk0:k0<10)(hr:r∈rcs)(ft:ρ.T o=nm f)(hY:iH (outU o) Y=true)
 (hkU:lk (kvU s6 s5 s7) k=some (.ref o))(hkB:lk (kvB s6 s5 s7) k=some (.ref (o+40)))
 (R:Rl Γ ρ ⟨((ctl (uV u 403) true r++(txs true two k0++lsl two))++(bsI s6 s5 s7++blk o k .di))++(LI two k3 k2++Y),vsK (uV u 437) true r true,450⟩ h)(B:Bd ρ b)(hb:b<=60)
 (K:∀ρ' s' h' tk',s'≠US.ab->Rl Γ ρ' ⟨(lsl two++LI two k3 k2)++(bsI s6 s5 s7++(blk o k s'++Y)),vs5,450⟩ h'->Bd ρ' (b+2)->Q .next (Γ.sh h' tk')):Γ.wp (execs (toS irL11) Γ.env) Q E h tk:=by
 refine elEA (λkk hkk ek=>?_)<|txs_mod (two:=two) (lit:=true) k0 hk0
 have run:=allB_e (allB_e (allB_e hall r hr) two (bl_in _)) kk hkk
 refine elAAAA (λc1 c2 c3 c4 c5=>?_)<|ctlU_in hu hu5 (hf:=true) (two:=two) (r:=r)
 exact unD H nf0 hu hf' hu5 (two:=two) (A':=app (ctl (uV u 403) true r) (app (txs true two kk) (lsl two))) (by rw[app_eq,app_eq,ek]) (iH_app c1 (iH_app (txs_in c2 c4 c5) c3)) (incs hu).2.1 outU_lt (hI_out hu).1 (iH_app (iH_app (lsi_out.2 o) (iH_app rfl rfl)) hY) (tgU_st hu) ft hkU hkB run R B hb K
theorem lsi_in{o k:Nat}(hu:isU o k){two k2:Bool}{k3:Nat}:iH (iU o) (lsi two k3 k2)=true:=by
 apply isU3 hu<;>cases two<;>cases k2<;>exact rfl
theorem p4{α:Type}{C T L I Z X Y:List α}:List.Perm (((C++(T++L))++X)++((I++Z)++Y)) (((C++(T++(L++I)))++X)++(Z++Y)):=by
 simp only[List.append_assoc]
 refine List.Perm.append_left C (List.Perm.append_left T (List.Perm.append_left L ?_))
 exact pcomm
theorem unV(H:LawFx Γ)(nf0:NFs Γ.rest){Q:Flow->Shared->Prop}{o k u f:Nat}(hu:isU o k)(hf':isF f)(hu5:u<=5){two k2:Bool}{r:Option Nat}{k0 k3:Nat}{s6 s5 s7:US}{Y:Hp}(hall:allV u o k f=true)(h3:k3∈[0,1,2])(hr:r∈rcs)(ft:ρ.T o=nm f)(hY:iH (outV o) Y=true)
 (hkU:lk (kvU s6 s5 s7) k=some (.ref o))(hkB:lk (kvB s6 s5 s7) k=some (.ref (o+40)))
 (R:Rl Γ ρ ⟨((ctl (uV u 403) false r++(txs false two k0++lsl two))++(bsI s6 s5 s7++blk o k .di))++(LI two k3 k2++Y),vsK (uV u 437) false r true,450⟩ h)(B:Bd ρ b)(hb:b<=60)
 (K:∀ρ' s' h' tk',s'≠US.ab->Rl Γ ρ' ⟨(lsl two++LI two k3 k2)++(bsI s6 s5 s7++(blk o k s'++Y)),vs5,450⟩ h'->Bd ρ' (b+2)->Q .next (Γ.sh h' tk')):Γ.wp (execs (toS irL11) Γ.env) Q E h tk:=by
 have run:=allB_e (allB_e (allB_e (allB_e hall r hr) two (bl_in _)) k3 h3) k2 (bl_in _)
 refine elAAAA (λc1 c2 c3 c4 c5=>?_)<|ctlU_in hu hu5 (hf:=false) (two:=two) (r:=r)
 refine unD H nf0 hu hf' hu5 (two:=two) (A':=app (ctl (uV u 403) false r) (app (txs false two 0) (app (lsl two) (lsi two k3 k2)))) (A:=ctl (uV u 403) false r++(txs false two 0++(lsl two++lsi two k3 k2))) (OUTL:=cel (some (.opq 0))++scp) (Io:=outV o) (ext:=app (lsl two) (lsi two k3 k2)) (by rw[app_eq,app_eq,app_eq]) (iH_app c1 (iH_app c2 (iH_app c3 (lsi_in hu)))) (incs hu).2.2 outV_lt (hI_out hu).2 (iH_app (iH_app rfl rfl) hY) (tgV_st hu) ft hkU hkB run (R.perm p4) B hb λρ' s' h' tk' ns R' B'=>K ρ' s' h' tk' ns ?_ B'
 rw[app_eq,List.append_assoc (lsl two)]at R'
 exact R'
theorem Bd.up(B:Bd ρ b):Bd ρ (b+2):=⟨B.inp,Nat.le_trans B.out (Nat.le_add_right ..),λo k hu=>by
 have q:=B.un o k hu
 exact⟨Nat.le_trans q.1 (Nat.le_add_right ..),Nat.le_trans q.2.1 (Nat.le_add_right ..),q.2.2⟩⟩
theorem p5{α:Type}{A L C S Z:List α}:List.Perm ((A++(L++(C++S)))++Z) ((A++S)++((L++C)++Z)):=by
 simp only[List.append_assoc]
 refine List.Perm.append_left A ?_
 rw[←List.append_assoc L C,←List.append_assoc L C]
 exact pcomm
noncomputable def iN(i:Nat):Bool:=Nat.blt i 450
theorem unN(H:LawFx Γ)(nf0:NFs Γ.rest){Q:Flow->Shared->Prop}{two w' k2:Bool}{r:Option Nat}{k0 k3:Nat}{X:Hp}(hall:allN=true)(hk0:k0<10)(hr:r∈rcs)(hX:iH outN X=true)
 (R:Rl Γ ρ ⟨((ctl (uV 4 403) true r++(txs true two k0++lsl two))++LI two k3 k2)++X,vsK (uV 4 437) true r w',450⟩ h)(B:Bd ρ b)
 (K:∀ρ' h' tk',Rl Γ ρ' ⟨(lsl two++LI two k3 k2)++X,vs5,450⟩ h'->Bd ρ' (b+2)->Q .next (Γ.sh h' tk')):Γ.wp (execs (toS irL11) Γ.env) Q E h tk:=by
 refine elEA (λkk hkk ek=>?_)<|txs_mod (two:=two) (lit:=true) k0 hk0
 have run:=allB_e (allB_e (allB_e (allB_e hall r hr) two (bl_in _)) w' (bl_in _)) kk hkk
 have hn:ρ.n=450:=R.ln
 have same:Same ρ (ρ.up [] [] [] [] []) iN:=up_same' (λi hi=>by rw[hn];exact lt_e hi) rfl rfl rfl rfl rfl
 have hIN:iH iN ((ctl (uV 4 403) true r++(txs true two k0++lsl two))++scp)=true:=by
  have:=ctl_in (hf:=true) (r:=r) (two:=two) (I:=iN) (uV_in (u:=4) (by omega) (t:=403) rfl) (by decide+kernel)
  obtain⟨a,c⟩:=iH_lr this
  obtain⟨c,d⟩:=iH_lr c
  exact iH_app (iH_app a (iH_app (txs_in c rfl rfl) d)) rfl
 have eIN:app (app (ctl (uV 4 403) true r) (app (txs true two kk) (lsl two))) scp=(ctl (uV 4 403) true r++(txs true two k0++lsl two))++scp:=by rw[app_eq,app_eq,app_eq,ek]
 refine core11 (IN:=(ctl (uV 4 403) true r++(txs true two k0++lsl two))++scp) (OUT:=(lsi two k3 k2++cel (some (.opq 0)))++X) (Io:=outN) (I:=iN) (IN':=app (app (ctl (uV 4 403) true r) (app (txs true two kk) (lsl two))) scp) (post:=endN two) (fc:=[]) (xs:=[]) (ts:=[]) (ls:=[]) (ds:=[]) H
  (λtg _=>tg=tgN two) (R.perm p5) nf0 (iH_app (iH_app (by cases two<;>cases k2<;>rfl) rfl) hX) outN_lt same rfl (vsK_in (uV_in (by omega) rfl) ⟨rfl,rfl,rfl,rfl,rfl,rfl,rfl,rfl,rfl⟩) (λi hi=>?_) (λ_ h=>absurd h List.not_mem_nil) (λ_ h=>absurd h List.not_mem_nil) (λ_ h=>absurd h List.not_mem_nil) ?_ (λK0=>?_) run ?_ ?_
 .have:=outN_lt i hi
  exact Nat.ble_eq_true_of_le this
 .rw[eIN];exact same_led same hIN
 .rw[eIN];exact same_oks same hIN K0
 .intro Γ' ρ1 σ1 h1 H' x R3 g
  refine elEAA (λρ2 R4 S2 z421=>?_)<|finN H' R3 g;clear z421
  exact⟨ρ2,_,R4,rfl,S2,rfl⟩
 .rintro ρ2 tg h' tk' R4 S2 rfl
  refine K ρ2 h' tk' ?_ ((B.same S2 λi h1 h2=>?_).up)
  .have R5:Rl Γ ρ2 ⟨(lsl two++scp)++((lsi two k3 k2++cel (some (.opq 0)))++X),vs5,450⟩ h':=by
    have:=R4
    unfold tgN at this
    rw[app_eq]at this
    exact this
   exact R5.perm p5.symm
  .show bi (Nat.blt i 2) true (bi (inR 416 436 i) true (inR 10 400 i))=true
   rw[show inR 10 400 i=true by show bi (Nat.ble 10 i) (Nat.blt i 400) false=true;rw[Nat.ble_eq_true_of_le h1];exact Nat.ble_eq_true_of_le h2]
   cases Nat.blt i 2<;>cases inR 416 436 i<;>rfl
end
end Mine.Q
namespace Mine.Q
structure AllC:Prop where
 z:all0 0=true/\all0 1=true/\all0 2=true/\all0 3=true/\all0 5=true
 n:allN=true
 q:∀f,isF f->allQ 1 100 6 f=true/\allQ 2 200 5 f=true/\allQ 3 300 7 f=true
 p:∀f,isF f->allP 1 100 6 f=true/\allP 2 200 5 f=true/\allP 3 300 7 f=true
 r:∀f,isF f->allR 1 100 6 f=true/\allR 2 200 5 f=true/\allR 3 300 7 f=true
 w:∀f,isF f->allW 1 100 6 f=true/\allW 2 200 5 f=true/\allW 3 300 7 f=true
 v:∀f,isF f->allV 1 100 6 f=true/\allV 2 200 5 f=true/\allV 3 300 7 f=true
 a:∀k,k<10->runA k=true/\celL k none=true/\celL k (some (.opq 0))=true
 s:∀s6,all12 s6=true
 l:allPl=true
section
variable{prog:Program}{w:World}{Γ:Fx prog w}{ρ ρ' ρ2:Rho}{I:Nat->Bool}{σ c:S}{h:Heap}{hp hpA hpB:Hp}{vs:List (Nat×V)}{nx tk b:Nat}{M:Mp}{E:Value->Shared->Prop}
noncomputable def isX(u o k:Nat):Prop:=(u=1/\o=100/\k=6)\/(u=2/\o=200/\k=5)\/(u=3/\o=300/\k=7)
theorem isX_hu{u o k:Nat}(hx:isX u o k):isU o k/\u<=5/\∀p∈kn0 u,p=(k,none):=by
 rcases hx with⟨rfl,rfl,rfl⟩|⟨rfl,rfl,rfl⟩|⟨rfl,rfl,rfl⟩
 .exact⟨.inl ⟨rfl,rfl⟩,by decide,λ_ hp=>List.mem_singleton.mp hp⟩
 .exact⟨.inr (.inl ⟨rfl,rfl⟩),by decide,λ_ hp=>List.mem_singleton.mp hp⟩
 .exact⟨.inr (.inr ⟨rfl,rfl⟩),by decide,λ_ hp=>List.mem_singleton.mp hp⟩
theorem AllC.un(C:AllC){u o k f:Nat}(hx:isX u o k)(hf:isF f):all0 u=true/\allQ u o k f=true/\allP u o k f=true/\allR u o k f=true/\allW u o k f=true/\allV u o k f=true:=by
 refine elAAAA (λz422 z1 z2 z3 z423=>?_)<|C.z;clear z422 z423
 refine elAA (λq1 q2 q3=>?_)<|C.q f hf
 refine elAA (λp1 p2 p3=>?_)<|C.p f hf
 refine elAA (λr1 r2 r3=>?_)<|C.r f hf
 refine elAA (λw1 w2 w3=>?_)<|C.w f hf
 refine elAA (λv1 v2 v3=>?_)<|C.v f hf
 rcases hx with⟨rfl,rfl,rfl⟩|⟨rfl,rfl,rfl⟩|⟨rfl,rfl,rfl⟩
 .exact mkAAAAA z1 q1 p1 r1 w1 v1
 .exact mkAAAAA z2 q2 p2 r2 w2 v2
 .exact mkAAAAA z3 q3 p3 r3 w3 v3
theorem unit11(C:AllC)(H:LawFx Γ)(nf0:NFs Γ.rest){Q:Flow->Shared->Prop}{u o k:Nat}(hx:isX u o k){hf two w' k2:Bool}{r:Option Nat}{k0 k3:Nat}{s6 s5 s7 s:US}{Y:Hp}(hk0:k0<10)(h3:k3∈[0,1,2])(hr:r∈rcs)(hY:iH out0 Y=true/\iH (outU o) Y=true/\iH (outV o) Y=true)
 (hs:(s=.ab/\lk (kvU s6 s5 s7) k=none/\lk (kvB s6 s5 s7) k=none)\/(s≠.ab/\lk (kvU s6 s5 s7) k=some (.ref o)/\lk (kvB s6 s5 s7) k=some (.ref (o+40))))
 {ρ1:Rho}(R:Rl Γ ρ ⟨((ctl (uV u 403) hf r++(txs false two k0++lsl two))++LI two k3 k2)++(bsI s6 s5 s7++(blk o k s++Y)),vsK (uV u 437) hf r w',450⟩ h)(B:Bd ρ b)
 (R1:Rl Γ ρ1 ⟨((ctl (uV u 403) hf r++(txs true two k0++lsl two))++LI two k3 k2)++(bsI s6 s5 s7++(blk o k s++Y)),vsK (uV u 437) hf r w',450⟩ h)(B1:Bd ρ1 b)(hb:b<=60)
 (K:∀ρ' s' h' tk',(s=.ab↔s'=.ab)->Rl Γ ρ' ⟨(lsl two++LI two k3 k2)++(bsI s6 s5 s7++(blk o k s'++Y)),vs5,450⟩ h'->Bd ρ' (b+2)->Q .next (Γ.sh h' tk')):Γ.wp (execs (toS irL11) Γ.env) Q E h tk:=by
 obtain⟨hu,hu5,hpk⟩:=isX_hu hx
 refine elAAEA (λz424 z425 f hff ft=>?_)<|B.un o k hu;clear z424 z425
 refine elAAEA (λz426 z427 f1 hff1 ft1=>?_)<|B1.un o k hu;clear z426 z427
 refine elAAAAA (λz q p rr z428 v=>?_)<|C.un hx hff;clear z428
 refine elAAAAA (λz429 z430 z431 z432 ww z433=>?_)<|C.un hx hff1;clear z429 z430 z431 z432 z433
 rcases hs with⟨rfl,n1,n2⟩|⟨ns,n1,n2⟩
 .refine no11 H nf0 (X:=Y) z hu5 hr (λp hp=>?_) R hY.1 B hb λρ' h' tk' R' B'=>K ρ' .ab h' tk' Iff.rfl R' B'
  exact(hpk _ hp).symm▸⟨rfl,n1,n2⟩
 have K':∀ρ' s' h' tk',s'≠US.ab->Rl Γ ρ' ⟨(lsl two++LI two k3 k2)++(bsI s6 s5 s7++(blk o k s'++Y)),vs5,450⟩ h'->Bd ρ' (b+2)->Q .next (Γ.sh h' tk'):=λρ' s' h' tk' ns'=>K ρ' s' h' tk' ⟨λe=>absurd e ns,λe=>absurd e ns'⟩
 have Rp:=R.perm (p1 (.refl _))
 have Rp1:=R1.perm (p1 (.refl _))
 clear R R1 K
 cases s with
 |ab=>exact absurd rfl ns
 |sp=>exact unQ H nf0 hu hff hu5 q hr ft hY.2.1 n1 n2 Rp B hb K'
 |pa=>exact unP H nf0 hu hff hu5 p hr ft hY.2.1 n1 n2 Rp B hb K'
 |di=>
  rcases w' with _|_
  .exact unR H nf0 hu hff hu5 rr hr ft hY.2.1 n1 n2 Rp B hb K'
  .rcases hf with _|_
   .exact unV H nf0 hu hff hu5 v h3 hr ft hY.2.2 n1 n2 Rp B hb K'
   .exact unW H nf0 hu hff1 hu5 ww hk0 hr ft1 hY.2.1 n1 n2 Rp1 B1 hb K'
theorem blk_in(s:US):(iH out0 (blk 100 6 s)=true/\iH (outU 200) (blk 100 6 s)=true/\iH (outU 300) (blk 100 6 s)=true/\iH (outV 200) (blk 100 6 s)=true/\iH (outV 300) (blk 100 6 s)=true/\iH outN (blk 100 6 s)=true)/\
 (iH out0 (blk 200 5 s)=true/\iH (outU 100) (blk 200 5 s)=true/\iH (outU 300) (blk 200 5 s)=true/\iH (outV 100) (blk 200 5 s)=true/\iH (outV 300) (blk 200 5 s)=true/\iH outN (blk 200 5 s)=true)/\
 (iH out0 (blk 300 7 s)=true/\iH (outU 100) (blk 300 7 s)=true/\iH (outU 200) (blk 300 7 s)=true/\iH (outV 100) (blk 300 7 s)=true/\iH (outV 200) (blk 300 7 s)=true/\iH outN (blk 300 7 s)=true):=by
 cases s<;>exact⟨⟨rfl,rfl,rfl,rfl,rfl,rfl⟩,⟨rfl,rfl,rfl,rfl,rfl,rfl⟩,⟨rfl,rfl,rfl,rfl,rfl,rfl⟩⟩
theorem bas_in(s6 s5 s7:US):iH outN (bsI s6 s5 s7)=true/\iH (inR 10 400) (bsI s6 s5 s7)=true/\iH outP (bsI s6 s5 s7)=true:=by
 cases s6<;>cases s5<;>cases s7<;>exact mkAA rfl rfl rfl
theorem bs6{s6 s5 s7 s':US}(e:s6=.ab↔s'=.ab):bsI s' s5 s7=bsI s6 s5 s7:=by
 cases s6<;>cases s'<;>first|rfl|exact absurd (e.mp rfl) (λe=>nomatch e)|exact absurd (e.mpr rfl) (λe=>nomatch e)
theorem bs5{s6 s5 s7 s':US}(e:s5=.ab↔s'=.ab):bsI s6 s' s7=bsI s6 s5 s7:=by
 cases s5<;>cases s'<;>first|rfl|exact absurd (e.mp rfl) (λe=>nomatch e)|exact absurd (e.mpr rfl) (λe=>nomatch e)
theorem bs7{s6 s5 s7 s':US}(e:s7=.ab↔s'=.ab):bsI s6 s5 s'=bsI s6 s5 s7:=by
 cases s7<;>cases s'<;>first|rfl|exact absurd (e.mp rfl) (λe=>nomatch e)|exact absurd (e.mpr rfl) (λe=>nomatch e)
noncomputable def HsU(s s6 s5 s7:US)(o k:Nat):Prop:=(s=.ab/\lk (kvU s6 s5 s7) k=none/\lk (kvB s6 s5 s7) k=none)\/(s≠.ab/\lk (kvU s6 s5 s7) k=some (.ref o)/\lk (kvB s6 s5 s7) k=some (.ref (o+40)))
theorem hs6{s6 s5 s7:US}:HsU s6 s6 s5 s7 100 6:=by
 cases s6
 .exact .inl ⟨rfl,by cases s5<;>cases s7<;>exact⟨rfl,rfl⟩⟩
 all_goals exact .inr ⟨(λe=>nomatch e),rfl,rfl⟩
theorem hs5{s6 s5 s7:US}:HsU s5 s6 s5 s7 200 5:=by
 cases s5
 .exact .inl ⟨rfl,by cases s6<;>cases s7<;>exact⟨rfl,rfl⟩⟩
 all_goals exact .inr ⟨(λe=>nomatch e),by cases s6<;>exact⟨rfl,rfl⟩⟩
theorem hs7{s6 s5 s7:US}:HsU s7 s6 s5 s7 300 7:=by
 cases s7
 .exact .inl ⟨rfl,by cases s6<;>cases s5<;>exact⟨rfl,rfl⟩⟩
 all_goals exact .inr ⟨(λe=>nomatch e),by cases s6<;>cases s5<;>exact⟨rfl,rfl⟩⟩
theorem no8{s6 s5 s7:US}:lk (kvU s6 s5 s7) 8=none/\lk (kvB s6 s5 s7) 8=none:=by
 cases s6<;>cases s5<;>cases s7<;>exact⟨rfl,rfl⟩
noncomputable abbrev bks(s6 s5 s7:US):Hp:=blk 100 6 s6++(blk 200 5 s5++blk 300 7 s7)
theorem rot{α:Type}{A B C D:List α}:List.Perm (A++(B++(C++D))) (A++(D++(B++C))):=by
 refine List.Perm.append_left A ?_
 rw[←List.append_assoc]
 exact List.perm_append_comm
theorem s11(C:AllC)(H:LawFx Γ)(nf0:NFs Γ.rest){Q:Flow->Shared->Prop}{u:Nat}(hu5:u<=5){hf two w' k2:Bool}(hhf:u=4->hf=true){r:Option Nat}{k0 k3:Nat}{s6 s5 s7:US}(hk0:k0<10)(h3:k3∈[0,1,2])(hr:r∈rcs)
 {ρ1:Rho}(R:Rl Γ ρ ⟨((ctl (uV u 403) hf r++(txs false two k0++lsl two))++LI two k3 k2)++(bsI s6 s5 s7++bks s6 s5 s7),vsK (uV u 437) hf r w',450⟩ h)(B:Bd ρ b)
 (R1:Rl Γ ρ1 ⟨((ctl (uV u 403) hf r++(txs true two k0++lsl two))++LI two k3 k2)++(bsI s6 s5 s7++bks s6 s5 s7),vsK (uV u 437) hf r w',450⟩ h)(B1:Bd ρ1 b)(hb:b<=60)
 (K:∀ρ' s6 s5 s7 h' tk',Rl Γ ρ' ⟨(lsl two++LI two k3 k2)++(bsI s6 s5 s7++bks s6 s5 s7),vs5,450⟩ h'->Bd ρ' (b+2)->Q .next (Γ.sh h' tk')):Γ.wp (execs (toS irL11) Γ.env) Q E h tk:=by
 refine elAA (λn434 z435 z436=>?_)<|blk_in s6;clear z435 z436;obtain⟨a0,a2,a3,a4,a5,a6⟩:=n434
 refine elAA (λz437 n438 z439=>?_)<|blk_in s5;clear z437 z439;obtain⟨b0,b2,b3,b4,b5,b6⟩:=n438
 refine elAAAAAAA (λz440 z441 c0 c2 c3 c4 c5 c6=>?_)<|blk_in s7;clear z440 z441
 have plain:(u=0\/u=5)->all0 u=true->(∀p∈kn0 u,p.2=none/\lk (kvU s6 s5 s7) p.1=none/\lk (kvB s6 s5 s7) p.1=none)->Γ.wp (execs (toS irL11) Γ.env) Q E h tk:=λe z hkn=>
  no11 H nf0 (X:=bks s6 s5 s7) z hu5 hr hkn R (iH_app a0 (iH_app b0 c0)) B hb λρ' h' tk' R' B'=>K ρ' s6 s5 s7 h' tk' R' B'
 have cs:=(by decide:∀u,u<6->u=0\/u=5\/u=4\/u=1\/u=2\/u=3) u (Nat.lt_succ_of_le hu5)
 rcases cs with rfl|rfl|rfl|rfl|rfl|rfl
 .exact plain (.inl rfl) C.z.1 λp hp=>absurd hp List.not_mem_nil
 .exact plain (.inr rfl) C.z.2.2.2.2 λp hp=>by
   rw[show p=(8,none)from List.mem_singleton.mp hp]
   exact⟨rfl,no8⟩
 .rw[hhf rfl]at R1
  exact unN H nf0 (X:=bsI s6 s5 s7++bks s6 s5 s7) C.n hk0 hr (iH_app (bas_in s6 s5 s7).1 (iH_app a6 (iH_app b6 c6))) R1 B1 λρ' h' tk' R' B'=>K ρ' s6 s5 s7 h' tk' R' B'
 .refine unit11 C H nf0 (s:=s6) (Y:=blk 200 5 s5++blk 300 7 s7) (.inl ⟨rfl,rfl,rfl⟩) hk0 h3 hr ⟨iH_app b0 c0,iH_app b2 c2,iH_app b4 c4⟩ hs6 R B R1 B1 hb λρ' s' h' tk' e R' B'=>K ρ' s' s5 s7 h' tk' (by
   rw[bs6 e];exact R') B'
 .have q:∀{X:Hp} {s:US},List.Perm (X++(bsI s6 s5 s7++bks s6 s s7)) (X++(bsI s6 s5 s7++(blk 200 5 s++(blk 100 6 s6++blk 300 7 s7)))):=List.Perm.append_left _ (List.Perm.append_left _ pcomm)
  refine unit11 C H nf0 (s:=s5) (Y:=blk 100 6 s6++blk 300 7 s7) (.inr (.inl ⟨rfl,rfl,rfl⟩)) hk0 h3 hr ⟨iH_app a0 c0,iH_app a2 c3,iH_app a4 c5⟩ hs5 (R.perm q) B (R1.perm q) B1 hb λρ' s' h' tk' e R' B'=>K ρ' s6 s' s7 h' tk' (by
   rw[bs5 e];exact R'.perm q.symm) B'
 .have q:∀{X:Hp} {s:US},List.Perm (X++(bsI s6 s5 s7++bks s6 s5 s)) (X++(bsI s6 s5 s7++(blk 300 7 s++(blk 100 6 s6++blk 200 5 s5)))):=List.Perm.append_left _ rot
  refine unit11 C H nf0 (s:=s7) (Y:=blk 100 6 s6++blk 200 5 s5) (.inr (.inr ⟨rfl,rfl,rfl⟩)) hk0 h3 hr ⟨iH_app a0 b0,iH_app a3 b3,iH_app a5 b5⟩ hs7 (R.perm q) B (R1.perm q) B1 hb λρ' s' h' tk' e R' B'=>K ρ' s6 s5 s' h' tk' (by
   rw[bs7 e];exact R'.perm q.symm) B'
end
end Mine.Q
namespace Mine.Q
section
variable{prog:Program}{w:World}{Γ:Fx prog w}{ρ ρ' ρ2:Rho}{I:Nat->Bool}{σ c:S}{h:Heap}{hp hpA hpB:Hp}{vs:List (Nat×V)}{nx tk b:Nat}{M:Mp}{E:Value->Shared->Prop}
theorem Bd.gr(B:Bd ρ b)(G:Gr ρ ρ' ⟨[],[],[],[],[]⟩):Bd ρ' b:=
 ⟨by rw[G.L 50,G.L 51];exact B.inp,by rw[G.L 52];exact B.out,λo k hu=>by rw[G.L o,G.L (o+70),G.D o,G.T o];exact B.un o k hu⟩
theorem Bd.ext{ρ1:Rho}(B:Bd ρ b)(x:Pre ρ ρ1):Bd ρ1 b:=by
 refine elAAAA (λz442 z443 x3 x4 x5=>?_) x;clear z442 z443;clear x
 refine⟨by rw[congrFun x4 50,congrFun x4 51];exact B.inp,by rw[congrFun x4 52];exact B.out,λo k hu=>by rw[congrFun x4 o,congrFun x4 (o+70),congrFun x5 o,congrFun x3 o];exact B.un o k hu⟩
theorem coreT(H:LawFx Γ)(nf0:NFs Γ.rest){e:IE}(hw:(wf e).t Γ.env.scope=true){IN IN2 OUT:Hp}{Io:Nat->Bool}{Q:Bool->Shared->Prop}(R:Rl Γ ρ ⟨IN++OUT,vs,450⟩ h)(hO:iH Io OUT=true)(hlt:∀i,Io i=true->i<450)(eI:IN2=IN)
 (run:cd (scE ⟨IN2,vs,450⟩) (cd (stB ⟨IN2,vs,450⟩) (cd (offB Io ⟨IN2,vs,450⟩) ((ev e).t pLaw ⟨IN2,vs,450⟩ λb σ=>cd (neg b) (genK Io ⟨[],[],[],[],[]⟩ ⟨IN2,vs,450⟩ σ))))=true)(B:Bd ρ b)
 (K:∀ρ' h' tk',Rl Γ ρ' ⟨IN++OUT,vs,450⟩ h'->Bd ρ' b->Q false (Γ.sh h' tk')):Γ.wp (isTrue (toE e) Γ.env (eval (toE e) Γ.env)) Q E h tk:=by
 subst eI
 obtain⟨-,run⟩:=cd_e run
 obtain⟨st,run⟩:=cd_e run
 obtain⟨off,run⟩:=cd_e run
 have BO:=R.blk.r
 have nf:NFs (led w ρ OUT++Γ.rest):=λq hq=>(List.mem_append.mp hq).elim (BO.nf hO q) (nf0 q)
 obtain⟨R1,-⟩:=take_out (nf:=nf) R
 refine segT (Γ:=Γ.rs (led w ρ OUT++Γ.rest) nf) (H.rs (nf:=nf)) hw R1 run λbb ρ1 σ1 h1 tk1 x R3 g=>?_
 replace g:=cd_e (b:=neg bb) g
 obtain⟨hb,g⟩:=g
 rcases bb with _|_
 .refine elEAAA (λρ2 R4 G S2 z444=>?_) (gen2 (H.rs (nf:=nf)) R3 g st off hlt (by show 0<450;omega) (λ_ _ e=>nomatch e) (λ_ _ e=>nomatch e));clear z444
  have n0:ρ.n=450:=R.ln
  have S01:Same ρ ρ1 Io:=Same.pre x.1 λi hi=>by rw[n0];exact hlt i hi
  have n2:ρ2.n=450:=R4.ln
  obtain⟨B2,e2⟩:=BO.same (S01.trans S2) hO (by rw[n0,n2];exact Nat.le_refl _)
  exact K ρ2 h1 tk1 (put_in R4 B2 e2) ((B.ext x.1).gr G)
 .exact ff hb
theorem all_e2{α:Type}{f:α->Bool}{l:List α}{a:α}(h:allB f l=true)(ha:a∈l):f a=true:=allB_e h a ha
theorem st_in(s:US):s∈sts:=by cases s<;>simp[sts]
theorem out12_lt:∀i,out12 i=true->i<450:=λi h=>by
 rcases bi_e h with⟨h,-⟩|⟨-,h⟩
 .exact Nat.lt_of_lt_of_le (lt_e h) (Nat.le_of_ble_eq_true rfl)
 .exact Nat.lt_of_lt_of_le (lt_e (bi_t h).2) (Nat.le_of_ble_eq_true rfl)
theorem outP_lt:∀i,outP i=true->i<450:=λi h=>Nat.lt_of_lt_of_le (lt_e h) (Nat.le_of_ble_eq_true rfl)
theorem bkP_in(s6 s5 s7:US):iH outP (bks s6 s5 s7)=true:=iH_app (by cases s6<;>exact rfl) (iH_app (by cases s5<;>exact rfl) (by cases s7<;>exact rfl))
theorem lsi12{two k2:Bool}{k3:Nat}:iH out12 (lsl two++lsi two k3 k2)=true:=by cases two<;>cases k2<;>exact rfl
theorem p6{α:Type}{L I C X:List α}:List.Perm ((L++(I++C))++X) ((L++I)++(C++X)):=by
 simp only[List.append_assoc];exact .refl _
theorem s12(C:AllC)(H:LawFx Γ)(nf0:NFs Γ.rest){Q:Flow->Shared->Prop}{two k2:Bool}{k3:Nat}{s6 s5 s7:US}(h3:k3∈[0,1,2])
 (R:Rl Γ ρ ⟨(lsl two++LI two k3 k2)++(bsI s6 s5 s7++bks s6 s5 s7),vs5,450⟩ h)(B:Bd ρ b)
 (K:∀ρ' h' tk',Rl Γ ρ' ⟨(lsl two++LI two k3 k2)++(bsI s6 s5 s7++bks s6 s5 s7),vs5,450⟩ h'->Bd ρ' b->Q .next (Γ.sh h' tk')):Γ.wp (execs (toS irL12) Γ.env) Q E h tk:=by
 have r12:run12 s6 s5 s7=true:=all_e2 (f:=λs7=>run12 s6 s5 s7) (all_e2 (f:=λs5=>allB (λs7=>run12 s6 s5 s7) sts) (C.s s6) (st_in s5)) (st_in s7)
 have rP:runP two k3 k2=true:=all_e2 (f:=λk2=>runP two k3 k2) (all_e2 (f:=λk3=>allB (λk2=>runP two k3 k2) bls) (all_e2 (f:=λtwo=>allB (λk3=>allB (λk2=>runP two k3 k2) bls) [0,1,2]) C.l (bl_in two)) h3) (bl_in k2)
 refine wpAny_execs_cons (wpAny_If (isTrue_or (coreT H nf0 H.wS (IN:=bsI s6 s5 s7++bks s6 s5 s7) (OUT:=lsl two++LI two k3 k2) (Io:=out12) (R.perm List.perm_append_comm) (iH_app (iH_lr (B:=lsi two k3 k2) lsi12).1 (iH_app (iH_lr (A:=lsl two) (B:=lsi two k3 k2) lsi12).2 rfl)) out12_lt (IN2:=hpU s6 s5 s7) (by unfold hpU;rw[app_eq,app_eq,app_eq]) r12 B λρ1 h1 tk1 R1 B1=>?_)))
 have R2:=(R1.perm List.perm_append_comm).perm p6
 refine isTrue_or (coreT H nf0 H.wP (IN:=lsl two++lsi two k3 k2) (OUT:=(cel (some (.opq 0))++scp)++(bsI s6 s5 s7++bks s6 s5 s7)) (Io:=outP) R2 (iH_app rfl (iH_app (bas_in s6 s5 s7).2.2 (bkP_in s6 s5 s7))) outP_lt (IN2:=app (lsl two) (lsi two k3 k2)) app_eq rP B1 λρ2 h2 tk2 R3 B2=>?_)
 refine isTrue_or_nil ?_
 exact wpAny_pure (wpAny_pure (K ρ2 h2 tk2 (R3.perm p6.symm) B2))
end
end Mine.Q
namespace Mine.Q
section
variable{prog:Program}{w:World}{Γ:Fx prog w}{ρ ρ' ρ2:Rho}{I:Nat->Bool}{σ c:S}{h:Heap}{hp hpA hpB:Hp}{vs:List (Nat×V)}{nx tk b:Nat}{M:Mp}{E:Value->Shared->Prop}
theorem uOf_e{v:V}{k:Nat->Bool}(g:uOf v k=true):∃u,u<=5/\k u=true:=by
 cases v<;>first|exact ff g|skip
 .refine elEEA (λn z445 z446 g=>?_)<|lit_e (v:=.int _ _ _) g;clear z445 z446
  rcases bi_e g with⟨-,g⟩|⟨-,g⟩
  .exact⟨1,by omega,g⟩
  rcases bi_e g with⟨-,g⟩|⟨-,g⟩
  .exact⟨2,by omega,g⟩
  rcases bi_e g with⟨-,g⟩|⟨-,g⟩
  .exact⟨3,by omega,g⟩
  rcases bi_e g with⟨-,g⟩|⟨-,g⟩
  .exact⟨5,by omega,g⟩
  .exact ff g
 .rcases bi_e g with⟨-,g⟩|⟨-,g⟩
  .exact⟨0,by omega,g⟩
  rcases bi_e g with⟨-,g⟩|⟨-,g⟩
  .exact⟨4,by omega,g⟩
  .exact ff g
theorem rOf_e{v:V}{k:Option Nat->Bool}(g:rOf v k=true):∃r,r∈rcs/\k r=true:=by
 cases v<;>first|exact ff g|skip
 .exact⟨none,.head _,g⟩
 .refine elEEA (λn z447 z448 g=>?_)<|lit_e (v:=.int _ _ _) g;clear z447 z448
  obtain⟨h,g⟩:=cd_e g
  have h:n<=2:=Nat.le_of_ble_eq_true h
  refine⟨some n,?_,g⟩
  match n,h with
  |0,_=>exact .tail _ (.tail _ (.tail _ (.head _)))
  |1,_=>exact .tail _ (.head _)
  |2,_=>exact .tail _ (.tail _ (.head _))
theorem booN_e{i:Nat}{k:Bool->Bool}(g:booN σ i k=true):∃x,k x=true:=by
 refine elEA (λv z449 g=>?_)<|oe_e (o:=lk σ.vs i) g;clear z449
 cases v<;>first|exact ff g|exact⟨_,g⟩
theorem refN_e{i:Nat}{k:Nat->Bool}(g:refN σ i k=true):∃x,k x=true:=by
 refine elEA (λv z450 g=>?_)<|oe_e (o:=lk σ.vs i) g;clear z450
 refine elEA (λn z451 g=>?_)<|ref_e (v:=v) g;clear z451
 exact⟨n,g⟩
theorem lsO_e{n:Nat}{k:List V->Bool}(g:lsO hp n k=true):∃x,k x=true:=by
 refine elEA (λo z452 g=>?_)<|oe_e (o:=lk hp n) g;clear z452
 cases o<;>first|exact ff g|skip
 refine elEA (λl z453 g=>?_)<|its_e g;clear z453
 exact⟨l,g⟩
theorem tpO_e{n:Nat}{k:List V->Bool}(g:tpO hp n k=true):∃x,k x=true:=by
 refine elEA (λo z454 g=>?_)<|oe_e (o:=lk hp n) g;clear z454
 cases o<;>first|exact ff g|exact⟨_,g⟩
theorem inO_e{m t0 t1:Nat}{v:V}{k:List (Nat×Nat)->List (Nat×V)->Bool}(g:inO hp m t0 t1 v k=true):∃x y,k x y=true:=by
 refine elEA (λn z455 g=>?_)<|ref_e (v:=v) g;clear z455
 obtain⟨vs,g⟩:=lsO_e g
 rcases vs with _|⟨a,r⟩
 .exact ff g
 .refine elEA (λn2 z456 g=>?_)<|ref_e (v:=a) g;clear z456
  obtain⟨us,g⟩:=tpO_e g
  rcases us with _|⟨u,us⟩
  .exact ff g
  .rcases us with _|⟨y,us⟩
   .exact ff g
   .rcases r with _|⟨c,r⟩
    .exact⟨_,_,g⟩
    .refine elEA (λq z457 g=>?_)<|ref_e (v:=c) g;clear z457
     exact⟨_,_,g⟩
theorem bi4{u:Nat}{hf:Bool}(h:bi (Nat.beq u 4) hf true=true)(e:u=4):hf=true:=by subst e;exact h
theorem endA_e{kk:Nat}(g:endA kk σ=true):∃u hf r w two om xs xs',u<=5/\(u=4->hf=true)/\r∈rcs/\genK (inR 10 400) ⟨om,xs,[],[],[]⟩ (stK u hf r two true w kk) σ=true/\genK (inR 10 400) ⟨om,xs',[],[],[]⟩ (stK u hf r two false w kk) σ=true:=by
 refine elEA (λuv z458 g=>?_)<|oe_e (o:=lk σ.vs _) g;clear z458
 refine elEA (λu hu g=>?_)<|uOf_e g
 obtain⟨hf,g⟩:=booN_e g
 refine elEA (λrv z459 g=>?_)<|oe_e (o:=lk σ.vs _) g;clear z459
 refine elEA (λr hr g=>?_)<|rOf_e g
 obtain⟨w,g⟩:=booN_e g
 obtain⟨nc,g⟩:=refN_e g
 obtain⟨nt,g⟩:=refN_e g
 obtain⟨nl,g⟩:=refN_e g
 obtain⟨ts,g⟩:=lsO_e g
 obtain⟨ls,g⟩:=lsO_e g
 obtain⟨h4,g⟩:=cd_e (b:=bi (Nat.beq u 4) hf true) g
 have h4':u=4->hf=true:=bi4 h4
 rcases ts with _|⟨t0,tr⟩
 .exact ff g
 .rcases ls with _|⟨l0,lr⟩
  .exact ff g
  .refine elEE (λom xs g=>?_)<|inO_e (v:=l0) g
   rcases tr with _|⟨t1,tr⟩
   .rcases lr with _|⟨_,_⟩
    .obtain⟨g1,g2⟩:=cd_e g
     exact⟨u,hf,r,w,false,_,_,_,hu,h4',hr,g1,g2⟩
    .exact ff g
   .rcases lr with _|⟨l1,lr⟩
    .exact ff g
    .refine elEE (λom2 xs2 g=>?_)<|inO_e (v:=l1) g
     obtain⟨g1,g2⟩:=cd_e g
     exact⟨u,hf,r,w,true,_,_,_,hu,h4',hr,g1,g2⟩
theorem r10:∀i,inR 10 400 i=true->i<400:=λi h=>lt_e (bi_t h).2
theorem bk_in(s6 s5 s7:US):iH (inR 10 400) (bsI s6 s5 s7++bks s6 s5 s7)=true:=iH_app (bas_in s6 s5 s7).2.1 (iH_app (by cases s6<;>exact rfl) (iH_app (by cases s5<;>exact rfl) (by cases s7<;>exact rfl)))
theorem Bd.same2(B:Bd ρ b)(S:Same ρ ρ' (inR 10 400)):Bd ρ' b:=B.same S λi h1 h2=>by
 show bi (Nat.ble 10 i) (Nat.blt i 400) false=true
 rw[Nat.ble_eq_true_of_le h1];exact Nat.ble_eq_true_of_le h2
noncomputable abbrev bse(s6 s5 s7:US):Hp:=bsI s6 s5 s7++bks s6 s5 s7
theorem stK_hp{u:Nat}{hf two lit w:Bool}{r:Option Nat}{k:Nat}:(stK u hf r two lit w k).hp=(ctl (uV u 403) hf r++(txs lit two k++lsl two))++LI two (Nat.mod k 3) (Nat.beq (Nat.mod k 2) 1):=by
 have:(stK u hf r two lit w k).hp=app (app (ctl (uV u 403) hf r) (app (txs lit two k) (lsl two))) (app (lsi two (Nat.mod k 3) (Nat.beq (Nat.mod k 2) 1)) (app (cel (some (.opq 0))) scp)):=rfl
 rw[this];simp only[app_eq]
theorem nA:noTry irLA=true:=by decide+kernel
theorem segR(H:LawFx Γ){ir:IS}{l:Lg}{nf:NFs l}(hw:wfS ir Γ.env.scope=true)(ht:noTry ir=true){post:S->Bool}{Q:Flow->Shared->Prop}(R:Rl (Γ.rs l nf) ρ c h)(g:vS ir pLaw c ⟨post,λ_ _=>false,λ_=>false⟩=true)
 (K:∀ρ' σ' h' tk',Γ.Ext ρ ρ'->Rl (Γ.rs l nf) ρ' σ' h'->post σ'=true->Q .next (Γ.sh h' tk')):Γ.wp (execs (toS ir) Γ.env) Q E h tk:=
 seg (Γ:=Γ.rs l nf) (H.rs (nf:=nf)) hw ht R g K
theorem sA(C:AllC)(H:LawFx Γ)(nf0:NFs Γ.rest){Q:Flow->Shared->Prop}{k:Nat}(hk:k<10){s6 s5 s7:US}(R:Rl Γ ρ ⟨(cel (some (.int [] (Int.ofNat k) 3))++scp)++bse s6 s5 s7,vs4,400⟩ h)(B:Bd ρ b)
 (K:∀u hf r w' two ρ1 ρ2 h' tk',u<=5->(u=4->hf=true)->r∈rcs->Rl Γ ρ1 ⟨((ctl (uV u 403) hf r++(txs true two k++lsl two))++LI two (Nat.mod k 3) (Nat.beq (Nat.mod k 2) 1))++bse s6 s5 s7,vsK (uV u 437) hf r w',450⟩ h'->Bd ρ1 b->
   Rl Γ ρ2 ⟨((ctl (uV u 403) hf r++(txs false two k++lsl two))++LI two (Nat.mod k 3) (Nat.beq (Nat.mod k 2) 1))++bse s6 s5 s7,vsK (uV u 437) hf r w',450⟩ h'->Bd ρ2 b->Q .next (Γ.sh h' tk')):Γ.wp (execs (toS irLA) Γ.env) Q E h tk:=by
 have BO:=R.blk.r
 have hO:=bk_in s6 s5 s7
 have nf:NFs (led w ρ (bse s6 s5 s7)++Γ.rest):=λq hq=>(List.mem_append.mp hq).elim (BO.nf hO q) (nf0 q)
 obtain⟨R1,-⟩:=take_out (nf:=nf) R
 have R1':Rl (Γ.rs (led w ρ (bse s6 s5 s7)++Γ.rest) nf) ρ (stA k) h:=R1
 have run:=(C.a k hk).1
 unfold runA at run
 refine@segR prog w Γ ρ (stA k) h tk E H irLA _ nf H.wA nA (λσ=>endA k σ) Q R1' run λρ1 σ1 h1 tk1 x R3 g=>?_
 refine elEEEEEEE (λu hf r w' two om xs q460=>?_)<|endA_e g;refine elE (λxs' q461=>?_) q460;clear q460;refine elAAAA (λhu h4 hr g1 g2=>?_) q461;clear q461
 have n0:ρ.n=400:=R.ln
 have S01:Same ρ ρ1 (inR 10 400):=Same.pre x.1 λi hi=>by rw[n0];exact r10 i hi
 have one:∀(lit:Bool) (xs:List (Nat×V)),genK (inR 10 400) ⟨om,xs,[],[],[]⟩ (stK u hf r two lit w' k) σ1=true->∃ρ2,Rl Γ ρ2 ⟨((ctl (uV u 403) hf r++(txs lit two k++lsl two))++LI two (Nat.mod k 3) (Nat.beq (Nat.mod k 2) 1))++bse s6 s5 s7,vsK (uV u 437) hf r w',450⟩ h1/\Bd ρ2 b:=λlit xs g=>by
  obtain⟨st,off⟩:=sK hu hf r two lit w' k
  refine elEAAA (λρ2 R4 G S2 z462=>?_)<|gen2 (H.rs (nf:=nf)) R3 g st off (λi hi=>Nat.lt_of_lt_of_le (r10 i hi) (Nat.le_of_ble_eq_true rfl)) (Nat.le_of_ble_eq_true rfl) (λ_ _ e=>nomatch e) (λ_ _ e=>nomatch e);clear z462
  have n2:ρ2.n=450:=R4.ln
  have S:=S01.trans S2
  obtain⟨B2,e2⟩:=BO.same S hO (by rw[n0,n2];exact Nat.le_of_ble_eq_true rfl)
  refine⟨ρ2,?_,B.same2 S⟩
  have R5:Rl (Γ.rs (led w ρ (bse s6 s5 s7)++Γ.rest) nf) ρ2 ⟨(stK u hf r two lit w' k).hp,vsK (uV u 437) hf r w',450⟩ h1:=R4
  rw[stK_hp]at R5
  exact put_in R5 B2 e2
 refine elEA (λρ2 R4 B2=>?_)<|one true _ g1
 refine elEA (λρ3 R5 B3=>?_)<|one false _ g2
 exact K u hf r w' two ρ2 ρ3 h1 tk1 hu h4 hr R4 B2 R5 B3
theorem sC(C:AllC)(H:LawFx Γ)(nf0:NFs Γ.rest){Q:Unit->Shared->Prop}{k:Nat}(hk:k<10){x0:Option V}(h0:x0=none\/x0=some (.opq 0)){s6 s5 s7:US}{t:Nat}{p:Nat}(R:Rl Γ ρ ⟨(cel x0++scp)++bse s6 s5 s7,vs4,400⟩ h)(B:Bd ρ b)
 (K:∀ρ' h' tk',Rl Γ ρ' ⟨(cel (some (.int [] (Int.ofNat k) 3))++scp)++bse s6 s5 s7,vs4,400⟩ h'->Bd ρ' b->Q () (Γ.sh h' tk')):Γ.wp (assign (.Name (nm 56) (dp p)) Γ.env (.int (Int.ofNat k) t)) Q E h tk:=by
 have BO:=R.blk.r
 have hO:=bk_in s6 s5 s7
 have nf:NFs (led w ρ (bse s6 s5 s7)++Γ.rest):=λq hq=>(List.mem_append.mp hq).elim (BO.nf hO q) (nf0 q)
 obtain⟨R1,-⟩:=take_out (nf:=nf) R
 have g:celL k x0=true:=by
  rcases h0 with rfl|rfl
  .exact(C.a k hk).2.1
  .exact(C.a k hk).2.2
 have n0:ρ.n=400:=R.ln
 refine assign_Name (tok_ok R1 g t default λσ' x l R2 e1 e2 g=>?_)
 have ev:Value.int (Int.ofNat k) t=iv (ρ.push t default) (.int [] (Int.ofNat k) ρ.n):=by
  show _=Value.int (0+Int.ofNat k) ((ρ.push t default).num ρ.n)
  rw[push_num,Int.zero_add]
 rw[ev]
 have hl:lk σ'.hp 0=some (.cel 1 x0):=by rw[e1];rfl
 refine cell_ok (Γ:=Γ.rs (led w ρ (bse s6 s5 s7)++Γ.rest) nf) (H.rs (nf:=nf)).st H.ck (n:=0) (by rw[show(Γ.rs (led w ρ (bse s6 s5 s7)++Γ.rest) nf).ci=[(56,0)]from H.ci];rfl) hl R2 (v:=.int [] (Int.ofNat k) ρ.n) l g λρ1 σ1 h1 x1 R3 g=>?_
 have st:stB (stA k)=true/\offB (inR 10 400) (stA k)=true:=⟨rfl,rfl⟩
 refine elEAAA (λρ2 R4 G S2 z463=>?_)<|gen2 (H.rs (nf:=nf)) R3 g st.1 st.2 r10 (Nat.le_of_ble_eq_true rfl) (λ_ _ e=>nomatch e) (λ_ _ e=>nomatch e);clear z463
 have S01:Same ρ ρ1 (inR 10 400):=Same.pre (x.trans x1).1 λi hi=>by rw[n0];exact r10 i hi
 have n2:ρ2.n=400:=R4.ln
 have S:=S01.trans S2
 obtain⟨B2,e2⟩:=BO.same S hO (by rw[n0,n2];exact Nat.le_of_ble_eq_true rfl)
 exact K ρ2 h1 _ (put_in (hpA:=cel (some (.int [] (Int.ofNat k) 3))++scp) R4 B2 e2) (B.same2 S)
end
end Mine.Q
namespace Mine.Q
section
variable{prog:Program}{w:World}{Γ:Fx prog w}{ρ ρ' ρ2:Rho}{I:Nat->Bool}{σ c:S}{h:Heap}{hp hpA hpB:Hp}{vs:List (Nat×V)}{nx tk b:Nat}{M:Mp}{E:Value->Shared->Prop}
theorem ir13_e:∃p1 p2 p3,toS irL13=[.If (.Compare (toE irG1) [.Gt] [toE irG2] p1) [.Break p2] [] p3]:=⟨_,_,_,rfl⟩
theorem irG1_e:∃p1 p2 p3,irG1=.sub (.loc 39 p1) (.int 0 p2) p3:=⟨_,_,_,rfl⟩
theorem irG2_e:∃p1 p2 p3,irG2=.blt .len (.cns (.loc 38 p1) .nil) p2 p3:=⟨_,_,_,rfl⟩
theorem s13(H:LawFx Γ){Q:Flow->Shared->Prop}{b1:Nat}(hv1:lk σ.vs 38=some (.ref 2))(hv2:lk σ.vs 39=some (.ref 4))(h2:lk σ.hp 2=some (.scr 5))(h4:lk σ.hp 4=some (.spt 7 b1))(R:Rl Γ ρ σ h)(K:∀tk',Q .next (Γ.sh h tk')/\Q .brk (Γ.sh h tk')):Γ.wp (execs (toS irL13) Γ.env) Q E h tk:=by
 refine wpAny_noRaise ?_
 have hN:=H.st.nn
 refine elEEEAA (λvs ns vn e5 hI l60=>?_)<|R.oko h2
 refine elEEEA (λi0 t0 n7 e7 hi0=>?_)<|R.oko h4
 have m2:(ρ.num 2,listOf (List.toArray vs) vn)∈Γ.lg ρ σ:=by rw[←e5];exact R.mem h2
 have m4:(ρ.num 4,listOf #[.int i0 t0] n7)∈Γ.lg ρ σ:=by rw[←e7];exact R.mem h4
 have l4:h.IsList (ρ.num 4) #[.int i0 t0]:=⟨_,(R.nw _ m4).1,rfl,_,rfl⟩
 obtain⟨w1,w2⟩:=H.w13
 refine elEEE (λp1 p2 p3 e=>?_) ir13_e
 refine elEEE (λq1 q2 q3 g1=>?_) irG1_e
 refine elEEE (λr1 r2 r3 g2=>?_) irG2_e
 rw[e]
 refine wpAny_execs_cons (wpAny_If (wpAny_isTrue_Compare1 ?_ (behind_ok (toE_nset irG2))))
 rw[g1]at w1⊢
 rw[g2]at w2⊢
 obtain⟨x1,-⟩:=aa w1
 refine aa3 (λx0 x2 x3 x4=>?_) w2
 obtain⟨x5,-⟩:=aa x4
 obtain⟨n1,n2⟩:=bnm_ok (w:=w) .len (eq_of_beq x0)
 refine Subscript_ (hN.loc (i:=39) x1 hv2 (nt_in R) (wpAny_Constant_int ?_))
 refine tail_any l4.typeIs slot_list_getitem.lookup (wpAny_getItem_list (x:=.int i0 t0) l4 (Int.le_refl 0) (by decide) rfl ?_) (subscripted_ns (nslice_m (toE_nslice (.int 0 q2))) _ _)
 refine Call_ (hN.blt (eq_of_beq x2) n1 n2 (bnm_nd .len).1 (bnm_nd .len).2 (nt_in R) ?_) eval_call
 refine callT (.inl ⟨_,rfl⟩) (args_cons (hN.loc (i:=38) x5 hv1 (nt_in R) (args_nil ?_)) (star_cons (toE_nstar (.loc 38 r1)))) (star_cons (toE_nstar (.loc 38 r1))) rfl
 refine led_len (vs:=vs) R.nw m2 (by omega) ?_
 refine PyProof.Rows.gt_int (wpAny_truthy_bool ?_)
 generalize decide ((vs.length:Int)<i0)=cc
 cases cc
 .exact wpAny_pure (wpAny_pure (K _).1)
 .exact wpAny_execs_cons (wpAny_Break (K _).2)
theorem Rl.drop(R:Rl Γ ρ ⟨hpA++hpB,vs,nx⟩ h):Rl Γ ρ ⟨hpA,vs,nx⟩ h:=by
 refine elEA (λm F cv=>?_)<|R.fr
 have sub:List.Sublist (Γ.lg ρ ⟨hpA,vs,nx⟩) (Γ.lg ρ ⟨hpA++hpB,vs,nx⟩):=by
  show List.Sublist (led w ρ hpA++(Γ.rest++Γ.its)) (led w ρ (hpA++hpB)++(Γ.rest++Γ.its))
  rw[led_app]
  exact List.Sublist.append (List.sublist_append_left _ _) (List.Sublist.refl _)
 exact⟨⟨R.ln,λp hp=>R.ok p (List.mem_append_left _ hp),λp hp=>R.so p (List.mem_append_left _ hp),R.sv,R.hx,R.ll,R.lh,R.dd⟩,⟨R.kn,R.tp,R.bl,R.kt⟩,⟨m,F,Γ.cx _ _ _ _ _ .refl R.sv rfl cv⟩,λp hp=>R.nw p (sub.subset hp),(sub.map _).nodup R.nd⟩
noncomputable def Rho.cut(ρ:Rho)(n:Nat):Rho:={ρ with c:=ρ.c.take n}
theorem cut_n{n:Nat}(h:n<=ρ.n):(ρ.cut n).n=n:=by show(ρ.c.take n).length=n;rw[List.length_take];exact Nat.min_eq_left h
theorem cut_pre{n:Nat}:Pre (ρ.cut n) ρ:=mkAAAA ⟨ρ.c.drop n,(List.take_append_drop n ρ.c).symm⟩ rfl rfl rfl rfl
theorem cut_same(h:400<=ρ.n):Same ρ (ρ.cut 400) outP:=λi hi=>by
 have hi:i<(ρ.cut 400).n:=by rw[cut_n h];exact lt_e hi
 exact mkAAAAA ((cut_pre.num hi).symm) ((cut_pre.obj hi).symm) rfl rfl rfl rfl
theorem p7{α:Type}{L I C X:List α}:List.Perm ((L++(I++C))++X) ((C++X)++(L++I)):=by
 rw[←List.append_assoc L I C,List.append_assoc]
 exact List.perm_append_comm
theorem okJ_e(C:AllC)(hJ:∀s6,allJ s6=true)(s6 s5 s7:US):okJ s6 s5 s7=true:=all_e2 (f:=λs7=>okJ s6 s5 s7) (all_e2 (f:=λs5=>allB (λs7=>okJ s6 s5 s7) sts) (hJ s6) (st_in s5)) (st_in s7)
theorem stJ_hp{x:Option V}{s6 s5 s7:US}:(stJ x s6 s5 s7).hp=(cel x++scp)++bse s6 s5 s7:=by
 have:(stJ x s6 s5 s7).hp=app (app (cel x) scp) (app (bsI s6 s5 s7) (app (blk 100 6 s6) (app (blk 200 5 s5) (blk 300 7 s7)))):=rfl
 rw[this];simp only[app_eq]
theorem vs45{i:Nat}{v:V}(e:lk vs4 i=some v):lk vs5 i=some v:=by
 have:vs5=vs4++[(59,.ref 414)]:=rfl
 rw[this]
 have main:∀{l r:List (Nat×V)},lk l i=some v->lk (l++r) i=some v:=by
  intro l r
  induction l with
  |nil=>intro h;cases h
  |cons p l ih=>
   intro h
   rw[List.cons_append,lk_cons]
   rw[lk_cons]at h
   rcases q:Nat.beq i p.1 with _|_
   .rw[q]at h;exact ih h
   .rw[q]at h;exact h
 exact main e
theorem back(C:AllC)(H:LawFx Γ)(hJ:∀s6,allJ s6=true){two k2:Bool}{k3:Nat}{s6 s5 s7:US}(R:Rl Γ ρ ⟨(lsl two++LI two k3 k2)++bse s6 s5 s7,vs5,450⟩ h)(B:Bd ρ b):∃ρ',Rl Γ ρ' ⟨(cel (some (.opq 0))++scp)++bse s6 s5 s7,vs4,400⟩ h/\Bd ρ' b:=by
 have R1:=(R.perm p7).drop
 have n0:400<=ρ.n:=by rw[show ρ.n=450 from R.ln];exact Nat.le_of_ble_eq_true rfl
 have S:=cut_same n0
 have hi:iH outP ((cel (some (.opq 0))++scp)++bse s6 s5 s7)=true:=iH_app rfl (iH_app (bas_in s6 s5 s7).2.2 (bkP_in s6 s5 s7))
 obtain⟨sc,-⟩:=bi_t (okJ_e C hJ s6 s5 s7)
 obtain⟨sc1,sc2⟩:=scE_e sc
 rw[stJ_hp]at sc1
 refine⟨ρ.cut 400,Rl.view (c:=⟨(cel (some (.opq 0))++scp)++bse s6 s5 s7,vs4,400⟩) H.st R1 (cut_n n0) rfl (by rw[same_led S hi]) ⟨same_oks S hi R1.ok,λp hp=>by rw[cut_n n0];exact sc1 p hp⟩ (λp hp=>by rw[cut_n n0];exact sc2 p hp) R1.hx R1.ll R1.lh R1.dd (λi v e=>⟨v,vs45 e,?_⟩) λi n e=>?_,B.inp,B.out,B.un⟩
 .exact(same_iv S (allB_e (l:=vs4) (f:=λp=>iV outP p.2) rfl _ (lk_mem e))).symm
 .rw[H.ci,lk_cons]at e
  rcases q:Nat.beq i 56 with _|_
  .rw[q]at e;cases e
  .rw[q]at e
   have e:some 0=some n:=e
   cases e
   exact⟨by rw[cut_n n0];exact Nat.le_of_ble_eq_true rfl,(S 0 rfl).1⟩
end
end Mine.Q
namespace Mine.Q
section
variable{prog:Program}{w:World}{Γ:Fx prog w}{ρ ρ' ρ2:Rho}{I:Nat->Bool}{σ c:S}{h:Heap}{hp hpA hpB:Hp}{vs:List (Nat×V)}{nx tk b:Nat}{M:Mp}{E:Value->Shared->Prop}
theorem mod3{k:Nat}:Nat.mod k 3∈[0,1,2]:=by
 exact(by decide:∀n,n<3->n∈[0,1,2]) (k%3) (Nat.mod_lt _ (by decide))
noncomputable def nxt(P:Shared->Prop)(Q:Flow->Shared->Prop):Flow->Shared->Prop:=λf s=>match f with|.next=>P s|f=>Q f s
theorem seq_{l r:List Stmt}{Q:Flow->Shared->Prop}(h1:Γ.wp (execs l Γ.env) (nxt (λs'=>wpAny (model prog w) Γ.A (execs r Γ.env) Q E s') Q) E h tk):Γ.wp (execs (l++r) Γ.env) Q E h tk:=execs_app h1
theorem turn(C:AllC)(H:LawFx Γ)(nf0:NFs Γ.rest)(hJ:∀s6,allJ s6=true){Q:Flow->Shared->Prop}{body:List Stmt}(hb:body=toS irLA++(toS irL11++(toS irL12++toS irL13))){k:Nat}(hk:k<10){x0:Option V}(h0:x0=none\/x0=some (.opq 0)){s6 s5 s7:US}{t p:Nat}
 (R:Rl Γ ρ ⟨(cel x0++scp)++bse s6 s5 s7,vs4,400⟩ h)(B:Bd ρ b)(hb6:b<=60)
 (K:∀ρ' s6 s5 s7 h' tk',Rl Γ ρ' ⟨(cel (some (.opq 0))++scp)++bse s6 s5 s7,vs4,400⟩ h'->Bd ρ' (b+2)->Q .next (Γ.sh h' tk')/\Q .brk (Γ.sh h' tk')):
 Γ.wp (assign (.Name (nm 56) (dp p)) Γ.env (.int (Int.ofNat k) t)) (λ_ s₂=>wpAny (model prog w) Γ.A (execs body Γ.env) Q E s₂) E h tk:=by
 subst hb
 refine sC C H nf0 hk h0 R B λρ1 h1 tk1 R1 B1=>?_
 refine seq_ ?_
 refine@sA prog w Γ ρ1 h1 tk1 b E C H nf0 _ k hk s6 s5 s7 R1 B1 λu hf r w' two ρt ρf h2 tk2 hu h4 hr Rt Bt Rf Bf=>?_
 refine seq_ ?_
 refine s11 C H nf0 hu h4 hk mod3 hr Rf Bf Rt Bt hb6 λρ3 s6' s5' s7' h3 tk3 R3 B3=>?_
 refine seq_ ?_
 refine s12 C H nf0 mod3 R3 B3 λρ4 h4' tk4 R4 B4=>?_
 have e2:lk ((lsl two++LI two (Nat.mod k 3) (Nat.beq (Nat.mod k 2) 1))++(bsI s6' s5' s7'++bks s6' s5' s7')) 2=some (.scr 5)/\lk ((lsl two++LI two (Nat.mod k 3) (Nat.beq (Nat.mod k 2) 1))++(bsI s6' s5' s7'++bks s6' s5' s7')) 4=some (.spt 7 0):=by
  cases two<;>cases Nat.beq (Nat.mod k 2) 1<;>exact⟨rfl,rfl⟩
 refine s13 H (σ:=⟨_,vs5,450⟩) rfl rfl e2.1 e2.2 R4 λtk'=>?_
 refine elEA (λρ5 R5 B5=>?_)<|back C H hJ R4 B4
 exact K ρ5 s6' s5' s7' h4' tk' R5 B5
end
end Mine.Q
namespace Mine.Q
section
variable{prog:Program}{w:World}{Γ:Fx prog w}{ρ ρ' ρ2:Rho}{I:Nat->Bool}{σ c:S}{h:Heap}{hp hpA hpB:Hp}{vs:List (Nat×V)}{nx tk b:Nat}{M:Mp}{E:Value->Shared->Prop}
theorem rng10{p1 p2 p3:Nat}{Q:Value->Shared->Prop}(hN:Nm Γ)(hc:(wf (.rng (.int 10 p1) p2 p3)).r Γ.env.scope=true)(R:Rl Γ ρ σ h)
 (hq:∀r h1 tk1 t u v,Rl Γ ρ σ h1->IsRange h1 r 0 10 1 t u v->Q (.ref r) (Γ.sh h1 tk1)):Γ.wp (eval (toE (.rng (.int 10 p1) p2 p3)) Γ.env) Q E h tk:=by
 obtain⟨h1,h2⟩:=aa hc
 refine Call_ (hN.blt (eq_of_beq h1) (nm_rng (w:=w)).1 (nm_rng (w:=w)).2 nm_rng'.1 nm_rng'.2 R (PyProof.Rows.callWith_type1 (args_cons (wpAny_Constant_int (args_nil ?_)) (star_cons (toE_nstar (.int 10 p1)))) (star_cons (toE_nstar (.int 10 p1))) rfl)) eval_call
 exact call_range_1 (hq _ _ _ _ _ _ (R.garb _) (IsRange.new _ _ _ _ _ _ _))
noncomputable def JL(i:Nat)(ρ:Rho)(σ:S):Prop:=∃s6 s5 s7 x0,(x0=none\/x0=some (V.opq 0))/\σ=⟨(cel x0++scp)++bse s6 s5 s7,vs4,400⟩/\Bd ρ (2*i)
theorem loop(C:AllC)(H:LawFx Γ)(nf0:NFs Γ.rest)(hJ:∀s6,allJ s6=true){Q:Flow->Shared->Prop}{body rest:List Stmt}(hb:body=toS irLA++(toS irL11++(toS irL12++toS irL13))){p p1 p2 p3 p4:Nat}
 (hr:(wf (.rng (.int 10 p1) p2 p3)).r Γ.env.scope=true)(hp:PassesOwn (model prog w) Γ.A Γ.env E)
 (R:Rl Γ ρ σ h)(j0:JL 0 ρ σ)
 (K:∀ρ' σ' i h' tk',Rl Γ ρ' σ' h'->JL i ρ' σ'->Γ.wp (execs rest Γ.env) Q E h' tk'):Γ.wp (execs (.For (.Name (nm 56) (dp p)) (toE (.rng (.int 10 p1) p2 p3)) body [] (dp p4)::rest) Γ.env) Q E h tk:=by
 have hN:=H.st.nn
 refine wpAny_execs_cons (wpAny_For (rng10 (Γ:=Γ.nt) hN hr (nt_in R) λr h1 tk1 t u v R1 hr'=>?_) (fold_ok _ _))
 have R1':=nt_out R .refl R1
 refine wpAny_pyIter_range (s:=Γ.sh h1 tk1) hr' (rng_small 10 (by decide)) ?_
 rw[show Builtin.Range.rangeSize 0 10 1=10 from rng_size 10]
 have W:=Walks.range (prog:=prog) (w:=w) (Γ.hd H.st.nh) h1.objs.size 0 1 10
 refine loopJ JL (Ik:=λi it=>it={cls:=.type "range_iterator",data:=.fields #[rawInt (0+(i:Nat)*1),rawInt ((10:Int)-(i:Nat)),rawInt 1]}) W (it_L R1') (λi it ρ' σ' h' j R' ik=>?_) (λi h st=>⟨_,st,rfl⟩) (λi h tk x Q E _ _ hq=>own_name hq) (λi it x ρ' σ' h' tk' hi hx j R'=>?_) (λρ' σ' h' tk' j R'=>K ρ' σ' 10 h' tk' R' j) hp (it_new R1' rfl) ?_ j0
 .subst ik
  exact it_get R'
 .obtain⟨t,rfl⟩:=hx
  refine elEEEEAA (λs6 s5 s7 x0 h0 r464 B=>?_) j;subst r464;clear j
  rw[show(0:Int)+(i:Int)*1=Int.ofNat i by rw[Int.zero_add,Int.mul_one];rfl]
  refine turn (Γ:=Γ.it h1.objs.size it) C H.it nf0 hJ hb hi h0 R' B (by omega) λρ2 s6' s5' s7' h2 tk2 R2 B2=>⟨⟨ρ2,_,h2,tk2,rfl,⟨s6',s5',s7',_,.inr rfl,rfl,B2⟩,R2⟩,?_⟩
  exact K ρ2 _ (i+1) h2 tk2 (it_drop R2) ⟨s6',s5',s7',_,.inr rfl,rfl,B2⟩
 .simp
end
end Mine.Q
namespace Mine.Q
structure XC:Prop where
 x0:runX0=true
 t:okXt=true
 o:allXo=true
 x:allX=true
 y:∀s6,s6∈ust->allY s6=true
section
variable{prog:Program}{w:World}{Γ:Fx prog w}{ρ ρ' ρ2:Rho}{I:Nat->Bool}{σ c:S}{h:Heap}{hp hpA hpB:Hp}{vs:List (Nat×V)}{nx tk b:Nat}{M:Mp}{E:Value->Shared->Prop}
theorem insD_e{n:Nat}{k:Nat->Bool}(g:insD hp n k=true):∃d,k d=true:=by
 refine elEA (λo z465 g=>?_)<|oe_e (o:=lk hp n) g;clear z465
 cases o<;>first|exact ff g|exact⟨_,g⟩
theorem dIO_e{n:Nat}{k:List (Nat×V)->Bool}(g:dIO hp n k=true):∃d,k d=true:=by
 refine elEA (λo z466 g=>?_)<|oe_e (o:=lk hp n) g;clear z466
 cases o<;>first|exact ff g|exact⟨_,g⟩
theorem strV_e{v:V}{k:Nat->Bool}(g:strV v k=true):∃d,k d=true:=by
 cases v<;>first|exact ff g|exact⟨_,g⟩
theorem atR_e{n i:Nat}{k:Nat->Bool}(g:atR hp n i k=true):∃d,k d=true:=by
 obtain⟨v,g⟩:=atE_e g
 refine elEA (λd z467 g=>?_)<|ref_e (v:=v) g;clear z467
 exact⟨d,g⟩
theorem lk_no{α:Type}{j:Nat}:∀{l:List (Nat×α)},(∀p∈l,j<p.1)->lk l j=none
 |[],_=>rfl
 |p::l,h=>by
  rw[lk_cons,show Nat.beq j p.1=false by rw[Bool.eq_false_iff,Ne,Nat.beq_eq];exact Nat.ne_of_lt (h p (.head _))]
  exact lk_no λq hq=>h q (.tail _ hq)
theorem lk_gt{j o a b c d e f g h i k:Nat}(hj:j<=4)(ho:4<o):lk [(o,a),(Nat.add o 2,b),(Nat.add o 4,c),(Nat.add o 6,d),(Nat.add o 8,e),(Nat.add o 10,f),(Nat.add o 40,g),(Nat.add o 42,h),(Nat.add o 44,i),(Nat.add o 46,k)] j=none:=
 lk_no λp hp=>by
  have add:∀x,j<Nat.add o x:=λx=>Nat.lt_of_lt_of_le (Nat.lt_of_le_of_lt hj ho) (Nat.le_add_right o x)
  simp only[List.mem_cons,List.not_mem_nil,or_false]at hp
  rcases hp with rfl|rfl|rfl|rfl|rfl|rfl|rfl|rfl|rfl|rfl
  .exact add 0
  all_goals exact add _
theorem unWB_e{ku kb:List (Nat×V)}{key o:Nat}{k:US->Nat->List (Nat×Nat)->List (Nat×V)->Bool}(ho:4<o)(g:unWB hp ku kb key o k=true):∃s f om xs,isF f/\s∈ust/\lk om 2=none/\lk om 4=none/\k s f om xs=true:=by
 unfold unWB at g
 rcases e:lk ku key with _|v
 .rw[e]at g;exact mkEEEEAAAA (.ab) _ [] [] (.inl rfl) (.head _) rfl rfl g
 .rw[e]at g
  refine elEA (λa z468 g=>?_)<|ref_e (v:=v) g;clear z468
  obtain⟨da,g⟩:=insD_e g
  obtain⟨nf,g⟩:=atR_e g
  obtain⟨df,g⟩:=insD_e g
  obtain⟨vn,g⟩:=atE_e g
  obtain⟨va,g⟩:=atE_e g
  obtain⟨ia,g⟩:=strV_e g
  obtain⟨vf,g⟩:=atE_e g
  obtain⟨iF,g⟩:=strV_e g
  obtain⟨hf,g⟩:=cd_e g
  obtain⟨nr,g⟩:=atR_e g
  obtain⟨nn,g⟩:=atR_e g
  obtain⟨vb,g⟩:=atE_e g
  obtain⟨pv,g⟩:=atE_e g
  refine elEA (λvq z469 g=>?_)<|oe_e (o:=lk kb key) g;clear z469
  refine elEA (λnq z470 g=>?_)<|ref_e (v:=vq) g;clear z470
  obtain⟨ns,g⟩:=atR_e g
  obtain⟨nrr,g⟩:=atR_e g
  obtain⟨nt,g⟩:=atR_e g
  refine mkEEEEAAAA _ iF _ _ ?_ ?_ (lk_gt (by omega) ho) (lk_gt (by omega) ho) g
  .rcases bi_e hf with⟨e,-⟩|⟨-,e⟩
   .exact .inl (Nat.eq_of_beq_eq_true e)
   .exact .inr (Nat.eq_of_beq_eq_true e)
  .cases Nat.beq ia 163
   .exact .tail _ (.tail _ (.head _))
   .exact .tail _ (.head _)
theorem i00_lt{i:Nat}(h:i00 i=true):i=0:=Nat.eq_of_beq_eq_true h
noncomputable def Kp(ρ ρ':Rho):Prop:=ρ'.g=ρ.g/\ρ'.num 2=ρ.num 2/\ρ'.num 4=ρ.num 4
theorem Kp.trans{ρ2:Rho}(a:Kp ρ ρ')(b:Kp ρ' ρ2):Kp ρ ρ2:=mkAA (b.1.trans a.1) (b.2.1.trans a.2.1) (b.2.2.trans a.2.2)
theorem kp_ext(htn:Γ.tn=false)(x:Γ.Ext ρ ρ')(hn:4<ρ.n):Kp ρ ρ':=mkAA (x.2.2 htn) (x.1.num (Nat.lt_trans (by decide) hn)) (x.1.num hn)
theorem gen3(hS:St Γ)(ci0:Γ.ci=[])(R:Rl Γ ρ σ h)(g:genK i00 M c σ=true)(st:stB c=true)(hn:c.nx=400)(h2:fo M 2=2)(h4:fo M 4=4)
 (bL:∀i ss,lk M.ls i=some ss->(sgs ρ ss).length<=90)(bD:∀b x,lk M.ds b=some x->(dOf ρ x).length<=90):∃ρ',Rl Γ ρ' c h/\Gr ρ ρ' M/\Kp ρ ρ':=by
 refine elAA (λky om0 g=>?_)<|genK_e g
 refine elEAAA (λρ' R' eg G sm=>?_)<|gen_ok hS R g st (λi n e=>by rw[ci0]at e;cases e) bL bD
 have nn:ρ'.n=400:=R'.ln.trans hn
 exact⟨ρ',R',G,eg,by rw[G.n 2 (by omega) rfl,h2],by rw[G.n 4 (by omega) rfl,h4]⟩
theorem seg3(hS:St Γ)(hP:PG false pW Γ){ir:IS}(hw:wfS ir Γ.env.scope=true)(ht:noTry ir=true){post:S->Bool}{Q:Flow->Shared->Prop}(R:Rl Γ ρ c h)(g:vS ir pW c ⟨post,λ_ _=>false,λ_=>false⟩=true)
 (K:∀ρ' σ' h' tk',Γ.Ext ρ ρ'->Rl Γ ρ' σ' h'->post σ'=true->Q .next (Γ.sh h' tk')):Γ.wp (execs (toS ir) Γ.env) Q E h tk:=
 wpAny_noRaise (s_all (lv:=false) ir Γ pW hP hS hw (λ_=>ht) _ c ρ h tk Q _ g R K (λv ρ' σ' h' tk' _ _ _ g=>ff g) (λ_ _ _ _ _ _ g=>ff g) (λ_ _ _ _ _ _ _ _ _ g=>ff g) PassesOwn.never)
noncomputable def BX(G:Rho)(ρ:Rho):Prop:=(ρ.L 51).length<=3/\(∀o k,isU o k->∃f,isF f/\ρ.T o=nm f)/\Kp G ρ
noncomputable def shp(i:Nat)(s6 s5 s7:US):Prop:=s6∈ust/\s5∈ust/\s7∈ust/\(i=0->s6=.ab)/\(i<=1->s5=.ab)/\(i<=2->s7=.ab)
noncomputable def JX(G:Rho)(i:Nat)(ρ:Rho)(σ:S):Prop:=∃s6 s5 s7,shp i s6 s5 s7/\σ=stX s6 s5 s7/\BX G ρ
theorem okX_1(C:allXo=true){s6 s5 s7:US}(h6:s6∈ust)(h5:s5∈ust)(h7:s7∈ust):okX s6 s5 s7=true:=by
 have a6:allB (λs5=>allB (λs7=>okX s6 s5 s7) ust) ust=true:=all_e2 (f:=λs6=>allB (λs5=>allB (λs7=>okX s6 s5 s7) ust) ust) C h6
 clear C
 have a5:allB (λs7=>okX s6 s5 s7) ust=true:=all_e2 (f:=λs5=>allB (λs7=>okX s6 s5 s7) ust) a6 h5
 exact all_e2 (f:=λs7=>okX s6 s5 s7) a5 h7
theorem okX_2{s6 s5 s7:US}(h:okX s6 s5 s7=true):stB (stX s6 s5 s7)=true:=by
 unfold okX at h
 exact(bi_t (bi_t h).1).1
theorem okX_3{s6 s5 s7:US}(h:okX s6 s5 s7=true):stB (stY s6 s5 s7)=true:=by
 unfold okX at h
 exact(bi_t (bi_t (bi_t h).2).1).1
theorem okX_4{s6 s5 s7:US}(h:okX s6 s5 s7=true):scE ⟨app (cel none) (app scp (hpU s6 s5 s7)),vs4,400⟩=true:=by
 unfold okX at h
 exact(bi_t (bi_t h).2).2
theorem okX_e(C:XC){s6 s5 s7:US}(h6:s6∈ust)(h5:s5∈ust)(h7:s7∈ust):stB (stX s6 s5 s7)=true/\stB (stY s6 s5 s7)=true/\scE ⟨app (cel none) (app scp (hpU s6 s5 s7)),vs4,400⟩=true:=
 have h:=okX_1 C.o h6 h5 h7
 ⟨okX_2 h,okX_3 h,okX_4 h⟩
theorem nWb:noTry irWb=true:=by decide+kernel
theorem bodyX{G0:Rho}(C:XC)(hS:St Γ)(htn:Γ.tn=false)(ci0:Γ.ci=[])(hP:PG false pW Γ)(hw:wfS irWb Γ.env.scope=true)(hl:lcl Γ.env.scope 11=true){Q:Flow->Shared->Prop}{o k p t:Nat}(hu:isU o k){s6 s5 s7:US}(run:runX o k s6 s5 s7=true)(h6:s6∈ust)(h5:s5∈ust)(h7:s7∈ust)
 (R:Rl Γ ρ (stX s6 s5 s7) h)(B:BX G0 ρ)
 (K:∀s ρ' s6' s5' s7' h' tk',s∈ust->(s6',s5',s7')=(bi (Nat.beq k 6) (s,s5,s7) (bi (Nat.beq k 5) (s6,s,s7) (s6,s5,s)))->Rl Γ ρ' (stX s6' s5' s7') h'->BX G0 ρ'->Q .next (Γ.sh h' tk')):
 Γ.wp (assign (.Name (nm 11) (dp p)) Γ.env (.int (Int.ofNat k) t)) (λ_ s₂=>wpAny (model prog w) Γ.A (execs (toS irWb) Γ.env) Q E s₂) E h tk:=by
 have n0:ρ.n=400:=R.ln
 have R2:Rl Γ (ρ.push t default) ⟨hpX s6 s5 s7,vsX,401⟩ h:=R.push t default
 have x:Γ.Ext ρ (ρ.push t default):=.of push_pre rfl
 have ev:Value.int (Int.ofNat k) t=iv (ρ.push t default) (.int [] (Int.ofNat k) 400):=by
  show _=Value.int (0+Int.ofNat k) ((ρ.push t default).num 400)
  rw[←n0,push_num,Int.zero_add]
 rw[ev]
 refine assign_Name (store_ok hS (.inl hl) R2 (v:=.int [] (Int.ofNat k) 400) (by show 400<_;rw[push_n,n0];exact Nat.le_of_ble_eq_true rfl) λh1 tk1 R3=>?_)
 unfold runX at run
 refine@seg3 prog w Γ (ρ.push t default) ⟨hpX s6 s5 s7,(11,.int [] (Int.ofNat k) 400)::vsX,401⟩ h1 tk1 E hS hP irWb hw nWb (λσ=>endX o k s6 s5 s7 σ) Q R3 run λρ1 σ1 h2 tk2 x1 R4 g=>?_
 obtain⟨ku,g⟩:=dIO_e g
 obtain⟨kb,g⟩:=dIO_e g
 obtain⟨s,f,om,xs,hf,hs,q2,q4,g⟩:=unWB_e (by apply isU3 hu<;>omega) g
 have B1:BX G0 ρ1:=by
  have kp:=kp_ext htn (x.trans x1) (by rw[n0];omega)
  refine elAA (λn471 z472 z473=>?_)<|x.trans x1;clear z472 z473;obtain⟨-,-,x3,x4,-⟩:=n471
  exact mkAA (by rw[congrFun x4 51];exact B.1) (λo k hu=>by rw[congrFun x3 o];exact B.2.1 o k hu) (B.2.2.trans kp)
 have fin:∀s6' s5' s7',s6'∈ust->s5'∈ust->s7'∈ust->(s6',s5',s7')=(bi (Nat.beq k 6) (s,s5,s7) (bi (Nat.beq k 5) (s6,s,s7) (s6,s5,s)))->genK i00 ⟨om,xs,[(o,[]),(Nat.add o 70,[])],[(o,none,[])],[(o,f)]⟩ (stX s6' s5' s7') σ1=true->Q .next (Γ.sh h2 tk2):=λs6' s5' s7' m6 m5 m7 e g=>by
  refine elEAA (λρ2 R5 G eg=>?_)<|gen3 hS ci0 R4 g (okX_e C m6 m5 m7).1 rfl (by unfold fo;rw[q2]) (by unfold fo;rw[q4]) (ls_b λp hp=>by
   rcases List.mem_cons.mp hp with rfl|hp
   .exact Nat.zero_le _
   .rw[List.mem_singleton]at hp;subst hp;exact Nat.zero_le _) (λi x e=>by
   have:=lk_mem e
   rw[List.mem_singleton]at this
   cases this;exact Nat.zero_le _)
  refine K s ρ2 s6' s5' s7' h2 tk2 hs e R5 ⟨?_,λo' k' hu'=>?_,B1.2.2.trans eg⟩
  .rw[G.L 51,show lk [(o,([]:List Sg)),(Nat.add o 70,[])] 51=none by apply isU3 hu<;>rfl];exact B1.1
  .rw[G.T o']
   show∃f',isF f'/\Option.rec (motive:=λ_=>Str) (ρ1.T o') (λj=>nm j) (lk [(o,f)] o')=nm f'
   rcases q:lk [(o,f)] o' with _|f'
   .exact B1.2.1 o' k' hu'
   .have:=lk_mem q
    rw[List.mem_singleton]at this
    cases this
    exact⟨f,hf,rfl⟩
 rcases hu with⟨rfl,rfl⟩|⟨rfl,rfl⟩|⟨rfl,rfl⟩
 .exact fin s s5 s7 hs h5 h7 rfl g
 .exact fin s6 s s7 h6 hs h7 rfl g
 .exact fin s6 s5 s h6 h5 hs rfl g
end
end Mine.Q
namespace Mine.Q
section
variable{prog:Program}{w:World}{Γ:Fx prog w}{ρ ρ' ρ2:Rho}{I:Nat->Bool}{σ c:S}{h:Heap}{hp hpA hpB:Hp}{vs:List (Nat×V)}{nx tk b:Nat}{M:Mp}{E:Value->Shared->Prop}
theorem runX_e(C:XC):runX 100 6 .ab .ab .ab=true/\(∀s6,s6∈ust->runX 200 5 s6 .ab .ab=true)/\∀s6 s5,s6∈ust->s5∈ust->runX 300 7 s6 s5 .ab=true:=by
 have o:=C.x
 unfold allX at o
 obtain⟨a,o⟩:=bi_t o
 obtain⟨b,c⟩:=bi_t o
 exact mkAA a (λs6 h6=>all_e2 (f:=λs6=>runX 200 5 s6 .ab .ab) b h6) (λs6 s5 h6 h5=>all_e2 (f:=λs5=>runX 300 7 s6 s5 .ab) (all_e2 (f:=λs6=>allB (λs5=>runX 300 7 s6 s5 .ab) ust) c h6) h5)
theorem turnX{G0:Rho}(C:XC)(hS:St Γ)(htn:Γ.tn=false)(ci0:Γ.ci=[])(hP:PG false pW Γ)(hw:wfS irWb Γ.env.scope=true)(hl:lcl Γ.env.scope 11=true){Q:Flow->Shared->Prop}{i p:Nat}{x:Value}(hi:i<3){t1 t2 t3:Nat}(hx:(#[Value.int 6 t1,Value.int 5 t2,Value.int 7 t3]:Array Value)[i]?=some x)(j:JX G0 i ρ σ)(R:Rl Γ ρ σ h)
 (K:∀ρ' σ' h' tk',JX G0 (i+1) ρ' σ'->Rl Γ ρ' σ' h'->Q .next (Γ.sh h' tk')):
 Γ.wp (assign (.Name (nm 11) (dp p)) Γ.env x) (λ_ s₂=>wpAny (model prog w) Γ.A (execs (toS irWb) Γ.env) Q E s₂) E h tk:=by
 obtain⟨s6,s5,s7,⟨m6,m5,m7,e6,e5,e7⟩,rfl,B⟩:=j
 refine elAA (λr1 r2 r3=>?_)<|runX_e C
 have cs:i=0\/i=1\/i=2:=by omega
 rcases cs with rfl|rfl|rfl
 .cases hx
  obtain rfl:=e6 rfl
  obtain rfl:=e5 (by decide)
  obtain rfl:=e7 (by decide)
  refine bodyX C hS htn ci0 hP hw hl (o:=100) (k:=6) (.inl ⟨rfl,rfl⟩) r1 m6 m5 m7 R B λs ρ' s6' s5' s7' h' tk' hs e R' B'=>?_
  have e:(s6',s5',s7')=(s,US.ab,US.ab):=e
  cases e
  exact K ρ' _ h' tk' ⟨s,.ab,.ab,⟨hs,m5,m7,(λe=>nomatch e),λ_=>rfl,λ_=>rfl⟩,rfl,B'⟩ R'
 .cases hx
  obtain rfl:=e5 (by decide)
  obtain rfl:=e7 (by decide)
  refine bodyX C hS htn ci0 hP hw hl (o:=200) (k:=5) (.inr (.inl ⟨rfl,rfl⟩)) (r2 s6 m6) m6 m5 m7 R B λs ρ' s6' s5' s7' h' tk' hs e R' B'=>?_
  have e:(s6',s5',s7')=(s6,s,US.ab):=e
  cases e
  exact K ρ' _ h' tk' ⟨s6,s,.ab,⟨m6,hs,m7,(λe=>nomatch e),(λe=>absurd e (by decide)),λ_=>rfl⟩,rfl,B'⟩ R'
 .cases hx
  obtain rfl:=e7 (by decide)
  refine bodyX C hS htn ci0 hP hw hl (o:=300) (k:=7) (.inr (.inr ⟨rfl,rfl⟩)) (r3 s6 s5 m6 m5) m6 m5 m7 R B λs ρ' s6' s5' s7' h' tk' hs e R' B'=>?_
  have e:(s6',s5',s7')=(s6,s5,s):=e
  cases e
  exact K ρ' _ h' tk' ⟨s6,s5,s,⟨m6,m5,hs,(λe=>nomatch e),(λe=>absurd e (by decide)),(λe=>absurd e (by decide))⟩,rfl,B'⟩ R'
theorem loopX{G0:Rho}(C:XC)(hS:St Γ)(htn:Γ.tn=false)(ci0:Γ.ci=[])(hP:PG false pW Γ)(hw:wfS irWb Γ.env.scope=true)(hl:lcl Γ.env.scope 11=true){Q:Flow->Shared->Prop}{p n c:Nat}{t1 t2 t3:Nat}(hr:(n,tupo [.int 6 t1,.int 5 t2,.int 7 t3] c)∈Γ.rest)(hp:PassesOwn (model prog w) Γ.A Γ.env E)(R:Rl Γ ρ σ h)(j0:JX G0 0 ρ σ)
 (K:∀ρ' σ' h' tk',Rl Γ ρ' σ' h'->JX G0 3 ρ' σ'->Q .next (Γ.sh h' tk')):
 wpAny (model prog w) Γ.A (pyIter (.ref n)) (λv s=>codeAny (model prog w) Γ.A (.forLoop (.Name (nm 11) (dp p)) v (toS irWb) [] Γ.env) (λr s'=>match r with|.ok f=>Q f s'|.error e=>cameBackBy (model prog w) Γ.A Γ.env E e s') s) E (Γ.sh h tk):=by
 have isT:∀{ρ' σ' h'},Rl Γ ρ' σ' h'->h'.IsTuple n #[Value.int 6 t1,Value.int 5 t2,Value.int 7 t3]:=λ{ρ' σ' h'} R'=>⟨_,(R'.nw _ (List.mem_append_right _ (List.mem_append_left _ hr))).1,rfl,_,rfl⟩
 have ne:n≠h.objs.size:=Nat.ne_of_lt (Heap.lt_size (R.nw _ (List.mem_append_right _ (List.mem_append_left _ hr))).1)
 refine wpAny_pyIter_tuple (s:=Γ.sh h tk) (isT R) ?_
 have W:=Walks.tuple (prog:=prog) (w:=w) (Γ.hd hS.nh) h.objs.size n ne #[Value.int 6 t1,Value.int 5 t2,Value.int 7 t3]
 refine loopJ (n:=3) (JX G0) (Ik:=λi it=>it.cls=.type "tuple_iterator"/\it.data=.fields #[.ref n,.int i 0]) W (it_L R) (λi it ρ' σ' h' j R' ik=>⟨⟨it,it_get R',ik⟩,isT (it_drop R')⟩) (λi h st=>st.1) (λi h tk x Q E _ _ hq=>own_name hq) (λi it x ρ' σ' h' tk' hi hx j R'=>?_) (λρ' σ' h' tk' j R'=>K ρ' σ' h' tk' R' j) hp (it_new R rfl) ⟨rfl,rfl⟩ j0
 exact turnX C hS.it htn ci0 hP.it hw hl hi hx j R' λρ2 σ2 h2 tk2 j2 R2=>⟨ρ2,σ2,h2,tk2,rfl,j2,R2⟩
end
end Mine.Q
namespace Mine.Q
theorem fill_Qw3:hd.heap_39=hd.heap_39/\PySem.Challenge.rw_no0258_01=PySem.Challenge.rw_no0258_01:=by k_fill;exact⟨rfl,rfl⟩
theorem fn_body{oc ct cd oc' ct' cd':Value}{od od':Option Addr}{osl osl':Array (Option Value)}{n q n' q':Str}{ps ps':Arguments}{b b':List Stmt}{sc sc':Scope}{dV kV doc pm dV' kV' doc' pm':Value}{an an':Option Addr}{x:Option Obj}
 (h:x=some ⟨oc,od,.func (fnOf n q ps b sc dV kV doc pm an cd ct),osl⟩)(h':x=some ⟨oc',od',.func (fnOf n' q' ps' b' sc' dV' kV' doc' pm' an' cd' ct'),osl'⟩):b=b'/\sc=sc':=by
 rw[h]at h'
 injection h' with h'
 injection h' with _ _ h'
 injection h' with h'
 injection h' with _ _ _ hb hs
 injection hb with hb
 exact⟨hb,hs⟩
noncomputable def wB(scope:Scope):Bool:=(((wfS irWa scope&&(wf irWt).e scope)&&lcl scope 11)&&wfS irWb scope)&&wfS irWr scope
noncomputable def FnW(w:World):Prop:=∃(name qual:Str) (params:Arguments) (body:List Stmt) (scope:Scope) (dV kV doc pm cdv ct oc:Value) (an od:Option Addr) (osl:Array (Option Value)),
 (hd.heap_39 w.params).lookup 536=some ⟨oc,od,.func (fnOf name qual params body scope dV kV doc pm an cdv ct),osl⟩/\wB scope=true
theorem fnW_of{w:World}{name qual:Str}{params:Arguments}{body:List Stmt}{scope:Scope}{dV kV doc pm cdv ct oc:Value}{an od:Option Addr}{osl:Array (Option Value)}
 (ho:(hd.heap_39 w.params).lookup 536=some ⟨oc,od,.func (fnOf name qual params body scope dV kV doc pm an cdv ct),osl⟩)(hck:wB scope=true):FnW w:=⟨name,qual,params,body,scope,dV,kV,doc,pm,cdv,ct,oc,an,od,osl,ho,hck⟩
set_option maxHeartbeats 4000000 in
theorem fnW_ok{w:World}:FnW w:=by
 k_dflt (refine' fnW_of ?ho ?hck;(case ho=>k_is);(case hck=>decide+kernel))
theorem fnw_e:∃p1 p2,toS ir536.ir=toS irWa++(.For (.Name (nm 11) (dp p1)) (toE irWt) (toS irWb) [] (dp p2)::toS irWr):=⟨_,_,rfl⟩
section
variable{prog:Program}{w:World}{Γ:Fx prog w}{ρ ρ' ρ2:Rho}{I:Nat->Bool}{σ c:S}{h:Heap}{hp hpA hpB:Hp}{vs:List (Nat×V)}{nx tk b:Nat}{M:Mp}{E:Value->Shared->Prop}
theorem endX0_e{n:Nat}(g:endX0 n σ=true):∃nw dw ni no ns ds nf nu nb nbi nbo nbu vmk ss,itsB ss 3=true/\genK i00 ⟨[(10,nw),(12,dw),(14,ni),(16,no),(60,ns),(62,ds),(64,nf),(18,nu),(20,nb),(22,nbi),(24,nbo),(26,nbu),(66,n)],[(54,vmk)],lsW ss,dsW,[(100,165),(200,165),(300,165)]⟩ stXt σ=true:=by
 obtain⟨nw,g⟩:=refN_e g
 obtain⟨dw,g⟩:=insD_e g
 obtain⟨ni,g⟩:=atR_e g
 obtain⟨no,g⟩:=atR_e g
 obtain⟨ns,g⟩:=atR_e g
 obtain⟨ds,g⟩:=insD_e g
 obtain⟨nf,g⟩:=atR_e g
 obtain⟨nu,g⟩:=atR_e g
 obtain⟨vmk,g⟩:=atE_e g
 obtain⟨nb,g⟩:=refN_e g
 obtain⟨nbi,g⟩:=atR_e g
 obtain⟨nbo,g⟩:=atR_e g
 obtain⟨nbu,g⟩:=atR_e g
 obtain⟨ss,g⟩:=lsS_e g
 obtain⟨l3,g⟩:=cd_e g
 exact⟨nw,dw,ni,no,ns,ds,nf,nu,nb,nbi,nbo,nbu,vmk,ss,l3,g⟩
theorem lsW_b{ss:List Sg}(l3:(sgs ρ ss).length<=3):∀i s,lk (lsW ss) i=some s->(sgs ρ s).length<=90:=ls_b λp hp=>by
 unfold lsW at hp
 simp only[List.mem_cons,List.not_mem_nil,or_false]at hp
 rcases hp with rfl|rfl|rfl|rfl|rfl|rfl|rfl|rfl|rfl
 .exact Nat.zero_le _
 .show(sgs ρ ss).length<=90;omega
 all_goals exact Nat.zero_le _
theorem dsW_b:∀i x,lk dsW i=some x->(dOf ρ x).length<=90:=λi x e=>by
 have:=lk_mem e
 unfold dsW at this
 simp only[List.mem_cons,List.not_mem_nil,or_false,Prod.mk.injEq]at this
 rcases this with⟨-,rfl⟩|⟨-,rfl⟩|⟨-,rfl⟩<;>exact Nat.zero_le _
noncomputable def PW(prog:Program)(w:World)(G:Rho)(v:Value)(l':Lg):Prop:=∃ρ' s6 s5 s7,ρ'.num 2=G.num 2/\ρ'.num 4=G.num 4/\s6∈ust/\s5∈ust/\s7∈ust/\v=.ref (ρ'.num 398)/\l'=led w ρ' (hpY s6 s5 s7)/\Ok prog w ρ' ⟨hpY s6 s5 s7,[],400⟩/\Bd ρ' 0
theorem runY_e(C:XC){s6 s5 s7:US}(h6:s6∈ust)(h5:s5∈ust)(h7:s7∈ust):runY s6 s5 s7=true:=by
 have a6:=C.y s6 h6
 unfold allY at a6
 exact all_e2 (f:=λs7=>runY s6 s5 s7) (all_e2 (f:=λs5=>allB (λs7=>runY s6 s5 s7) ust) a6 h5) h7
noncomputable def lsY:List (Nat×List Sg):=[(50,[]),(52,[]),(100,[]),(170,[]),(200,[]),(270,[]),(300,[]),(370,[])]
theorem lsY_b:∀i s,lk lsY i=some s->(sgs ρ s).length<=90:=ls_b λp hp=>by
 unfold lsY at hp
 simp only[List.mem_cons,List.not_mem_nil,or_false]at hp
 rcases hp with rfl|rfl|rfl|rfl|rfl|rfl|rfl|rfl<;>exact Nat.zero_le _
theorem retX(C:XC)(hS:St Γ)(htn:Γ.tn=false)(ci0:Γ.ci=[])(hP:PG false pW Γ)(hw:wfS irWr Γ.env.scope=true){G0:Rho}{Q:Flow->Shared->Prop}(j:JX G0 3 ρ σ)(R:Rl Γ ρ σ h)
 (K:∀ρ' s6 s5 s7 h' tk',s6∈ust->s5∈ust->s7∈ust->Rl Γ ρ' (stY s6 s5 s7) h'->Bd ρ' 0->Kp G0 ρ'->Q (.ret (.ref (ρ'.num 398))) (Γ.sh h' tk')):Γ.wp (execs (toS irWr) Γ.env) Q E h tk:=by
 obtain⟨s6,s5,s7,⟨m6,m5,m7,-⟩,rfl,B⟩:=j
 have run:=runY_e C m6 m5 m7
 unfold runY at run
 refine wpAny_noRaise (@s_all prog w false irWr Γ pW hP hS hw (λ_=>by decide+kernel) _ (stX s6 s5 s7) ρ h tk Q _ run R (λ_ _ _ _ _ _ g=>ff g) (λv ρ1 σ1 h1 tk1 x _ R1 g=>?_) (λ_ _ _ _ _ _ g=>ff g) (λ_ _ _ _ _ _ _ _ _ g=>ff g) PassesOwn.never)
 replace g:=ref_e (v:=v) g
 refine elEA (λn r478 g479=>?_) g;revert g479;clear g;intro g;subst r478
 have g:genK i00 ⟨[(398,n)],(53,.ref 60)::app (xsY 100) (app (xsY 200) (xsY 300)),lsY,dsW,[]⟩ (stY s6 s5 s7) σ1=true:=g
 refine elEAA (λρ2 R2 G eg=>?_)<|gen3 hS ci0 R1 g (okX_e C m6 m5 m7).2.1 rfl rfl rfl lsY_b dsW_b
 have hn:ρ2.n=400:=R2.ln
 have kp:=kp_ext htn x (by rw[show ρ.n=400 from R.ln];omega)
 refine elAA (λn480 z481 z482=>?_) x;clear z481 z482;obtain⟨-,-,x3,x4,x5⟩:=n480;clear x
 have n8:ρ2.num 398=ρ1.num n:=by rw[G.n 398 (by omega) rfl];rfl
 have e:iv ρ1 (.ref n)=.ref (ρ2.num 398):=by show Value.ref _=_;rw[n8]
 rw[e]
 refine K ρ2 s6 s5 s7 h1 tk1 m6 m5 m7 R2 ⟨?_,?_,λo k hu=>?_⟩ ((B.2.2.trans kp).trans eg)
 .have l0:ρ2.L 50=[]:=by rw[G.L 50];rfl
  have l1:ρ2.L 51=ρ.L 51:=by rw[G.L 51];exact congrFun x4 51
  rw[l0,l1,List.length_nil];have:=B.1;omega
 .have l0:ρ2.L 52=[]:=by rw[G.L 52];rfl
  rw[l0];exact Nat.zero_le _
 .have:ρ2.L o=[]/\ρ2.L (o+70)=[]/\ρ2.D o=[]/\ρ2.T o=ρ.T o:=by
   rw[G.L o,G.L (o+70),G.D o,G.T o]
   apply isU3 hu<;>exact mkAAA rfl rfl rfl (congrFun x3 _)
  refine elAAA (λe1 e2 e3 e4=>?_) this;clear this
  rw[e1,e2,e3,e4]
  exact mkAA (Nat.zero_le _) (Nat.zero_le _) (B.2.1 o k hu)
end
end Mine.Q
namespace Mine.Q
theorem nWa:noTry irWa=true:=by decide+kernel
theorem cd_i{b p:Bool}(h1:b=true)(h2:p=true):cd b p=true:=by subst h1;exact h2
section
variable{prog:Program}{w:World}{Γ:Fx prog w}{ρ ρ' ρ2:Rho}{I:Nat->Bool}{σ c:S}{h:Heap}{hp hpA hpB:Hp}{vs:List (Nat×V)}{nx tk b:Nat}{M:Mp}{E:Value->Shared->Prop}
theorem forX(C:XC)(hS:St Γ)(htn:Γ.tn=false)(ci0:Γ.ci=[])(hP:PG false pW Γ)(nf0:NFs Γ.rest)(hSr:∀l (nf:NFs l),St (Γ.rs l nf))(hPr:∀l (nf:NFs l),PG false pW (Γ.rs l nf))(hwt:(wf irWt).e Γ.env.scope=true)(hl:lcl Γ.env.scope 11=true)(hwb:wfS irWb Γ.env.scope=true)(hwr:wfS irWr Γ.env.scope=true){p1 p2:Nat}{Q:Flow->Shared->Prop}(R:Rl Γ ρ σ h)(h4n:4<ρ.n)(g:postA pW σ=true)
 (K:∀l (nf:NFs l) ρ' s6 s5 s7 h' tk',s6∈ust->s5∈ust->s7∈ust->Rl (Γ.rs l nf) ρ' (stY s6 s5 s7) h'->Bd ρ' 0->Kp ρ ρ'->Q (.ret (.ref (ρ'.num 398))) (Γ.sh h' tk')):
 Γ.wp (execs (.For (.Name (nm 11) (dp p1)) (toE irWt) (toS irWb) [] (dp p2)::toS irWr) Γ.env) Q E h tk:=by
 refine wpAny_noRaise ?_
 unfold postA at g
 refine wpAny_execs_cons (wpAny_For ((io_ok hP hS irWt).e σ hwt _ ρ h tk _ _ g R (λv ρ1 σ1 h1 tk1 x1 s1 R1 g1=>?_) (λ_ _ _ _ _ _ _ _ _ g=>ff g)) (fold_ok irWt _))
 replace g1:=ref_e (v:=v) g1
 refine elEA (λn r483 g484=>?_) g1;revert g484;clear g1;intro g1;subst r483
 refine elEEEEEEE (λnw dw ni no ns ds nf q485=>?_)<|endX0_e g1;refine elEEEEEEE (λnu nb nbi nbo nbu vmk ss q486=>?_) q485;clear q485;refine elA (λl3 g1=>?_) q486;clear q486
 have l3':(sgs ρ1 ss).length<=3:=itsB_ok l3
 have st:stB stXt=true:=by
  have:=C.t
  unfold okXt at this
  exact(bi_t this).1
 refine elEAA (λρ2 R2 G eg=>?_)<|gen3 hS ci0 R1 g1 st rfl rfl rfl (lsW_b l3') dsW_b
 have hn:ρ2.n=400:=R2.ln
 have n6:ρ2.num 66=ρ1.num n:=by rw[G.n 66 (by omega) rfl];rfl
 have R3:Rl Γ ρ2 ⟨hpX .ab .ab .ab++tpX,vsX,400⟩ h1:=by rw[←app_eq];exact R2
 have nfX:NFs (led w ρ2 tpX++Γ.rest):=λq hq=>(List.mem_append.mp hq).elim (R3.blk.r.nf (I:=outP) rfl q) (nf0 q)
 obtain⟨R4,-⟩:=take_out (nf:=nfX) R3
 have e:iv ρ1 (.ref n)=.ref (ρ2.num 66):=by show Value.ref _=_;rw[n6]
 rw[e]
 have m:(ρ2.num 66,tupo [.int 6 (ρ2.num 67),.int 5 (ρ2.num 69),.int 7 (ρ2.num 71)] (ρ2.num 73))∈(Γ.rs (led w ρ2 tpX++Γ.rest) nfX).rest:=List.mem_append_left _ (.head _)
 have B2:BX ρ ρ2:=⟨by rw[G.L 51];exact l3',λo k hu=>⟨165,.inl rfl,by rw[G.T o];apply isU3 hu<;>rfl⟩,(kp_ext htn x1 h4n).trans eg⟩
 refine loopX (Γ:=Γ.rs (led w ρ2 tpX++Γ.rest) nfX) (G0:=ρ) C (hSr _ _) htn ci0 (hPr _ _) hwb hl m PassesOwn.never R4 ⟨.ab,.ab,.ab,⟨.head _,.head _,.head _,λ_=>rfl,λ_=>rfl,λ_=>rfl⟩,rfl,B2⟩ λρ3 σ3 h3 tk3 R5 j=>?_
 exact retX (Γ:=Γ.rs (led w ρ2 tpX++Γ.rest) nfX) C (hSr _ _) htn ci0 (hPr _ _) hwr j R5 λρ4 s6 s5 s7 h4 tk4 m6 m5 m7 R6 B6 e6=>K _ nfX ρ4 s6 s5 s7 h4 tk4 m6 m5 m7 R6 B6 e6
end
end Mine.Q
namespace Mine.Q
section
variable{prog:Program}{w:World}{ρ:Rho}
theorem st_rs{qual:Str}{scope:Scope}{L a:Addr}{cdv:Value}{outer:List Env}{base:Heap}{p:Program}{loose:List Str}{mean:ExcName->Option Value}{mg mb:Str->Option Value}{gs:Array GenState}{dr:Drawn}{os:OsState}{D:Nat}{tn:Bool}{ci:List (Nat×Nat)}
 {hD:D<=880}{hk:scope.kind=.function}{ct:tn=true->(KF w).In base/\Top p loose mean mg mb base}{cs:List Nat}(H:CsOk cs scope){l:Lg}{nf:NFs l}:St ((Fx.fn prog w qual scope L a cdv outer base p loose mean mg mb gs dr os D tn ci hD hk ct).rs l nf):=
 ⟨nm_of rfl rfl hk rfl H.cl λ_ _ _=>Iff.rfl,λ_ _ _=>Iff.rfl,rfl,rfl,rfl,λe=>nm_of rfl rfl hk rfl H.cl λ_ _ _=>Iff.rfl⟩
theorem cel_k(kk:List (Nat×Nat)->S->Bool):celK ir536.cs (ir536.ps.zip [V.ref 2,V.ref 4]) ⟨[(2,.scr 5),(4,.spt 7 0)],ir536.ps.zip [V.ref 2,V.ref 4],400⟩ kk=kk [] stX0:=rfl
theorem len_nil{α:Type}{l:List α}(h:Nat.beq (len l) 0=true):l=[]:=by
 have:=Nat.eq_of_beq_eq_true h
 rw[len_eq]at this
 exact List.eq_nil_of_length_eq_zero this
theorem specW(C:XC)(hok:Ok prog w ρ ⟨[(2,.scr 5),(4,.spt 7 0)],[],400⟩):Spec (KF w) prog w 430 (.ref 536) (ivs ρ [.ref 2,.ref 4]) (led w ρ [(2,.scr 5),(4,.spt 7 0)]) (PW prog w ρ) (λ_ _ _=>False):=by
 refine elEEEEEEE (λname qual params scope dV kV doc q487=>?_)<|fn536_ok (w:=w);refine elEEEEEEE (λpm cdv ct oc an od osl q488=>?_) q487;clear q487;refine elAAAAAAA (λf1 f2 f3 f4 f4n f5 f5t q489=>?_) q488;clear q488;refine elAAA (λf6 f7 f8 f9=>?_) q489;clear q489
 refine elEEEEEEE (λ_ _ _ _ _ _ _ q490=>?_)<|fnW_ok (w:=w);refine elEEEEEEE (λ_ _ _ _ _ _ _ q491=>?_) q490;clear q490;refine elE (λ_ q492=>?_) q491;clear q491;refine elA (λho hB=>?_) q492;clear q492
 obtain⟨-,rfl⟩:=fn_body f1 ho
 refine aa4 (λhwa hwt hl hwb hwr=>?_) hB
 intro gh outer p loose mean mg mb s R B XK Tp H hok' hex
 obtain⟨hp0,gs,dr,tk0,os⟩:=s
 have n0:ρ.n=400:=hok.ln
 have hvs:scs ρ.n [V.ref 2,V.ref 4]:=λv hv=>by
  rw[n0]
  rcases List.mem_cons.mp hv with rfl|hv
  .exact Nat.le_of_ble_eq_true rfl
  .rw[List.mem_singleton]at hv;subst hv;exact Nat.le_of_ble_eq_true rfl
 obtain⟨-,run⟩:=cd_e C.x0
 have hD:430<=880:=Nat.le_of_ble_eq_true rfl
 refine enter_cells XK Tp H f1 f2 (by show 430<1000;omega) (f3 _ _ rfl) (fn_kind f9 f4) (fn_nd f9) (λL h₁ tk cells F N Cs ND lt=>?_) f6 f7 f8
 refine elEEEAAA (λci σ ρ1 g px eg R1=>?_)<|in_fn (kk:=λci σ=>cd (Nat.beq (len ci) 0) (vS irWa ⟨cH 11 440,440,ci,λ_ _ _=>false⟩ σ ⟨λσ=>postA pW σ,λ_ _=>false,λ_=>false⟩)) (tn:=false) (base:=e0) (gs:=gs) (dr:=dr) (os:=os) (hD:=hD) (hk:=f8) (ct:=λh=>nomatch h) f9 rfl f4 (nodB_ok f4n) hvs hok (below_e0 B rfl) XK Tp (λh=>nomatch h) F N Cs ND lt (by rw[cel_k];exact cd_i rfl run)
 replace g:=cd_e g
 obtain⟨hc,g⟩:=g
 obtain rfl:=len_nil hc
 have g:vS irWa pW σ ⟨λσ=>postA pW σ,λ_ _=>false,λ_=>false⟩=true:=g
 refine elEE (λp1 p2 eb=>?_) fnw_e
 rw[eb]
 have hFO:FOk prog w 440 (cH 11 440):=cH_all 11 440
 have hS:=st_fn (prog:=prog) (w:=w) (qual:=qual) (L:=L) (a:=536) (cdv:=cdv) (outer:=outer) (base:=e0) (p:=p) (loose:=loose) (mean:=mean) (mg:=mg) (mb:=mb) (gs:=gs) (dr:=dr) (os:=os) (D:=430) (tn:=false) (ci:=[]) (hD:=hD) (hk:=f8) (ct:=λh=>nomatch h) f9
 have hP:PG false pW (Fx.fn prog w qual scope L 536 cdv outer e0 p loose mean mg mb gs dr os 430 false [] hD f8 λh=>nomatch h):=⟨rfl,rfl,(λh=>nomatch h),rfl,λx Γ' hD' _=>callOk_of hFO hD'⟩
 refine wpAny_noRaise ?_
 refine seq_ (Γ:=Fx.fn prog w qual scope L 536 cdv outer e0 p loose mean mg mb gs dr os 430 false [] hD f8 λh=>nomatch h) ?_
 refine seg3 (ir:=irWa) (post:=λσ=>postA pW σ) hS hP hwa nWa R1 g λρ2 σ2 h2 tk2 x2 R2 g2=>?_
 refine forX (Γ:=Fx.fn prog w qual scope L 536 cdv outer e0 p loose mean mg mb gs dr os 430 false [] hD f8 λh=>nomatch h) C hS rfl rfl hP (λ_ h=>absurd h List.not_mem_nil) (λl nf=>st_rs f9) (λl nf=>⟨rfl,rfl,(λh=>nomatch h),rfl,λx Γ' hD' _=>callOk_of hFO hD'⟩) hwt hl hwb hwr R2 (Nat.lt_of_lt_of_le (by rw[n0];omega) (px.trans x2.1).le) g2 λl nf ρ3 s6 s5 s7 h3 tk3 m6 m5 m7 R3 B3 e3=>?_
 refine elEA (λm F3 z493=>?_)<|R3.fr;clear z493
 have N3:=R3.nw
 have kp:=(kp_ext rfl x2 (Nat.lt_of_lt_of_le (by rw[n0];omega) px.le)).trans e3
 have e4:ρ3.g=gh:=kp.1.trans eg
 have u2:ρ3.num 2=ρ.num 2:=kp.2.1.trans (px.num (by rw[n0];omega))
 have u4:ρ3.num 4=ρ.num 4:=kp.2.2.trans (px.num (by rw[n0];omega))
 rw[e4]at F3 N3
 exact hok' _ _ h3 tk3 ⟨ρ3,s6,s5,s7,u2,u4,m6,m5,m7,rfl,rfl,R3.toOk,B3⟩ (has_sel F3 N3 R3.nd sel_fst)
end
end Mine.Q
namespace Mine.Q
section
variable{prog:Program}{w:World}{Γ:Fx prog w}{ρ ρ' ρ2:Rho}{I:Nat->Bool}{σ c:S}{h:Heap}{hp hpA hpB:Hp}{vs:List (Nat×V)}{nx tk b:Nat}{M:Mp}{E:Value->Shared->Prop}
noncomputable def Rho.by(ρ:Rho)(n:Nat)(f:Nat->Addr×Obj):Rho:={ρ with c:=(List.range n).map f}
theorem by_n{n:Nat}{f:Nat->Addr×Obj}:(ρ.by n f).n=n:=by show(List.map _ _).length=_;rw[List.length_map,List.length_range]
theorem by_at{n i:Nat}{f:Nat->Addr×Obj}(hi:i<n):(ρ.by n f).num i=(f i).1/\(ρ.by n f).obj i=(f i).2:=by
 have:((List.range n).map f)[i]?=some (f i):=by rw[List.getElem?_map,List.getElem?_range hi];rfl
 constructor
 .show((((List.range n).map f)[i]?).getD (0,default)).1=_;rw[this];rfl
 .show((((List.range n).map f)[i]?).getD (0,default)).2=_;rw[this];rfl
noncomputable def clF(ρ ρ':Rho)(i:Nat):Addr×Obj:=(bi (Nat.beq i 0) (ρ.num 0) (ρ'.num i),bi (Nat.beq i 1) (ρ.obj 1) (ρ'.obj i))
noncomputable def clR(ρ ρ':Rho):Rho:={ρ'.by 400 (clF ρ ρ')with g:=ρ.g}
theorem cl_same(hn:ρ'.n=400):Same ρ' (clR ρ ρ') (inR 2 400):=λi hi=>by
 obtain⟨h1,h2⟩:=bi_t hi
 have h2:2<=i:=Nat.le_of_ble_eq_true h1
 have h4:i<400:=lt_e (bi_t hi).2
 obtain⟨a,b⟩:=by_at (ρ:=ρ') (n:=400) (i:=i) (f:=clF ρ ρ') h4
 have q4:Nat.beq i 0=false:=by rw[Bool.eq_false_iff,Ne,Nat.beq_eq];omega
 have q7:Nat.beq i 1=false:=by rw[Bool.eq_false_iff,Ne,Nat.beq_eq];omega
 have a:(clR ρ ρ').num i=bi (Nat.beq i 0) (ρ.num 0) (ρ'.num i):=a
 have b:(clR ρ ρ').obj i=bi (Nat.beq i 1) (ρ.obj 1) (ρ'.obj i):=b
 rw[q4]at a
 rw[q7]at b
 exact mkAAAAA a b rfl rfl rfl rfl
theorem hpU_in{s6 s5 s7:US}:iH (inR 2 400) (bse s6 s5 s7)=true:=iH_app (by cases s6<;>cases s5<;>cases s7<;>exact rfl) (iH_app (by cases s6<;>exact rfl) (iH_app (by cases s5<;>exact rfl) (by cases s7<;>exact rfl)))
theorem hpY_eq{s6 s5 s7:US}:hpY s6 s5 s7=[(398,.tup [.ref 10,.ref 20] 399)]++(scp++bse s6 s5 s7):=by
 have:hpY s6 s5 s7=app [(398,.tup [.ref 10,.ref 20] 399)] (app scp (app (bsI s6 s5 s7) (app (blk 100 6 s6) (app (blk 200 5 s5) (blk 300 7 s7))))):=rfl
 rw[this];simp only[app_eq]
theorem irLW_i:∃a b p1 p2 p3 p4 p5 p6,irLW=.ats [(33,a),(43,b)] (.cal 143 536 (.cns (.loc 38 p1) (.cns (.loc 39 p2) .nil)) p3 p4) p5 p6 .done:=⟨_,_,_,_,_,_,_,_,rfl⟩
theorem clJ(X:XC)(H:LawFx Γ){s6 s5 s7:US}{m:Str->Option Value}(R:Rl Γ ρ stW h)(m6:s6∈ust)(m5:s5∈ust)(m7:s7∈ust)(u2:ρ'.num 2=ρ.num 2)(u4:ρ'.num 4=ρ.num 4)(K:Ok prog w ρ' ⟨hpY s6 s5 s7,[],400⟩){h':Heap}(F:Fr ρ.g Γ.L h' m)(cv:Γ.cov m ρ stW)
 (N:News ρ.g Γ.L h' (led w ρ' (hpY s6 s5 s7)++(led w ρ (cel none)++(Γ.rest++Γ.its))))(nd:(ads (led w ρ' (hpY s6 s5 s7)++(led w ρ (cel none)++(Γ.rest++Γ.its)))).Nodup):
 Rl Γ (clR ρ ρ') ⟨hpY s6 s5 s7++cel none,[(38,.ref 2),(39,.ref 4)],400⟩ h'/\Same ρ' (clR ρ ρ') (inR 2 400):=by
 have hn:ρ'.n=400:=K.ln
 have S:=cl_same (ρ:=ρ) hn
 have n1:(clR ρ ρ').n=400:=by_n (ρ:=ρ') (f:=clF ρ ρ')
 have i1:iH (inR 2 400) (hpY s6 s5 s7)=true:=by rw[hpY_eq];exact iH_app rfl (iH_app rfl hpU_in)
 have c0:(clR ρ ρ').num 0=ρ.num 0:=(by_at (ρ:=ρ') (f:=clF ρ ρ') (by omega)).1
 have c1:(clR ρ ρ').obj 1=ρ.obj 1:=(by_at (ρ:=ρ') (f:=clF ρ ρ') (by omega)).2
 have el:led w (clR ρ ρ') (hpY s6 s5 s7++cel none)=led w ρ' (hpY s6 s5 s7)++led w ρ (cel none):=by
  rw[led_app,same_led S i1]
  have:led w (clR ρ ρ') (cel none)=led w ρ (cel none):=by
   show[((clR ρ ρ').num 0,(clR ρ ρ').obj 1)]=[(ρ.num 0,ρ.obj 1)]
   rw[c0,c1]
  rw[this]
 refine⟨⟨⟨n1,λp hp=>?_,λp hp=>?_,?_,K.hx,K.ll,K.lh,K.dd⟩,⟨R.kn,R.tp,R.bl,R.kt⟩,⟨m,F,(H.cv _ _ _).mpr ⟨λi v e=>?_,λi n a e=>?_⟩⟩,?_,?_⟩,S⟩
 .rcases List.mem_append.mp hp with hp|hp
  .exact same_oks S i1 K.ok p hp
  .obtain rfl:=List.mem_singleton.mp (show p∈[(0,O.cel 1 none)]from hp)
   show((clR ρ ρ').obj 1).data=.cell none
   rw[c1];exact R.ok (0,.cel 1 none) (.head _)
 .rw[n1]
  rcases List.mem_append.mp hp with hp|hp
  .have:=K.so p hp;rwa[hn]at this
  .exact(scE_e (c:=stW) rfl).1 p (by obtain rfl:=List.mem_singleton.mp (show p∈[(0,O.cel 1 none)]from hp);exact .head _)
 .rw[n1];exact(scE_e (c:=stW) rfl).2
 .have:=((H.cv _ _ _).mp cv).1 i v e
  rw[this]
  have e:bi (Nat.beq i 38) (some (V.ref 2)) (bi (Nat.beq i 39) (some (V.ref 4)) none)=some v:=e
  have s2:=(S 2 rfl).1.trans u2
  have s4:=(S 4 rfl).1.trans u4
  rcases q:Nat.beq i 38 with _|_
  .rw[q]at e
   have e:bi (Nat.beq i 39) (some (V.ref 4)) none=some v:=e
   rcases q2:Nat.beq i 39 with _|_
   .rw[q2]at e;cases e
   .rw[q2]at e
    have e:some (V.ref 4)=some v:=e
    cases e
    show some (Value.ref _)=some (Value.ref _)
    rw[s4]
  .rw[q]at e
   have e:some (V.ref 2)=some v:=e
   cases e
   show some (Value.ref _)=some (Value.ref _)
   rw[s2]
 .obtain⟨c2,c3⟩:=((H.cv _ _ _).mp cv).2 i n a e
  rw[H.ci,lk_cons]at e
  rcases q:Nat.beq i 56 with _|_
  .rw[q]at e;cases e
  .rw[q]at e
   have e:some 0=some n:=e
   cases e
   exact⟨by rw[n1];omega,by rw[c0];exact c3⟩
 .show News _ _ _ (led w (clR ρ ρ') (hpY s6 s5 s7++cel none)++(Γ.rest++Γ.its))
  rw[el,List.append_assoc];exact N
 .show(ads (led w (clR ρ ρ') (hpY s6 s5 s7++cel none)++(Γ.rest++Γ.its))).Nodup
  rw[el,List.append_assoc];exact nd
theorem Rl.names{vs vs':List (Nat×V)}(hS:St Γ)(R:Rl Γ ρ ⟨hp,vs,nx⟩ h)(hv:∀i v,lk vs' i=some v->lk vs i=some v)(sv:∀p∈vs',p.2.sc ρ.n):Rl Γ ρ ⟨hp,vs',nx⟩ h:=by
 refine elEA (λm F cv=>?_)<|R.fr
 have cvs:=(hS.cv _ _ _).mp cv
 exact⟨⟨R.ln,R.ok,R.so,sv,R.hx,R.ll,R.lh,R.dd⟩,⟨R.kn,R.tp,R.bl,R.kt⟩,⟨m,F,(hS.cv _ _ _).mpr ⟨λi v e=>cvs.1 i v (hv i v e),cvs.2⟩⟩,R.nw,R.nd⟩
theorem unp_k(a b:Nat){s6 s5 s7:US}{K:S->Bool}:gUnp [(33,a),(43,b)] (.ref 398) ⟨hpY s6 s5 s7++cel none,[(38,.ref 2),(39,.ref 4)],400⟩ K=K ⟨hpY s6 s5 s7++cel none,[(43,.ref 20),(33,.ref 10),(38,.ref 2),(39,.ref 4)],400⟩:=rfl
theorem p8{α:Type}{T S B C:List α}:List.Perm ((T++(S++B))++C) (((C++S)++B)++T):=by
 rw[List.append_assoc C S B]
 refine(List.perm_append_comm (l₁:=T++(S++B)) (l₂:=C)).trans ?_
 rw[List.append_assoc C]
 exact List.Perm.append_left C List.perm_append_comm
theorem sW(X:XC)(H:LawFx Γ){Q:Flow->Shared->Prop}(R:Rl Γ ρ stW h)(K:∀ρ' σ' h' tk',Rl Γ ρ' σ' h'->JL 0 ρ' σ'->Q .next (Γ.sh h' tk')):Γ.wp (execs (toS irLW) Γ.env) Q E h tk:=by
 refine wpAny_noRaise ?_
 have hN:=H.st.nn
 have hw:=H.wW
 refine elEEEEEEE (λa b p1 p2 p3 p4 p5 q494=>?_) irLW_i;refine elE (λp6 e=>?_) q494;clear q494
 rw[e]at hw⊢
 obtain⟨hc,-⟩:=aa hw
 refine aa3 (λw1 w3 w2 w4=>?_) hc
 refine aa3 (λv1 v2 v3 v4=>?_) w4
 obtain⟨y1,y2⟩:=aa v4
 obtain⟨y2,-⟩:=aa y2
 refine wpAny_execs_cons (Assign_Tuple (Call_ (hN.glo v1 (gv_e v2) (nt_in R) (callWith_K R.kn (fk_all _ (List.contains_iff_mem.mp v3)) (args_cons (hN.loc (i:=38) y1 rfl (nt_in R) (args_cons (hN.loc (i:=39) y2 rfl (nt_in R) (args_nil ⟨kin R,?_⟩)) (star_cons (toE_nstar (.loc 39 p2))))) (star_cons (toE_nstar (.loc 38 p1)))) (star_cons (toE_nstar (.loc 38 p1))) (star_any (toL_nstar (.cns (.loc 39 p2) .nil))))) eval_call) (sole_ok (ncomp_ok (not_f w2))) (swst_ok (ntup_ok (not_f w3))))
 have R':Rl Γ ρ ⟨[(2,.scr 5),(4,.spt 7 0)]++cel none,[(38,.ref 2),(39,.ref 4)],400⟩ h:=R.perm (hpA:=cel none++scp) List.perm_append_comm
 have hok:Ok prog w ρ ⟨[(2,.scr 5),(4,.spt 7 0)],[],400⟩:=⟨R'.ln,λp hp=>R'.ok p (List.mem_append_left _ hp),λp hp=>R'.so p (List.mem_append_left _ hp),(λ_ h=>absurd h List.not_mem_nil),R'.hx,R'.ll,R'.lh,R'.dd⟩
 have SW:=specW (prog:=prog) X hok
 refine elEA (λm0 F cv=>?_)<|R.fr
 have dp:Γ.A.depth<=430:=by have:=Γ.dp;rwa[H.D]at this
 have un:Γ.A.units<=10*430:=by have:=Γ.un;rwa[H.D]at this
 refine wpAny_call (use_codeQ SW Γ.fr (Γ.hd H.hc) dp un Γ.lf Γ.kd R.bl F R.kn R.tp R'.nw R'.nd (led w ρ (cel none)++(Γ.rest++Γ.its)) [] (List.nil_sublist _) sel_fst (λ_ _ _ h=>h.elim) (λ_ _ _ _ _ _ h=>h.elim) ?_)
 rintro v l' h' tk ⟨ρ',s6,s5,s7,u2,u4,m6,m5,m7,rfl,rfl,K',B'⟩ F' N' ND'
 obtain⟨R2,S2⟩:=clJ X H R m6 m5 m7 u2 u4 K' F' cv N' ND'
 have e8:Value.ref (ρ'.num 398)=iv (clR ρ ρ') (.ref 398):=by show _=Value.ref _;rw[(S2 398 rfl).1]
 rw[e8]
 refine gUnp_ok (K:=λσ=>@decide (σ=⟨hpY s6 s5 s7++cel none,[(43,.ref 20),(33,.ref 10),(38,.ref 2),(39,.ref 4)],400⟩) (Classical.propDecidable _)) H.st w1 R2 ((unp_k a b).trans (@decide_eq_true _ (Classical.propDecidable _) rfl)) λσ3 h3 tk3 R3 q=>?_
 obtain rfl:=@of_decide_eq_true _ (Classical.propDecidable _) q
 rw[hpY_eq]at R3
 have R4:=((R3.perm p8).drop).names H.st (vs':=vs4) (λi v e=>by
  have:=lk_mem e
  unfold vs4 at this
  simp only[List.mem_cons,List.not_mem_nil,or_false,Prod.mk.injEq]at this
  rcases this with⟨rfl,rfl⟩|⟨rfl,rfl⟩|⟨rfl,rfl⟩|⟨rfl,rfl⟩<;>rfl) (by rw[R3.ln];exact(scE_e (c:=⟨[],vs4,400⟩) rfl).2)
 exact wpAny_pure<|K _ _ h3 tk3 R4 ⟨s6,s5,s7,none,.inl rfl,rfl,B'.same2 (S2.mono λi hi=>by
  have:=bi_t (b:=Nat.ble 10 i) hi
  show bi (Nat.ble 2 i) (Nat.blt i 400) false=true
  rw[Nat.ble_eq_true_of_le (Nat.le_trans (by decide) (Nat.le_of_ble_eq_true this.1))];exact this.2)⟩
end
end Mine.Q
namespace Mine.Q
theorem fill_Qh19:hd.heap_39=hd.heap_39/\PySem.Challenge.rw_no0258_01=PySem.Challenge.rw_no0258_01:=by k_fill;exact⟨rfl,rfl⟩
noncomputable def lawB(scope:Scope):Bool:=(((((((((((wfS irLA scope&&wfS irL11 scope)&&(wf irLS).t scope)&&(wf irLP).t scope)&&wfS irLW scope)&&(wf irG1).e scope)&&(wf irG2).e scope)&&cll scope 56)&&(wf (.rng (.int 10 0) 0 0)).r scope)&&lcl scope 38)&&wfS irL1 scope)&&scope.names.all λx=>!(x.2==.cell)||x.1==nm 56)&&scope.names.lookup (nm 56)==some .cell
noncomputable def LawG(w:World):Prop:=∃(name qual:Str) (params:Arguments) (scope:Scope) (dV kV doc pm cdv ct oc:Value) (an od:Option Addr) (osl:Array (Option Value)),
 (hd.heap_39 w.params).lookup 598=some ⟨oc,od,.func (fnOf name qual params (toS irLaw) scope dV kV doc pm an cdv ct),osl⟩/\lawB scope=true/\scope.kind=.function/\CsOk [56] scope
theorem law_of{w:World}{name qual:Str}{params:Arguments}{body:List Stmt}{scope:Scope}{dV kV doc pm cdv ct oc:Value}{an od:Option Addr}{osl:Array (Option Value)}
 (ho:(hd.heap_39 w.params).lookup 598=some ⟨oc,od,.func (fnOf name qual params body scope dV kV doc pm an cdv ct),osl⟩)(hbd:toS irLaw=body)(hck:lawB scope=true)(h3:scope.kind=.function)(hcf:∀n,cellsFrom n scope.names []=[56].map λc=>(nm c,n)):LawG w:=by
 subst hbd
 refine aa2 (λk k1 k2=>?_) hck
 refine⟨name,qual,params,scope,dV,kV,doc,pm,cdv,ct,oc,an,od,osl,ho,hck,h3,hcf,λx hx=>?_,λc hc=>?_,Nat.le_refl 1⟩
 .have:=List.all_eq_true.mp k1 _ (lookup_mem hx)
  rcases Bool.or_eq_true _ _▸this with q|q
  .exact ff q
  .exact⟨56,.head _,eq_of_beq q⟩
 .rw[List.mem_singleton]at hc;subst hc;exact eq_of_beq k2
set_option maxHeartbeats 4000000 in
theorem law_ok{w:World}:LawG w:=by
 k_dflt (refine' law_of ?ho ?hbd ?hck ?h3 ?hc;(case ho=>k_is);(case hbd=>exact rfl);(case hck=>decide+kernel);(case h3=>exact rfl);(case hc=>exact λn=>rfl))
theorem law_e:∃a1 a2 a3 a4 a5 a6 p p1 p2 p3 p4 r1 r2,toS irLaw=.Assign [.Name (nm 38) a1] (.Subscript (.Name (nm 38) a2) (.Slice none (some (toE (.int 60 a3))) none a4) a5) a6::(toS irL1++(toS irLW++(.For (.Name (nm 56) (dp p)) (toE (.rng (.int 10 p1) p2 p3)) (toS irLA++(toS irL11++(toS irL12++toS irL13))) [] (dp p4)::[.Return (some (toE (.boo true r1))) r2]))):=
 ⟨_,_,_,_,_,_,_,_,_,_,_,_,_,rfl⟩
end Mine.Q
namespace Mine.Q
theorem gnd_upto{prog:Program}{w:World}{A:Around}{E:Value->Shared->Prop}{s:Shared}{Q:Value->Shared->Prop}{value slice:Expr}{g:Heap}{L r:Addr}{m:Str->Option Value}{news:Lg}{vs:List Value}{k:Int}{u:Tok}(F:Fr g L s.heap m)(N:News g L s.heap news)(hl:g.IsList r vs.toArray)(h0:0<=k)(hv:vs.length<=900)
 (h:∀l h',Fr g L h' m->News g L h' ((l,listOf (vs.take k.toNat).toArray 0)::news)->(∀p∈news,p.1<l)->Q (.ref l) {s with heap:=h'})
 (hs:subscripted slice false (.ref r) (.ref s.heap.objs.size)=operate [.ref s.heap.objs.size,.ref r] (getItem (.ref r) (.ref s.heap.objs.size)))
 (ht:∀x,letTemporaryGo value (.ref r) x=pure ()):
 wpAny (model prog w) A (subscriptTail value slice (.ref r) (.ref s.heap.objs.size)) Q E {s with heap:=s.heap.push {cls:=.type "slice",data:=.fields #[.none,.int k u,.none]}}:=by
 refine slice_list F N (hl.at λo e=>F.keep _ _ e) .none (.int k u) (λh' F' N'=>h _ h' F' ?_ λp hp=>Nat.lt_succ_of_lt (Heap.lt_size (N p hp).1)) hs ht (fits_line (by simp;omega))
 have e:k=(k.toNat:Int):=by omega
 rw[e,slicePick_upto']at N'
 simpa using N'
noncomputable def Fx.law(prog:Program)(w:World)(qual:Str)(scope:Scope)(L a:Addr)(cdv:Value)(base:Heap)(p:Program)(loose:List Str)(mean:ExcName->Option Value)(mg mb:Str->Option Value)(gs:Array GenState)(dr:Drawn)(os:OsState)(hk:scope.kind=.function):Fx prog w:=
 ⟨callerA.deeper (envOfC qual scope L a cdv),envOfC qual scope L a cdv,envOfC qual scope L a cdv,L,[],base,p,loose,mean,mg,mb,gs,dr,os,430,[],[],false,false,[(56,0)],covF scope L [(56,0)],
   rfl,λ_=>rfl,Nat.le_of_ble_eq_true rfl,Nat.le_of_ble_eq_true rfl,Nat.le_of_ble_eq_true rfl,rfl,hk,(λh=>nomatch h),(λ_ h=>nomatch h),λm ρ ρ' σ σ' x hs ev H=>⟨λi v h=>by rw[ev]at h;rw[x.iv (hs _ (lk_mem h))];exact H.1 i v h,λi n a b=>⟨Nat.lt_of_lt_of_le (H.2 i n a b).1 x.le,by rw[x.num (H.2 i n a b).1];exact(H.2 i n a b).2⟩⟩⟩
section
variable{prog:Program}{w:World}{qual:Str}{scope:Scope}{L a:Addr}{cdv:Value}{base:Heap}{p:Program}{loose:List Str}{mean:ExcName->Option Value}{mg mb:Str->Option Value}{gs:Array GenState}{dr:Drawn}{os:OsState}{hk:scope.kind=.function}
theorem lawFx(h:lawB scope=true)(hcs:CsOk [56] scope):LawFx (Fx.law prog w qual scope L a cdv base p loose mean mg mb gs dr os hk)/\(wf (.rng (.int 10 0) 0 0)).r scope=true/\lcl scope 38=true/\wfS irL1 scope=true:=by
 obtain⟨k,-⟩:=aa h
 obtain⟨k,-⟩:=aa k
 refine aa10 (λh1 h2 h3 h4 h5 h6 h7 h8 h9 h10 h11=>?_) k
 exact mkAAA ⟨⟨qual,scope,L,a,cdv,rfl,rfl,hk,hcs⟩,λ_ _ _=>Iff.rfl,rfl,rfl,rfl,rfl,rfl,rfl,rfl,h1,h2,h3,h4,h5,⟨h6,h7⟩,h8⟩ h9 h10 h11
end
section
variable{prog:Program}{w:World}{Γ:Fx prog w}{ρ ρ' ρ2:Rho}{I:Nat->Bool}{σ c:S}{h:Heap}{hp hpA hpB:Hp}{vs:List (Nat×V)}{nx tk b:Nat}{M:Mp}{E:Value->Shared->Prop}
noncomputable def spF(ρ:Rho)(i:Nat):Addr×Obj:=(bi (Nat.beq i 4) (ρ.num 6) (ρ.num i),bi (Nat.beq i 7) (listOf #[.int 0 (ρ.num 97)] (ρ.num 99)) (ρ.obj i))
theorem s1(G:run1=true)(H:LawFx Γ)(hw:wfS irL1 Γ.env.scope=true){Q:Flow->Shared->Prop}(R:Rl Γ ρ st1 h)(K:∀ρ' h' tk',Rl Γ ρ' stW h'->Q .next (Γ.sh h' tk')):Γ.wp (execs (toS irL1) Γ.env) Q E h tk:=by
 unfold run1 at G
 obtain⟨st,G⟩:=cd_e G
 obtain⟨off,run⟩:=cd_e G
 refine@seg prog w Γ ρ st1 h tk E H irL1 hw (by decide+kernel) (λσ=>refN σ 39 λn=>genK i00 ⟨[(6,n)],[],[],[],[]⟩ st2 σ) Q R run λρ1 σ1 h1 tk1 x R1 g=>?_
 obtain⟨n,g⟩:=refN_e g
 refine elEAAA (λρ2 R2 Gr2 z495 z496=>?_) (gen2 H R1 g st off (λi hi=>by rw[i00_lt hi];exact Nat.le_of_ble_eq_true rfl) (Nat.le_of_ble_eq_true rfl) (λ_ _ e=>nomatch e) (λ_ _ e=>nomatch e));clear z495 z496
 have hn:ρ2.n=400:=R2.ln
 have A:∀i,i<400->(ρ2.by 400 (spF ρ2)).num i=(spF ρ2 i).1/\(ρ2.by 400 (spF ρ2)).obj i=(spF ρ2 i).2:=λi hi=>by_at hi
 have n0:=(A 0 (by omega)).1
 have o1:=(A 1 (by omega)).2
 have n2:=(A 2 (by omega)).1
 have n4:=(A 4 (by omega)).1
 have o5:=(A 5 (by omega)).2
 have o7:=(A 7 (by omega)).2
 have n0:(ρ2.by 400 (spF ρ2)).num 0=ρ2.num 0:=n0
 have o1:(ρ2.by 400 (spF ρ2)).obj 1=ρ2.obj 1:=o1
 have n2:(ρ2.by 400 (spF ρ2)).num 2=ρ2.num 2:=n2
 have n4:(ρ2.by 400 (spF ρ2)).num 4=ρ2.num 6:=n4
 have o5:(ρ2.by 400 (spF ρ2)).obj 5=ρ2.obj 5:=o5
 have o7:(ρ2.by 400 (spF ρ2)).obj 7=listOf #[.int 0 (ρ2.num 97)] (ρ2.num 99):=o7
 have k0:=R2.ok (0,.cel 1 none) (.head _)
 have k2:=R2.ok (2,.scr 5) (.tail _ (.head _))
 refine K (ρ2.by 400 (spF ρ2)) h1 tk1 (Rl.view (c:=stW) H.st R2 by_n rfl ?_ ⟨?_,?_⟩ ?_ R2.hx R2.ll R2.lh R2.dd ?_ ?_)
 .refine .of_eq ?_
  show[(ρ2.num 0,ρ2.obj 1),(ρ2.num 2,ρ2.obj 5),(ρ2.num 6,listOf ([Value.int (0+0) (ρ2.num 97)]++[]).toArray (ρ2.num 99))]=[((ρ2.by 400 (spF ρ2)).num 0,(ρ2.by 400 (spF ρ2)).obj 1),((ρ2.by 400 (spF ρ2)).num 2,(ρ2.by 400 (spF ρ2)).obj 5),((ρ2.by 400 (spF ρ2)).num 4,(ρ2.by 400 (spF ρ2)).obj 7)]
  rw[n0,o1,n2,o5,n4,o7];rfl
 .refine fc (?_)<|fc (?_)<|fc (?_)<|λ_ h=>absurd h List.not_mem_nil
  .show((ρ2.by 400 (spF ρ2)).obj 1).data=.cell none
   rw[o1];exact k0
  .show∃vs ns vn,(ρ2.by 400 (spF ρ2)).obj 5=listOf (List.toArray vs) vn/\IntsAre vs ns/\vs.length<=60
   rw[o5];exact k2
  .show∃i t n,(ρ2.by 400 (spF ρ2)).obj 7=listOf #[.int i t] n/\0<=i
   exact mkEEEA 0 _ _ o7 (Int.le_refl 0)
 .rw[by_n];exact(scE_e (c:=stW) rfl).1
 .rw[by_n];exact(scE_e (c:=stW) rfl).2
 .intro i v e
  have e:bi (Nat.beq i 38) (some (V.ref 2)) (bi (Nat.beq i 39) (some (V.ref 4)) none)=some v:=e
  rcases bi_cases (Nat.beq i 38)with q|q
  .rw[q]at e
   have e:some (V.ref 2)=some v:=e
   cases e
   exact⟨.ref 2,by show bi (Nat.beq i 38) _ _=_;rw[q];rfl,by show Value.ref _=Value.ref _;rw[n2]⟩
  .rw[q]at e
   have e:bi (Nat.beq i 39) (some (V.ref 4)) none=some v:=e
   rcases bi_cases (Nat.beq i 39)with q2|q2
   .rw[q2]at e
    have e:some (V.ref 4)=some v:=e
    cases e
    exact⟨.ref 6,by show bi (Nat.beq i 38) _ (bi (Nat.beq i 39) _ _)=_;rw[q,q2];rfl,by show Value.ref _=Value.ref _;rw[n4]⟩
   .rw[q2]at e;cases e
 .intro i n e
  rw[H.ci,lk_cons]at e
  rcases q:Nat.beq i 56 with _|_
  .rw[q]at e;cases e
  .rw[q]at e
   have e:some 0=some n:=e
   cases e
   exact⟨by rw[by_n];exact Nat.le_of_ble_eq_true rfl,n0⟩
where
 bi_cases (b:Bool):b=true\/b=false:=by cases b<;>simp
end
end Mine.Q
namespace Mine.Q
section
variable{prog:Program}{w:World}{qual:Str}{scope:Scope}{L a:Addr}{cdv:Value}{g:Heap}{p:Program}{loose:List Str}{mean:ExcName->Option Value}{mg mb:Str->Option Value}{gs:Array GenState}{dr:Drawn}{os:OsState}{hk:scope.kind=.function}{h:Heap}{m:Str->Option Value}
theorem mk_Rl{hp:Hp}{vsn:List (Nat×V)}{ρ:Rho}(B:Below callerA g [] g)(X:(hd.heap_39 w.params).In g)(T:Top p loose mean mg mb g)(hcs:CsOk [56] scope)(hn:ρ.n=400)(hg:ρ.g=g)(e0:ρ.num 0=L+1)(hX:∀i,handedIn (ρ.X i)=true)(hL:∀i,ρ.L i=[])(hD:∀i,ρ.D i=[])
 (ok:∀p∈hp,okO prog w ρ (ρ.num p.1) p.2)(sc:scE ⟨hp,vsn,400⟩=true)(F:Fr g L h m)(hm:∀i v,lk vsn i=some v->m (nm i)=some (iv ρ v))(N:News g L h (led w ρ hp))(nd:(ads (led w ρ hp)).Nodup):Rl (Fx.law prog w qual scope L a cdv g p loose mean mg mb gs dr os hk) ρ ⟨hp,vsn,400⟩ h:=by
 subst hg
 obtain⟨s1,s2⟩:=scE_e sc
 refine⟨⟨hn,ok,by rw[hn];exact s1,by rw[hn];exact s2,hX,λi=>by rw[hL];exact Nat.zero_le _,λi v hv=>by rw[hL]at hv;exact absurd hv List.not_mem_nil,λi=>by rw[hD];exact⟨Nat.zero_le _,λe he=>absurd he List.not_mem_nil⟩⟩,⟨X,T,⟨rfl,B.stays,B.frames⟩,λe=>nomatch e⟩,⟨m,F,hm,λi n _ e=>?_⟩,?_,?_⟩
 .rw[lk_cons]at e
  rcases q:Nat.beq i 56 with _|_
  .rw[q]at e;cases e
  .rw[q]at e
   have e:some 0=some n:=e
   cases e
   refine⟨by rw[hn];exact Nat.le_of_ble_eq_true rfl,?_⟩
   rw[Nat.eq_of_beq_eq_true q,hcs.1,e0]
   show List.lookup (nm 56) [(nm 56,L+1)]=_
   rw[List.lookup_cons,beq_self_eq_true]
 .show News _ _ _ (led w ρ hp++([]++[]));rw[List.append_nil,List.append_nil];exact N
 .show(ads (led w ρ hp++([]++[]))).Nodup;rw[List.append_nil,List.append_nil];exact nd
noncomputable def r0(g:Heap)(x:Value)(f:Nat->Addr×Obj):Rho:=({c:=[],X:=λ_=>x,T:=λ_=>"",L:=λ_=>[],D:=λ_=>[],g:=g}:Rho).by 400 f
noncomputable def f0(L l:Addr)(oc ol:Obj)(i:Nat):Addr×Obj:=(bi (Nat.beq i 0) (L+1) (bi (Nat.beq i 2) l 0),bi (Nat.beq i 1) oc (bi (Nat.beq i 5) ol default))
def LawIs(w:World)(b:List Stmt)(sc:Scope):Prop:=∃oc od n q ps dV kV doc pm an cd ct osl,(hd.heap_39 w.params).lookup 598=some ⟨oc,od,.func (fnOf n q ps b sc dV kV doc pm an cd ct),osl⟩
theorem law_rest{Γ:Fx prog w}{ρ:Rho}{tk:Nat}{Q:Flow->Shared->Prop}{E:Value->Shared->Prop}(C:AllC)(hJ:∀s6,allJ s6=true)(X0:XC)(h1:run1=true)(H:LawFx Γ)(nf0:NFs Γ.rest)(hr:(wf (.rng (.int 10 0) 0 0)).r Γ.env.scope=true)(hw1:wfS irL1 Γ.env.scope=true)(hp:PassesOwn (model prog w) Γ.A Γ.env E)
 (R:Rl Γ ρ st1 h){pp p1 p2 p3 p4 r1:Nat}{r2:Pos}(K:∀ρ' σ' h' tk',Rl Γ ρ' σ' h'->Q (.ret (.bool true)) (Γ.sh h' tk')):
 Γ.wp (execs (toS irL1++(toS irLW++(.For (.Name (nm 56) (dp pp)) (toE (.rng (.int 10 p1) p2 p3)) (toS irLA++(toS irL11++(toS irL12++toS irL13))) [] (dp p4)::[.Return (some (toE (.boo true r1))) r2]))) Γ.env) Q E h tk:=by
 refine seq_ ?_
 refine s1 h1 H hw1 R λρ1 h1 tk1 R1=>?_
 refine seq_ ?_
 refine sW X0 H R1 λρ2 σ2 h2 tk2 R2 j=>?_
 refine loop C H nf0 hJ rfl hr hp R2 j λρ3 σ3 i h3 tk3 R3 _=>?_
 exact wpAny_execs_cons (wpAny_Return_some (wpAny_Constant_bool (K ρ3 σ3 h3 _ R3)))
theorem law_body{E:Value->Shared->Prop}{Q:Flow->Shared->Prop}{s:Shared}{body:List Stmt}{sa:Addr}{oc:Obj}{vs:List Value}{ns:List Int}(C:AllC)(hJ:∀s6,allJ s6=true)(X0:XC)(h1:run1=true)
 (hb:LawIs w body scope)
 (B:Below callerA g [] g)(X:(hd.heap_39 w.params).In g)(T:Top p loose mean mg mb g)(F:Fr g L s.heap m)(hm:m "script"=some (.ref sa))(N:News g L s.heap [(L+1,oc)])(hoc:oc.data=.cell none)(hl:g.IsList sa vs.toArray)(hi:IntsAre vs ns)(hv:vs.length<=63)
 (hQ:∀h' tk,(∀b o,g.get? b=some o->h'.get? b=some o)->Q (.ret (.bool true)) {s with heap:=h',toks:=tk}):
 wpAny (model prog w) (callerA.deeper (envOfC qual scope L a cdv)) (execs body (envOfC qual scope L a cdv)) Q E s:=by
 refine wpAny_noRaise ?_
 refine elEEEEEEE (λoc' od n q ps dV kV q498=>?_) hb;refine elEEEEEE (λdoc pm an cd' ct osl g497=>?_) q498;clear q498;revert g497;clear hb;intro hb
 refine elEEEEEEE (λ_ _ _ _ _ _ _ q499=>?_)<|law_ok (w:=w);refine elEEEEEEE (λ_ _ _ _ _ _ _ q500=>?_) q499;clear q499;refine elAAA (λho hB hk hcs=>?_) q500;clear q500
 obtain⟨rfl,rfl⟩:=fn_body hb ho
 obtain⟨hp0,gs,dr,tk0,os⟩:=s
 refine elAAA (λH hr h38 hw1=>?_)<|lawFx (prog:=prog) (w:=w) (qual:=qual) (L:=L) (a:=a) (cdv:=cdv) (base:=g) (p:=p) (loose:=loose) (mean:=mean) (mg:=mg) (mb:=mb) (gs:=gs) (dr:=dr) (os:=os) (hk:=hk) hB hcs
 have R0:Rl (Fx.law prog w qual _ L a cdv g p loose mean mg mb gs dr os hk) (r0 g (.ref sa) (f0 L 0 oc default)) ⟨[(0,.cel 1 none)],[(38,.opq 0)],400⟩ hp0:=by
  have n0:(r0 g (.ref sa) (f0 L 0 oc default)).num 0=L+1:=(by_at (by decide)).1
  have o1:(r0 g (.ref sa) (f0 L 0 oc default)).obj 1=oc:=(by_at (by decide)).2
  refine mk_Rl B X T hcs by_n rfl n0 (λ_=>rfl) (λ_=>rfl) (λ_=>rfl) (λpp hp=>?_) rfl F (λi v e=>?_) ?_ ?_
  .rw[List.mem_singleton]at hp;subst hp
   show((r0 g (.ref sa) (f0 L 0 oc default)).obj 1).data=.cell none
   rw[o1];exact hoc
  .have e:bi (Nat.beq i 38) (some (V.opq 0)) none=some v:=e
   rcases q:Nat.beq i 38 with _|_
   .rw[q]at e;cases e
   .rw[q]at e
    have e:some (V.opq 0)=some v:=e
    cases e
    rw[Nat.eq_of_beq_eq_true q];exact hm
  .show News g L hp0 [((r0 g (.ref sa) (f0 L 0 oc default)).num 0,(r0 g (.ref sa) (f0 L 0 oc default)).obj 1)]
   rw[n0,o1];exact N
  .exact List.nodup_cons.mpr ⟨List.not_mem_nil,.nil⟩
 refine elEEEEEEE (λa1 a2 a3 a4 a5 a6 pp q501=>?_) law_e;refine elEEEEEE (λp1 p2 p3 p4 r1 r2 e=>?_) q501;clear q501
 rw[e]
 have go:∀l h',Fr g L h' m->News g L h' ((l,listOf (vs.take 60).toArray 0)::[(L+1,oc)])->(∀p∈[(L+1,oc)],p.1<l)->Rl (Fx.law prog w qual _ L a cdv g p loose mean mg mb gs dr os hk) (r0 g .none (f0 L l oc (listOf (vs.take 60).toArray 0))) ⟨[(0,.cel 1 none),(2,.scr 5)],[],400⟩ h':=λl h' F' N' lt=>by
  have n0:(r0 g .none (f0 L l oc (listOf (vs.take 60).toArray 0))).num 0=L+1:=(by_at (by decide)).1
  have o1:(r0 g .none (f0 L l oc (listOf (vs.take 60).toArray 0))).obj 1=oc:=(by_at (by decide)).2
  have n2:(r0 g .none (f0 L l oc (listOf (vs.take 60).toArray 0))).num 2=l:=(by_at (by decide)).1
  have o5:(r0 g .none (f0 L l oc (listOf (vs.take 60).toArray 0))).obj 5=listOf (vs.take 60).toArray 0:=(by_at (by decide)).2
  refine mk_Rl B X T hcs by_n rfl n0 (λ_=>rfl) (λ_=>rfl) (λ_=>rfl) (fc (?_)<|fc (?_)<|λ_ h=>absurd h List.not_mem_nil) rfl F' (λi v e=>nomatch e) ?_ ?_
  .show((r0 g .none (f0 L l oc (listOf (vs.take 60).toArray 0))).obj 1).data=.cell none
   rw[o1];exact hoc
  .show∃vs' ns' vn,(r0 g .none (f0 L l oc (listOf (vs.take 60).toArray 0))).obj 5=listOf (List.toArray vs') vn/\IntsAre vs' ns'/\vs'.length<=60
   rw[o5];exact mkEEEAA _ _ _ rfl (hi.take 60) (by rw[List.length_take];omega)
  .show News g L h' [((r0 g .none (f0 L l oc (listOf (vs.take 60).toArray 0))).num 0,(r0 g .none (f0 L l oc (listOf (vs.take 60).toArray 0))).obj 1),((r0 g .none (f0 L l oc (listOf (vs.take 60).toArray 0))).num 2,(r0 g .none (f0 L l oc (listOf (vs.take 60).toArray 0))).obj 5)]
   rw[n0,o1,n2,o5];exact news_perm N' (.swap ..)
  .show[(r0 g .none (f0 L l oc (listOf (vs.take 60).toArray 0))).num 0,(r0 g .none (f0 L l oc (listOf (vs.take 60).toArray 0))).num 2].Nodup
   rw[n0,n2]
   exact List.nodup_cons.mpr ⟨λhm=>absurd (List.mem_singleton.mp hm) (Nat.ne_of_lt (lt _ (.head _))),List.nodup_cons.mpr ⟨List.not_mem_nil,.nil⟩⟩
 have hN:=H.st.nn
 refine wpAny_execs_cons (wpAny_Assign_Name (Subscript_ (hN.loc (i:=38) (v:=.opq 0) h38 rfl (nt_in R0) (wpAny_Slice (evalPart_none_step (evalPart_some_step (wpAny_Constant_int (evalPart_none_step ?_))))))) rfl)
 refine gnd_upto (s:=⟨hp0,gs,dr,_,os⟩) F N hl (by decide) (by omega) (λl h' F' N' lt=>?_) (by rfl) (λ_=>by rfl)
 have R1:=go l h' F' N' lt
 have e2:Value.ref l=iv (r0 g .none (f0 L l oc (listOf (vs.take 60).toArray 0))) (.ref 2):=by
  have n2:(r0 g .none (f0 L l oc (listOf (vs.take 60).toArray 0))).num 2=l:=(by_at (by decide)).1
  exact(congrArg Value.ref n2).symm
 rw[e2]
 refine store_ok H.st (.inl h38) R1 (v:=.ref 2) (by
  have nn:(r0 g .none (f0 L l oc (listOf (vs.take 60).toArray 0))).n=400:=by_n
  show 2<_
  rw[nn];omega) λh2 tk2 R2=>?_
 exact law_rest C hJ X0 h1 H (λ_ h=>absurd h List.not_mem_nil) hr hw1 PassesOwn.never R2 λρ' σ' h3 tk3 R3=>by
  refine elEA (λm' F3 z502=>?_)<|R3.fr;clear z502
  exact hQ h3 tk3 λb o e=>F3.keep b o (R3.bl.stays b o e)
end
end Mine.Q
namespace Mine.Q
theorem e_z0:all0 0=true:=by decide+kernel
theorem e_z1:all0 1=true:=by decide+kernel
theorem e_z2:all0 2=true:=by decide+kernel
theorem e_z3:all0 3=true:=by decide+kernel
theorem e_z5:all0 5=true:=by decide+kernel
theorem e_n:allN=true:=by decide+kernel
theorem e_q1:allQ 1 100 6 165=true:=by decide+kernel
theorem e_q2:allQ 2 200 5 165=true:=by decide+kernel
theorem e_q3:allQ 3 300 7 165=true:=by decide+kernel
theorem e_q4:allQ 1 100 6 166=true:=by decide+kernel
theorem e_q5:allQ 2 200 5 166=true:=by decide+kernel
theorem e_q6:allQ 3 300 7 166=true:=by decide+kernel
theorem e_p1:allP 1 100 6 165=true:=by decide+kernel
theorem e_p2:allP 2 200 5 165=true:=by decide+kernel
theorem e_p3:allP 3 300 7 165=true:=by decide+kernel
theorem e_p4:allP 1 100 6 166=true:=by decide+kernel
theorem e_p5:allP 2 200 5 166=true:=by decide+kernel
theorem e_p6:allP 3 300 7 166=true:=by decide+kernel
theorem e_r1:allR 1 100 6 165=true:=by decide+kernel
theorem e_r2:allR 2 200 5 165=true:=by decide+kernel
theorem e_r3:allR 3 300 7 165=true:=by decide+kernel
theorem e_r4:allR 1 100 6 166=true:=by decide+kernel
theorem e_r5:allR 2 200 5 166=true:=by decide+kernel
theorem e_r6:allR 3 300 7 166=true:=by decide+kernel
theorem e_w1:allW 1 100 6 165=true:=by decide+kernel
theorem e_w2:allW 2 200 5 165=true:=by decide+kernel
theorem e_w3:allW 3 300 7 165=true:=by decide+kernel
theorem e_w4:allW 1 100 6 166=true:=by decide+kernel
theorem e_w5:allW 2 200 5 166=true:=by decide+kernel
theorem e_w6:allW 3 300 7 166=true:=by decide+kernel
theorem e_v1:allV 1 100 6 165=true:=by decide+kernel
theorem e_v2:allV 2 200 5 165=true:=by decide+kernel
theorem e_v3:allV 3 300 7 165=true:=by decide+kernel
theorem e_v4:allV 1 100 6 166=true:=by decide+kernel
theorem e_v5:allV 2 200 5 166=true:=by decide+kernel
theorem e_v6:allV 3 300 7 166=true:=by decide+kernel
theorem e_c:allB (λk=>bi (celL k none) (celL k (some (.opq 0))) false) [0,1,2,3,4,5,6,7,8,9]=true:=by decide+kernel
theorem e_a0:runA 0=true:=by decide+kernel
theorem e_a1:runA 1=true:=by decide+kernel
theorem e_a2:runA 2=true:=by decide+kernel
theorem e_a3:runA 3=true:=by decide+kernel
theorem e_a4:runA 4=true:=by decide+kernel
theorem e_a5:runA 5=true:=by decide+kernel
theorem e_a6:runA 6=true:=by decide+kernel
theorem e_a7:runA 7=true:=by decide+kernel
theorem e_a8:runA 8=true:=by decide+kernel
theorem e_a9:runA 9=true:=by decide+kernel
theorem in10{k:Nat}(h:k<10):k∈[0,1,2,3,4,5,6,7,8,9]:=by
 have:∀k,k<10->k∈[0,1,2,3,4,5,6,7,8,9]:=by decide
 exact this k h
theorem e_s0:all12 .ab=true:=by decide+kernel
theorem e_s1:all12 .sp=true:=by decide+kernel
theorem e_s2:all12 .pa=true:=by decide+kernel
theorem e_s3:all12 .di=true:=by decide+kernel
theorem e_l:allPl=true:=by decide+kernel
theorem e_J0:allJ .ab=true:=by decide+kernel
theorem e_J1:allJ .sp=true:=by decide+kernel
theorem e_J2:allJ .pa=true:=by decide+kernel
theorem e_J3:allJ .di=true:=by decide+kernel
theorem e_x0:runX0=true:=by decide+kernel
theorem e_xt:okXt=true:=by decide+kernel
theorem e_xo:allXo=true:=by decide+kernel
theorem e_x:allX=true:=by decide+kernel
theorem e_y:allB allY ust=true:=by decide+kernel
theorem e_1:run1=true:=by decide+kernel
theorem ea:∀k,k<10->runA k=true
 |0,_=>e_a0
 |1,_=>e_a1
 |2,_=>e_a2
 |3,_=>e_a3
 |4,_=>e_a4
 |5,_=>e_a5
 |6,_=>e_a6
 |7,_=>e_a7
 |8,_=>e_a8
 |9,_=>e_a9
 |n+10,h=>absurd h (by omega)
theorem xc:XC:=⟨e_x0,e_xt,e_xo,e_x,λs h=>allB_e e_y s h⟩
theorem allc:AllC where
 z:=⟨e_z0,e_z1,e_z2,e_z3,e_z5⟩
 n:=e_n
 q:=λf h=>by
  rcases h with rfl|rfl
  .exact⟨e_q1,e_q2,e_q3⟩
  .exact⟨e_q4,e_q5,e_q6⟩
 p:=λf h=>by
  rcases h with rfl|rfl
  .exact⟨e_p1,e_p2,e_p3⟩
  .exact⟨e_p4,e_p5,e_p6⟩
 r:=λf h=>by
  rcases h with rfl|rfl
  .exact⟨e_r1,e_r2,e_r3⟩
  .exact⟨e_r4,e_r5,e_r6⟩
 w:=λf h=>by
  rcases h with rfl|rfl
  .exact⟨e_w1,e_w2,e_w3⟩
  .exact⟨e_w4,e_w5,e_w6⟩
 v:=λf h=>by
  rcases h with rfl|rfl
  .exact⟨e_v1,e_v2,e_v3⟩
  .exact⟨e_v4,e_v5,e_v6⟩
 a:=λk h=>⟨ea k h,bi_t (allB_e e_c k (in10 h))⟩
 s:=λs=>US.rec e_s0 e_s1 e_s2 e_s3 s
 l:=e_l
theorem allj:∀s6,allJ s6=true:=λs=>US.rec e_J0 e_J1 e_J2 e_J3 s
end Mine.Q
namespace Mine
theorem fill_Qm:hd.heap_39=hd.heap_39/\PySem.Challenge.rw_no0258_01=PySem.Challenge.rw_no0258_01:=by k_fill;exact⟨rfl,rfl⟩
theorem law_is{w:World}{b:List Stmt}{sc:Scope}{oc ct cd:Value}{od:Option Addr}{osl:Array (Option Value)}{n q:Str}{ps:Arguments}{dV kV doc pm:Value}{an:Option Addr}
 (h:(hd.heap_39 w.params).lookup 598=some ⟨oc,od,.func (fnOf n q ps b sc dV kV doc pm an cd ct),osl⟩):Q.LawIs w b sc:=⟨_,_,_,_,_,_,_,_,_,_,_,_,_,h⟩
set_option maxHeartbeats 8000000 in
theorem holds0:PySem.Challenge.rw_no0258_01.Holds:=hd (by
 k_go0
 rename PySem.World=>w
 rename Below callerA _ _ _=>B
 rename (Frag.In _ _)=>X
 rename (Top _ _ _ _ _ _)=>T
 rename (Fr _ _ _ _)=>F
 rename (News _ _ _ _)=>N
 rename (IntsAre _ _)=>hI
 rename (Heap.IsList _ _ _)=>hL
 refine Q.law_body Q.allc Q.allj Q.xc Q.e_1 ?hb B X T F rfl N ?hoc hL hI ?hv ?hQ
 (case hb=>
   refine' law_is ?hk
   (case hk=>k_is))
 (case hoc=>rename (_=Data.cell _)=>hd9;exact hd9.trans rfl)
 (case hv=>have hl9:=hI.length;omega)
 intro h9 tk9 hk9
 try dsimp only
 exact mkAAA (.inl ⟨_,_,[],rfl,(λ_=>rfl),ReadsW.bool true,(by with_unfolding_all rfl),λ_=>⟨List.nodup_nil,λ_ hm=>(nomatch hm)⟩⟩) hk9 rfl (by assumption))
end Mine
theorem PySem.Challenge.cw_no0258_01_holds : PySem.Challenge.rw_no0258_01.Holds := by
  exact Mine.holds0
