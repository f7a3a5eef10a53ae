import PyProof.Rows.All
import OpenK.KLine
import OpenK.KRaise
import OpenK.KEqL
import KE.KPop
import KE.KItem
import KE.LcTurns
import KE.LcSums
import KE.KCat
import KE.KxBytes
import KE.KDictNew
import KE.KSortAsk
import KE.BytesMake
import KE.BytesK
import KE.KxPercent
import KE.KTryDeep
import KE.KBytesCut
import KE.KSortTup
import KE.KMulAny
import PyProof.InstStoreFacts
import Lean
import PySem.Challenge.RW_nu0140_01
namespace Mine.main
abbrev P:Prop:=True
theorem p:P:=⟨⟩
theorem tw10063615490667107986:P:=p
theorem tw10114013102757674387:P:=p
theorem tw1011638736862655943:P:=p
theorem tw10123989817122485451:P:=p
theorem tw10140136200207757160:P:=p
theorem tw10159738436595150677:P:=p
theorem tw10169072693733980587:P:=p
theorem tw10199874654664476236:P:=p
theorem tw10204856939554784155:P:=p
theorem tw10255180020182114038:P:=p
theorem tw1027651156746619712:P:=p
theorem tw10334261112615635914:P:=p
theorem tw10363585996791799541:P:=p
theorem tw10404194590929265045:P:=p
theorem tw10418042200766032776:P:=p
theorem tw10450603732522932521:P:=p
theorem tw10455743928339290457:P:=p
theorem tw1046443281632482020:P:=p
theorem tw10483362588635715401:P:=p
theorem tw10554957952762445534:P:=p
theorem tw10567084921333377638:P:=p
theorem tw10642606787283503386:P:=p
theorem tw10652611922669240339:P:=p
theorem tw10665469846841522134:P:=p
theorem tw10669944970481658594:P:=p
theorem tw10707853282979444102:P:=p
theorem tw10715366876728099628:P:=p
theorem tw10813080517026676716:P:=p
theorem tw10821422270917381399:P:=p
theorem tw10876375607700338302:P:=p
theorem tw10896356407431480244:P:=p
theorem tw10924716458440934090:P:=p
theorem tw1092785777240315536:P:=p
theorem tw10939538800803721631:P:=p
theorem tw10987386120367425466:P:=p
theorem tw10992214633131536827:P:=p
theorem tw11041858737867550897:P:=p
theorem tw11049269918873537771:P:=p
theorem tw11086099901593105684:P:=p
theorem tw11092141859048813250:P:=p
theorem tw11101190512080308003:P:=p
theorem tw11119146913839337285:P:=p
theorem tw11129844816282181526:P:=p
theorem tw11135027115929721415:P:=p
theorem tw11181722664286889309:P:=p
theorem tw11183452524601008856:P:=p
theorem tw11218778669853930896:P:=p
theorem tw11229075413691439314:P:=p
theorem tw11239335112260394413:P:=p
theorem tw11251407683458634364:P:=p
theorem tw11349898740250378076:P:=p
theorem tw11374851513655246148:P:=p
theorem tw11388154006635350966:P:=p
theorem tw11403851563620829512:P:=p
theorem tw11405101455947879731:P:=p
theorem tw11410963132546700228:P:=p
theorem tw1142173933681417890:P:=p
theorem tw11461230924637031220:P:=p
theorem tw11487549891475536569:P:=p
theorem tw11531331273489700057:P:=p
theorem tw11554813239044494598:P:=p
theorem tw1157997071576566072:P:=p
theorem tw11595355409239048105:P:=p
theorem tw11614107205274993552:P:=p
theorem tw11646826074482590764:P:=p
theorem tw11670399090076514202:P:=p
theorem tw11676816360460091147:P:=p
theorem tw11692516046256081784:P:=p
theorem tw11710404883906591787:P:=p
theorem tw11716418206903941319:P:=p
theorem tw11774690029378154688:P:=p
theorem tw1178595665728414349:P:=p
theorem tw11789403723227289746:P:=p
theorem tw1179421589518002546:P:=p
theorem tw11815829001073249272:P:=p
theorem tw11904941031934877020:P:=p
theorem tw1191263595243908205:P:=p
theorem tw11923525502935528744:P:=p
theorem tw11967333016625521393:P:=p
theorem tw1198661942849946583:P:=p
theorem tw11987853993630220354:P:=p
theorem tw12006131722545458140:P:=p
theorem tw12014785543569010823:P:=p
theorem tw12027323910402764344:P:=p
theorem tw12093647306153771053:P:=p
theorem tw12118360930388700471:P:=p
theorem tw12130321265151566525:P:=p
theorem tw12134908399292295839:P:=p
theorem tw12139096438432415106:P:=p
theorem tw12170992721606120685:P:=p
theorem tw12205347405646519318:P:=p
theorem tw12245857906982125569:P:=p
theorem tw12252054271945606052:P:=p
theorem tw12255313618399501761:P:=p
theorem tw12332102779922042578:P:=p
theorem tw12361340156312767134:P:=p
theorem tw1236483940969888574:P:=p
theorem tw12429675835336498981:P:=p
theorem tw12431561837914552411:P:=p
theorem tw12455012482086183272:P:=p
theorem tw12471573661980249314:P:=p
theorem tw1255815211270559930:P:=p
theorem tw12570134572688502250:P:=p
theorem tw12582173479537470380:P:=p
theorem tw12590340796369385619:P:=p
theorem tw1259162542039736189:P:=p
theorem tw12608185968620612914:P:=p
theorem tw1261021989165538067:P:=p
theorem tw12623159325031504133:P:=p
theorem tw12646911602827044314:P:=p
theorem tw12670839924663504800:P:=p
theorem tw12692632004510240207:P:=p
theorem tw1269329923203890863:P:=p
theorem tw12755441557018050348:P:=p
theorem tw1277820614484962519:P:=p
theorem tw12785770307742301108:P:=p
theorem tw12800608258095302798:P:=p
theorem tw12839114828313443825:P:=p
theorem tw12867379429370454646:P:=p
theorem tw12885385263037960081:P:=p
theorem tw12909650291622432550:P:=p
theorem tw12927740378394474205:P:=p
theorem tw12941917028564957548:P:=p
theorem tw12942913107403878096:P:=p
theorem tw12958428809211121842:P:=p
theorem tw12974819211118642341:P:=p
theorem tw1306636233014830658:P:=p
theorem tw13077236301305049449:P:=p
theorem tw13132915859168520264:P:=p
theorem tw13154001654789283132:P:=p
theorem tw13154304371510637777:P:=p
theorem tw13157206579259725088:P:=p
theorem tw13180746182150919023:P:=p
theorem tw13187166440333854079:P:=p
theorem tw1318968915056948652:P:=p
theorem tw13194694976546938235:P:=p
theorem tw1319676515408343850:P:=p
theorem tw13227758891789653704:P:=p
theorem tw13227784636351994527:P:=p
theorem tw13255245976751338989:P:=p
theorem tw13348322127785295214:P:=p
theorem tw13350764725976880583:P:=p
theorem tw13355152605343272895:P:=p
theorem tw13429379312604010019:P:=p
theorem tw13514204307011423542:P:=p
theorem tw13532707612510029741:P:=p
theorem tw13572980719466306388:P:=p
theorem tw13626721169425172152:P:=p
theorem tw13642826006792871662:P:=p
theorem tw13713940216889387898:P:=p
theorem tw1372806426800153423:P:=p
theorem tw13803360072150633466:P:=p
theorem tw13965128551521907918:P:=p
theorem tw13974046611088194958:P:=p
theorem tw14020873708864708748:P:=p
theorem tw14027531716089632829:P:=p
theorem tw14061640607465278742:P:=p
theorem tw14064073609400967072:P:=p
theorem tw14064733516002010023:P:=p
theorem tw14097447854668400296:P:=p
theorem tw14106445559736802775:P:=p
theorem tw1411505708657685774:P:=p
theorem tw1415428593365352553:P:=p
theorem tw14216407083858561409:P:=p
theorem tw14218914174604095658:P:=p
theorem tw14286279103370969706:P:=p
theorem tw14327529596952217943:P:=p
theorem tw14336716466608126219:P:=p
theorem tw14364048958407549093:P:=p
theorem tw14368271195830560734:P:=p
theorem tw14406990849044604362:P:=p
theorem tw14457758005677747962:P:=p
theorem tw14489535830319231195:P:=p
theorem tw14504180641510445567:P:=p
theorem tw14513571923725367585:P:=p
theorem tw1453356044741674121:P:=p
theorem tw14562738103837258888:P:=p
theorem tw14635473669698735251:P:=p
theorem tw14698241182937546978:P:=p
theorem tw14722489848711283861:P:=p
theorem tw14805756002866571830:P:=p
theorem tw14849204138880929251:P:=p
theorem tw14859100970857779836:P:=p
theorem tw1486339892855113045:P:=p
theorem tw14864636224205547913:P:=p
theorem tw14893090268090260817:P:=p
theorem tw14907226015203709474:P:=p
theorem tw14962632401376961426:P:=p
theorem tw14969506733065549361:P:=p
theorem tw15022946984557111684:P:=p
theorem tw15023316991559800185:P:=p
theorem tw1504049600530537962:P:=p
theorem tw15059693217772790739:P:=p
theorem tw15060185592220127646:P:=p
theorem tw15062679425460387418:P:=p
theorem tw15087427406127887449:P:=p
theorem tw1508888042260471065:P:=p
theorem tw15097543051748444868:P:=p
theorem tw15109750227778091905:P:=p
theorem tw15136431859952498927:P:=p
theorem tw15225127925928830808:P:=p
theorem tw15237998210293483671:P:=p
theorem tw15282798724139172088:P:=p
theorem tw15303317825217679618:P:=p
theorem tw15312040371321221727:P:=p
theorem tw15312394840280087653:P:=p
theorem tw15342904991969174519:P:=p
theorem tw15356762974548107741:P:=p
theorem tw15365013842991253249:P:=p
theorem tw15410482203810522393:P:=p
theorem tw15418377640929051212:P:=p
theorem tw1544020853599562407:P:=p
theorem tw15465920861327815835:P:=p
theorem tw15467891735981029475:P:=p
theorem tw15514936471743626214:P:=p
theorem tw1552421926411342777:P:=p
theorem tw15579395750891953841:P:=p
theorem tw15580989882048331800:P:=p
theorem tw15589955886551607785:P:=p
theorem tw15595112118272840620:P:=p
theorem tw15616401959046598769:P:=p
theorem tw15656275678258859468:P:=p
theorem tw15670109119070698982:P:=p
theorem tw15684375888932747349:P:=p
theorem tw15688281317961992914:P:=p
theorem tw15734200111481486640:P:=p
theorem tw15810667371194948217:P:=p
theorem tw1587290215689348708:P:=p
theorem tw1590763530083325563:P:=p
theorem tw16008252555379753968:P:=p
theorem tw16026485685270457870:P:=p
theorem tw16026775910206950810:P:=p
theorem tw16035907590883218939:P:=p
theorem tw16057503054469045564:P:=p
theorem tw16064783912433017144:P:=p
theorem tw16102231251864390963:P:=p
theorem tw16136984950599521427:P:=p
theorem tw16153842264607907944:P:=p
theorem tw1617970632613561616:P:=p
theorem tw16187894506366716058:P:=p
theorem tw16274502184877008141:P:=p
theorem tw16292202817602668162:P:=p
theorem tw16305672181175384284:P:=p
theorem tw16320215318167395912:P:=p
theorem tw1632041292262086317:P:=p
theorem tw16338599768312175441:P:=p
theorem tw16356685582667847594:P:=p
theorem tw16411370214107742406:P:=p
theorem tw16451033083921036709:P:=p
theorem tw16452447596832230105:P:=p
theorem tw1645717771770832407:P:=p
theorem tw16501172079758305675:P:=p
theorem tw16641786646906312760:P:=p
theorem tw16651728564920304373:P:=p
theorem tw16656740534632174751:P:=p
theorem tw16676564476587882173:P:=p
theorem tw16696644119737139619:P:=p
theorem tw16757190730947197508:P:=p
theorem tw1677766988990989824:P:=p
theorem tw16790050636404226231:P:=p
theorem tw16806246253224384389:P:=p
theorem tw16817993663026736274:P:=p
theorem tw16819838333489098493:P:=p
theorem tw16832360635688203351:P:=p
theorem tw16852869491982429584:P:=p
theorem tw16877947373546393871:P:=p
theorem tw16923884221124529275:P:=p
theorem tw169701792822576828:P:=p
theorem tw17016820405989369747:P:=p
theorem tw17028514697001254897:P:=p
theorem tw17035731627637430848:P:=p
theorem tw17052023290607921161:P:=p
theorem tw17057053908230417247:P:=p
theorem tw17067035981215421688:P:=p
theorem tw1707505545463187130:P:=p
theorem tw17091655785135471103:P:=p
theorem tw17110241357884498264:P:=p
theorem tw17118054049896295152:P:=p
theorem tw17121411545882068716:P:=p
theorem tw17128476026691140212:P:=p
theorem tw17146568849442343683:P:=p
theorem tw17223442867436993403:P:=p
theorem tw17236958762192778904:P:=p
theorem tw17262041522474090127:P:=p
theorem tw17270198782204537913:P:=p
theorem tw17272174723667511238:P:=p
theorem tw17275675667316583603:P:=p
theorem tw17297283025540448806:P:=p
theorem tw17298271098590275757:P:=p
theorem tw17298425922696826006:P:=p
theorem tw17353955331779342651:P:=p
theorem tw17402982504261768225:P:=p
theorem tw17413806152003534235:P:=p
theorem tw17429019505603694559:P:=p
theorem tw17438294365789470252:P:=p
theorem tw17445186720391901401:P:=p
theorem tw17465928265306105389:P:=p
theorem tw17483187226009024675:P:=p
theorem tw17495560712657236704:P:=p
theorem tw17563168436475441343:P:=p
theorem tw17647351573629430322:P:=p
theorem tw17665120845849184447:P:=p
theorem tw17670765026644116465:P:=p
theorem tw17679725944135375923:P:=p
theorem tw17699438841360665129:P:=p
theorem tw17708487481403421675:P:=p
theorem tw17715262827843222689:P:=p
theorem tw17749094844149355310:P:=p
theorem tw17760185653835241220:P:=p
theorem tw17767330081159143506:P:=p
theorem tw1777545030009416734:P:=p
theorem tw17871620999419790863:P:=p
theorem tw17922808331100549178:P:=p
theorem tw17943756269633507525:P:=p
theorem tw17958375852430007124:P:=p
theorem tw18031918436515192882:P:=p
theorem tw18046886581883190830:P:=p
theorem tw18063282731904131703:P:=p
theorem tw18134284020713443437:P:=p
theorem tw18162592725011693541:P:=p
theorem tw18165044119631177899:P:=p
theorem tw18178676814319149831:P:=p
theorem tw18190005008629794160:P:=p
theorem tw18287795668848337631:P:=p
theorem tw18288009448212308685:P:=p
theorem tw18317609476662902477:P:=p
theorem tw18425317256667529438:P:=p
theorem tw18446094637698972617:P:=p
theorem tw1850612553970854742:P:=p
theorem tw1886080085820668685:P:=p
theorem tw1900339198761634783:P:=p
theorem tw1988493505195519617:P:=p
theorem tw2012372014189735793:P:=p
theorem tw2019394398466159022:P:=p
theorem tw2021556316718937628:P:=p
theorem tw2033968301974640842:P:=p
theorem tw2058021452347087232:P:=p
theorem tw2127038452521536779:P:=p
theorem tw2136821422063795447:P:=p
theorem tw2190695567426971638:P:=p
theorem tw2195194259037543316:P:=p
theorem tw221909299271738847:P:=p
theorem tw2225892363528398861:P:=p
theorem tw2238316416991798583:P:=p
theorem tw2278972029675796859:P:=p
theorem tw2287757881348798766:P:=p
theorem tw2337230598321646361:P:=p
theorem tw2343935838158425641:P:=p
theorem tw2373237607127697691:P:=p
theorem tw2387535157312909156:P:=p
theorem tw2399826469436781019:P:=p
theorem tw2428412748925179849:P:=p
theorem tw2442773178527959075:P:=p
theorem tw244467455267321384:P:=p
theorem tw2456247091588846565:P:=p
theorem tw2538046985915079169:P:=p
theorem tw2542808073141276813:P:=p
theorem tw2599750674813586877:P:=p
theorem tw2647654807098235363:P:=p
theorem tw2709746457059553413:P:=p
theorem tw2729793432009153956:P:=p
theorem tw2759098988195820126:P:=p
theorem tw2794983428953441941:P:=p
theorem tw2895952525429962455:P:=p
theorem tw2921621734765799159:P:=p
theorem tw2923326968966308885:P:=p
theorem tw2965820268544440810:P:=p
theorem tw302440914744352476:P:=p
theorem tw3033261876257692807:P:=p
theorem tw308427716283879934:P:=p
theorem tw3136416535801588117:P:=p
theorem tw3137596982192898869:P:=p
theorem tw3197156666308221516:P:=p
theorem tw3220561703981169602:P:=p
theorem tw3262662943086543052:P:=p
theorem tw3299218664060906527:P:=p
theorem tw3305931106042330821:P:=p
theorem tw3342365933539840098:P:=p
theorem tw3374421720907634814:P:=p
theorem tw3422715526262721465:P:=p
theorem tw3464005467892915075:P:=p
theorem tw3464709057266567092:P:=p
theorem tw3466206800631347469:P:=p
theorem tw3485684062173492111:P:=p
theorem tw3544752959273917758:P:=p
theorem tw3546150205236023746:P:=p
theorem tw3570300971023340979:P:=p
theorem tw3583811862363856187:P:=p
theorem tw3624570545991256765:P:=p
theorem tw3635900802997115186:P:=p
theorem tw3706830351922483016:P:=p
theorem tw3724484323120607773:P:=p
theorem tw372505627349444580:P:=p
theorem tw3748114642381145586:P:=p
theorem tw3750506576032048294:P:=p
theorem tw3796207824708393856:P:=p
theorem tw3848698983108048278:P:=p
theorem tw387501639795913443:P:=p
theorem tw3881243767933311072:P:=p
theorem tw3890979946229291994:P:=p
theorem tw3894110980201357972:P:=p
theorem tw3934531018447913466:P:=p
theorem tw3938019374604804178:P:=p
theorem tw3958507339218470045:P:=p
theorem tw3994622017586750766:P:=p
theorem tw4034048572721927537:P:=p
theorem tw4038153913678941442:P:=p
theorem tw4047586217144654443:P:=p
theorem tw4088224383575840552:P:=p
theorem tw4113755845371447061:P:=p
theorem tw4156125974679941130:P:=p
theorem tw4189750870438640210:P:=p
theorem tw4216741518440994707:P:=p
theorem tw4244067443239231564:P:=p
theorem tw4258463428174104133:P:=p
theorem tw4261964983698606537:P:=p
theorem tw4310270188432123100:P:=p
theorem tw4324958949535026087:P:=p
theorem tw432790634136133436:P:=p
theorem tw4333880214566435006:P:=p
theorem tw4359638763739663684:P:=p
theorem tw4418851951343286344:P:=p
theorem tw4452170602077327944:P:=p
theorem tw4458048076830672230:P:=p
theorem tw4475767826048309731:P:=p
theorem tw4491334807805099456:P:=p
theorem tw4502447428920916452:P:=p
theorem tw451873465583785326:P:=p
theorem tw4585930131862741453:P:=p
theorem tw4630824681090250767:P:=p
theorem tw4681395471914393968:P:=p
theorem tw470481871638761223:P:=p
theorem tw4741876487499883015:P:=p
theorem tw474381771622712015:P:=p
theorem tw4749052000479324790:P:=p
theorem tw4766233809647381661:P:=p
theorem tw4812270449578504274:P:=p
theorem tw4816531377298285970:P:=p
theorem tw4838787530573997063:P:=p
theorem tw4839478117068044826:P:=p
theorem tw48596604365144762:P:=p
theorem tw4871624949866520906:P:=p
theorem tw4908570168794737769:P:=p
theorem tw4925372942624916201:P:=p
theorem tw496732070673839287:P:=p
theorem tw49674306023711395:P:=p
theorem tw4977165927707633593:P:=p
theorem tw5004366561265856203:P:=p
theorem tw5010051100324977839:P:=p
theorem tw5104194264097766351:P:=p
theorem tw5181119749688162637:P:=p
theorem tw5203219222101121401:P:=p
theorem tw5240536507193477226:P:=p
theorem tw5268168578311729375:P:=p
theorem tw5287059835090251167:P:=p
theorem tw5309058905264134205:P:=p
theorem tw5343319030673445083:P:=p
theorem tw5378808338967829844:P:=p
theorem tw5396188567872606041:P:=p
theorem tw5450094653865882931:P:=p
theorem tw5460091804258272057:P:=p
theorem tw5461779845614304980:P:=p
theorem tw5491092008493831813:P:=p
theorem tw5502569546826302122:P:=p
theorem tw5517759331935216279:P:=p
theorem tw5532463470591059822:P:=p
theorem tw5534937755968359062:P:=p
theorem tw5567732340971880690:P:=p
theorem tw5616070069386785504:P:=p
theorem tw5623159541915647742:P:=p
theorem tw5632948755005780175:P:=p
theorem tw5638201095994319732:P:=p
theorem tw5665406974723832613:P:=p
theorem tw5665735395497279834:P:=p
theorem tw5677329702179833609:P:=p
theorem tw5790326737455844299:P:=p
theorem tw5831584030425509755:P:=p
theorem tw5839530249802149432:P:=p
theorem tw5871769198996169552:P:=p
theorem tw5873463020976553958:P:=p
theorem tw5900072995565114194:P:=p
theorem tw5942767615974559732:P:=p
theorem tw6007601674543666084:P:=p
theorem tw6053611964639427726:P:=p
theorem tw6077985808864993224:P:=p
theorem tw6106196091520820027:P:=p
theorem tw613567027398061577:P:=p
theorem tw6164561884633627433:P:=p
theorem tw6222487380544312443:P:=p
theorem tw6254453501864316152:P:=p
theorem tw6341409668436394099:P:=p
theorem tw6385024630547198690:P:=p
theorem tw6404898279339705064:P:=p
theorem tw6418098437765475518:P:=p
theorem tw6418202794160714309:P:=p
theorem tw6425626318312657004:P:=p
theorem tw645136716886899192:P:=p
theorem tw6511744376749373798:P:=p
theorem tw6516198228755648517:P:=p
theorem tw6535589618603614281:P:=p
theorem tw6557543464795787104:P:=p
theorem tw65644731488775911:P:=p
theorem tw6565609875121592624:P:=p
theorem tw657867468410044558:P:=p
theorem tw6584820252761975732:P:=p
theorem tw6632538468102435922:P:=p
theorem tw6655696309031964122:P:=p
theorem tw6657087868060814:P:=p
theorem tw6674386428176565332:P:=p
theorem tw6674893403203295414:P:=p
theorem tw6690441779611380620:P:=p
theorem tw6702130215012162313:P:=p
theorem tw6722078155103684173:P:=p
theorem tw6741292078354696603:P:=p
theorem tw6768520987592691376:P:=p
theorem tw6785657489111691699:P:=p
theorem tw6801380410627298636:P:=p
theorem tw6855474311058116810:P:=p
theorem tw6862492499505807319:P:=p
theorem tw6868236387235032019:P:=p
theorem tw6910295442248876197:P:=p
theorem tw6914184659022975773:P:=p
theorem tw6981580820607432535:P:=p
theorem tw7000664437366286474:P:=p
theorem tw7010351842590255796:P:=p
theorem tw7054876372555587774:P:=p
theorem tw7070123817558143148:P:=p
theorem tw7108953243070827183:P:=p
theorem tw7139307881021679148:P:=p
theorem tw7159657910766400284:P:=p
theorem tw716429049611869786:P:=p
theorem tw7173623326730630234:P:=p
theorem tw7186131708394509389:P:=p
theorem tw7214478077546791972:P:=p
theorem tw7235775444256392728:P:=p
theorem tw7237411587787531456:P:=p
theorem tw7268301785047649679:P:=p
theorem tw7273056430967151046:P:=p
theorem tw7297187181890747607:P:=p
theorem tw7298748307773712898:P:=p
theorem tw7332330508316399935:P:=p
theorem tw7380652910202371479:P:=p
theorem tw7384337071449756822:P:=p
theorem tw7439787175107056256:P:=p
theorem tw7483713754202142201:P:=p
theorem tw7487416344156704005:P:=p
theorem tw7514964652732493775:P:=p
theorem tw7521444476212097132:P:=p
theorem tw7554534293552944094:P:=p
theorem tw7563215957194029611:P:=p
theorem tw7623509227018997848:P:=p
theorem tw7623511443260959870:P:=p
theorem tw7624122152786673341:P:=p
theorem tw7675930258259734528:P:=p
theorem tw7697325545964645800:P:=p
theorem tw773767117563974971:P:=p
theorem tw7751025194823839400:P:=p
theorem tw7761410557224570781:P:=p
theorem tw7846812961960373227:P:=p
theorem tw785246043732427063:P:=p
theorem tw7860819179221955721:P:=p
theorem tw7884273913378172499:P:=p
theorem tw7918788097839900725:P:=p
theorem tw7929197687748531871:P:=p
theorem tw7943094425149488825:P:=p
theorem tw796168687070700412:P:=p
theorem tw7969568635172688411:P:=p
theorem tw7972779244933481256:P:=p
theorem tw7974275031393228247:P:=p
theorem tw8006537069960932158:P:=p
theorem tw8046773169563483271:P:=p
theorem tw8048513629629015766:P:=p
theorem tw8060562821785662972:P:=p
theorem tw8074507844701363242:P:=p
theorem tw8079908401900000222:P:=p
theorem tw8118072479153026202:P:=p
theorem tw8265370782698574782:P:=p
theorem tw8312829660672013939:P:=p
theorem tw8344989883159853150:P:=p
theorem tw834873547066669988:P:=p
theorem tw8394416109485655870:P:=p
theorem tw8402242094647718915:P:=p
theorem tw8436210846270712021:P:=p
theorem tw8440099810896429113:P:=p
theorem tw8465960824934942068:P:=p
theorem tw8466321980469482115:P:=p
theorem tw8478376212529829071:P:=p
theorem tw8492455212021363390:P:=p
theorem tw8496349624203035976:P:=p
theorem tw8548823596671561066:P:=p
theorem tw8565580760176719406:P:=p
theorem tw861011362418597151:P:=p
theorem tw8627561154394265716:P:=p
theorem tw8634654232796393261:P:=p
theorem tw8651587035891514320:P:=p
theorem tw8808949154728543533:P:=p
theorem tw8809968196449919288:P:=p
theorem tw8905464785575363620:P:=p
theorem tw8905992674379837232:P:=p
theorem tw8930851030842425676:P:=p
theorem tw8934699018898702947:P:=p
theorem tw8952462522180670554:P:=p
theorem tw8989776476301544223:P:=p
theorem tw9008387529505557929:P:=p
theorem tw9069182735580402390:P:=p
theorem tw9071729483887776986:P:=p
theorem tw907572574359809234:P:=p
theorem tw9131807755668617818:P:=p
theorem tw9155575984036265788:P:=p
theorem tw9161159452563919750:P:=p
theorem tw917386388269078853:P:=p
theorem tw9175052073728820173:P:=p
theorem tw9189880136782149556:P:=p
theorem tw9247501659233101145:P:=p
theorem tw9264652385812556125:P:=p
theorem tw9265829497004654079:P:=p
theorem tw9272984997812220495:P:=p
theorem tw9287587430799945685:P:=p
theorem tw9321267617633783869:P:=p
theorem tw9360745474812902239:P:=p
theorem tw9368617206455126095:P:=p
theorem tw9381886862466946253:P:=p
theorem tw9432497158254318119:P:=p
theorem tw9470667924834194258:P:=p
theorem tw9508770018378322450:P:=p
theorem tw9557352009045844224:P:=p
theorem tw9573086628692744296:P:=p
theorem tw9608646114965807792:P:=p
theorem tw961187720498965250:P:=p
theorem tw9653258972835725974:P:=p
theorem tw9658885295015712986:P:=p
theorem tw9703084557020090508:P:=p
theorem tw9716624006974247489:P:=p
theorem tw9747897558166968733:P:=p
theorem tw979501456738626862:P:=p
theorem tw983542388872702638:P:=p
theorem tw9840939614602229412:P:=p
theorem tw9848185148710128376:P:=p
theorem tw9897820754763898449:P:=p
theorem tw9903775340124721222:P:=p
theorem tw9939699701984659387:P:=p
theorem tw9942282790977331292:P:=p
theorem tw9957550378297406723:P:=p
theorem tw9976160756891316704:P:=p
theorem tw5640866677994401631:P:=p
theorem tw18314030237341378967:P:=p
theorem tw8498208062204600964:P:=p
theorem tw5580514562137146073:P:=p
theorem tw10575598401668714834:P:=p
theorem tw5121153347736447818:P:=p
theorem tw407388710113484855:P:=p
theorem tw3381596553789646108:P:=p
theorem tw13572185129597041319:P:=p
theorem tw14132078511458169881:P:=p
theorem tw10706498449593244824:P:=p
theorem tw17402577758897952588:P:=p
theorem tw7582941468912647488:P:=p
theorem tw12266915430059719697:P:=p
theorem tw15979963037960152478:P:=p
theorem tw7994248513215652220:P:=p
theorem tw10345030745644818601:P:=p
theorem tw2416900922302070851:P:=p
theorem tw3174076857064716850:P:=p
theorem tw2328782988948903628:P:=p
theorem tw13371496144765448034:P:=p
end Mine.main
set_option backward.match.sparseCases false
set_option genSizeOf false
set_option genInjectivity false
set_option Elab.async false
set_option maxRecDepth 100000
set_option maxHeartbeats 0
set_option linter.unusedVariables false
namespace Mine
universe u
noncomputable section
noncomputable def cond {α : Sort u} (b : Bool) (x y : α) : α := Bool.rec y x b
theorem q2l {α : Sort u} {x y : α} : cond true x y = x := rfl
theorem q13 {α : Sort u} {x y : α} : cond false x y = y := rfl
theorem ns {α : Type u} {x : α} {P : Prop} (h : none = some x) : P := by cases h
theorem sn {α : Type u} {x : α} {P : Prop} (h : some x = none) : P := by cases h
theorem ft {P : Prop} (h : false = true) : P := by cases h
theorem q0c {α : Type} {b : Bool} {r : Option α} {v : α} (h : cond b r none = some v) : b = true /\ r = some v := by
 induction b using Bool.casesOn with
 | true => exact ⟨rfl, h⟩
 | false => exact ns h
theorem q0u {c : Prop} [Decidable c] {α : Type} {r v : α} (h : (if c then some r else none) = some v) : c /\ r = v := by
 by_cases hc : c
 . rw [if_pos hc] at h; exact ⟨hc, Option.some.inj h⟩
 . rw [if_neg hc] at h; exact ns h
theorem q3r {c d : Prop} [Decidable c] [Decidable d] {α : Type} {r s v : α} (h : (if c then some r else if d then some s else none) = some v) : (c /\ r = v) \/ (d /\ s = v) := by
 by_cases hc : c
 . rw [if_pos hc] at h; exact .inl ⟨hc, Option.some.inj h⟩
 . rw [if_neg hc] at h; exact .inr (q0u h)
theorem z7d {c : Prop} [Decidable c] {α : Type} {r v : α} (h : (if c then none else some r) = some v) : ¬ c /\ r = v := by
 by_cases hc : c
 . rw [if_pos hc] at h; exact ns h
 . rw [if_neg hc] at h; exact ⟨hc, Option.some.inj h⟩
theorem q3q {c : Prop} [Decidable c] {α : Type u} {C : α -> Prop} {x y : α} (h1 : c -> C x) (h2 : ¬ c -> C y) : C (if c then x else y) := by
 by_cases hc : c
 . rw [if_pos hc]; exact h1 hc
 . rw [if_neg hc]; exact h2 hc
noncomputable def one {α : Type} (l : List α) : Option α := List.casesOn l none fun a l => List.casesOn l (some a) fun W0 W0 => none
theorem q0y {α : Type} {l : List α} {a : α} (h : one l = some a) : l = [a] := by
 induction l using List.casesOn with
 | nil => exact ns h
 | cons b l =>
   induction l using List.casesOn with
   | nil => exact Option.some.inj h ▸ rfl
   | cons _ _ => exact ns h
noncomputable def two {α : Type} (l : List α) : Option (α × α) := List.casesOn l none fun a l => (one l).map fun b => (a, b)
theorem two_is {α : Type} {l : List α} {q : α × α} (h : two l = some q) : l = [q.1, q.2] := by
 induction l using List.casesOn with
 | nil => exact ns h
 | cons a l =>
   obtain ⟨b, h1, rfl⟩ := Option.map_eq_some_iff.mp (show (one l).map _ = some q from h)
   rw [q0y h1]
noncomputable def three {α : Type} (l : List α) : Option (α × α × α) := List.casesOn l none fun a l => (two l).map fun b => (a, b)
theorem q30 {α : Type} {l : List α} {q : α × α × α} (h : three l = some q) : l = [q.1, q.2.1, q.2.2] := by
 induction l using List.casesOn with
 | nil => exact ns h
 | cons a l =>
   obtain ⟨b, h1, rfl⟩ := Option.map_eq_some_iff.mp (show (two l).map _ = some q from h)
   rw [two_is h1]
theorem tf {P : Prop} (h : true = false) : P := by cases h
theorem any_is {α : Type} {o : Option α} {p : α -> Bool} (h : o.any p = true) : ∃ a, o = some a /\ p a = true := by
 induction o using Option.casesOn with
 | none => exact ft h
 | some a => exact ⟨a, rfl, h⟩
theorem obi {α β : Type _} {o : Option α} {f : α -> Option β} {b : β} (e : o.bind f = some b) : ∃ a, o = some a /\ f a = some b := Option.bind_eq_some_iff.mp e
theorem omi {α β : Type _} {o : Option α} {f : α -> β} {b : β} (e : o.map f = some b) : ∃ a, o = some a /\ f a = b := Option.map_eq_some_iff.mp e
theorem mc {α : Type _} {a b : α} {l : List α} (h : a ∈ b :: l) : a = b \/ a ∈ l := List.mem_cons.mp h
theorem oi {α : Type _} {a b : α} (h : some a = some b) : a = b := Option.some.inj h
theorem orb {a b : Bool} (h : (a || b) = true) : a = true \/ b = true := (Bool.or_eq_true a b).mp h
theorem aet {α : Type _} {p : α -> Bool} {l : List α} (h : l.all p = true) (x : α) (m : x ∈ l) : p x = true := List.all_eq_true.mp h x m
theorem zns {α : Type u} {x : α} {P : Prop} (h : none = some x) : P := by cases h
theorem zsn {α : Type u} {x : α} {P : Prop} (h : some x = none) : P := by cases h
theorem zft {P : Prop} (h : false = true) : P := by cases h
theorem ztf {P : Prop} (h : true = false) : P := by cases h
theorem q0m {a b : Bool} (h : (a && b) = true) : a = true /\ b = true := (Bool.and_eq_true a b).mp h
theorem q5z {a : Bool} (h : (!a) = true) : a = false := (Bool.not_eq_true' a).mp h
theorem oc_is {α β : Type} {o : Option α} {f : α -> Option β} {b : β} (h : Option.casesOn (motive := fun W0 => Option β) o none f = some b) : ∃ a, o = some a /\ f a = some b := by
 induction o using Option.casesOn with
 | none => exact ns h
 | some a => exact ⟨a, rfl, h⟩
theorem e02 {p0 p1 : Prop} {G : Prop} (h : p0 /\ p1) (k : p0 -> p1 -> G) : G := k h.1 h.2
theorem e03 {p0 p1 p2 : Prop} {G : Prop} (h : p0 /\ p1 /\ p2) (k : p0 -> p1 -> p2 -> G) : G := e02 h.2 (k h.1)
theorem e04 {p0 p1 p2 p3 : Prop} {G : Prop} (h : p0 /\ p1 /\ p2 /\ p3) (k : p0 -> p1 -> p2 -> p3 -> G) : G := e03 h.2 (k h.1)
theorem e05 {p0 p1 p2 p3 p4 : Prop} {G : Prop} (h : p0 /\ p1 /\ p2 /\ p3 /\ p4) (k : p0 -> p1 -> p2 -> p3 -> p4 -> G) : G := e04 h.2 (k h.1)
theorem e06 {p0 p1 p2 p3 p4 p5 : Prop} {G : Prop} (h : p0 /\ p1 /\ p2 /\ p3 /\ p4 /\ p5) (k : p0 -> p1 -> p2 -> p3 -> p4 -> p5 -> G) : G := e05 h.2 (k h.1)
theorem e07 {p0 p1 p2 p3 p4 p5 p6 : Prop} {G : Prop} (h : p0 /\ p1 /\ p2 /\ p3 /\ p4 /\ p5 /\ p6) (k : p0 -> p1 -> p2 -> p3 -> p4 -> p5 -> p6 -> G) : G := e06 h.2 (k h.1)
theorem e11 {A0 : Sort _} {p0 : A0 -> Prop} {G : Prop} (h : ∃ x0, p0 x0) (k : ∀ x0, p0 x0 -> G) : G := h.elim k
theorem e12 {A0 : Sort _} {p0 p1 : A0 -> Prop} {G : Prop} (h : ∃ x0, p0 x0 /\ p1 x0) (k : ∀ x0, p0 x0 -> p1 x0 -> G) : G := h.elim fun x h => e02 h (k x)
theorem e13 {A0 : Sort _} {p0 p1 p2 : A0 -> Prop} {G : Prop} (h : ∃ x0, p0 x0 /\ p1 x0 /\ p2 x0) (k : ∀ x0, p0 x0 -> p1 x0 -> p2 x0 -> G) : G := h.elim fun x h => e03 h (k x)
theorem e14 {A0 : Sort _} {p0 p1 p2 p3 : A0 -> Prop} {G : Prop} (h : ∃ x0, p0 x0 /\ p1 x0 /\ p2 x0 /\ p3 x0) (k : ∀ x0, p0 x0 -> p1 x0 -> p2 x0 -> p3 x0 -> G) : G := h.elim fun x h => e04 h (k x)
theorem e15 {A0 : Sort _} {p0 p1 p2 p3 p4 : A0 -> Prop} {G : Prop} (h : ∃ x0, p0 x0 /\ p1 x0 /\ p2 x0 /\ p3 x0 /\ p4 x0) (k : ∀ x0, p0 x0 -> p1 x0 -> p2 x0 -> p3 x0 -> p4 x0 -> G) : G := h.elim fun x h => e05 h (k x)
theorem e16 {A0 : Sort _} {p0 p1 p2 p3 p4 p5 : A0 -> Prop} {G : Prop} (h : ∃ x0, p0 x0 /\ p1 x0 /\ p2 x0 /\ p3 x0 /\ p4 x0 /\ p5 x0) (k : ∀ x0, p0 x0 -> p1 x0 -> p2 x0 -> p3 x0 -> p4 x0 -> p5 x0 -> G) : G := h.elim fun x h => e06 h (k x)
theorem e17 {A0 : Sort _} {p0 p1 p2 p3 p4 p5 p6 : A0 -> Prop} {G : Prop} (h : ∃ x0, p0 x0 /\ p1 x0 /\ p2 x0 /\ p3 x0 /\ p4 x0 /\ p5 x0 /\ p6 x0) (k : ∀ x0, p0 x0 -> p1 x0 -> p2 x0 -> p3 x0 -> p4 x0 -> p5 x0 -> p6 x0 -> G) : G := h.elim fun x h => e07 h (k x)
theorem e21 {A0 : Sort _} {A1 : Sort _} {p0 : A0 -> A1 -> Prop} {G : Prop} (h : ∃ x0 x1, p0 x0 x1) (k : ∀ x0 x1, p0 x0 x1 -> G) : G := h.elim fun x h => e11 h (k x)
theorem e22 {A0 : Sort _} {A1 : Sort _} {p0 p1 : A0 -> A1 -> Prop} {G : Prop} (h : ∃ x0 x1, p0 x0 x1 /\ p1 x0 x1) (k : ∀ x0 x1, p0 x0 x1 -> p1 x0 x1 -> G) : G := h.elim fun x h => e12 h (k x)
theorem e23 {A0 : Sort _} {A1 : Sort _} {p0 p1 p2 : A0 -> A1 -> Prop} {G : Prop} (h : ∃ x0 x1, p0 x0 x1 /\ p1 x0 x1 /\ p2 x0 x1) (k : ∀ x0 x1, p0 x0 x1 -> p1 x0 x1 -> p2 x0 x1 -> G) : G := h.elim fun x h => e13 h (k x)
theorem e24 {A0 : Sort _} {A1 : Sort _} {p0 p1 p2 p3 : A0 -> A1 -> Prop} {G : Prop} (h : ∃ x0 x1, p0 x0 x1 /\ p1 x0 x1 /\ p2 x0 x1 /\ p3 x0 x1) (k : ∀ x0 x1, p0 x0 x1 -> p1 x0 x1 -> p2 x0 x1 -> p3 x0 x1 -> G) : G := h.elim fun x h => e14 h (k x)
theorem e25 {A0 : Sort _} {A1 : Sort _} {p0 p1 p2 p3 p4 : A0 -> A1 -> Prop} {G : Prop} (h : ∃ x0 x1, p0 x0 x1 /\ p1 x0 x1 /\ p2 x0 x1 /\ p3 x0 x1 /\ p4 x0 x1) (k : ∀ x0 x1, p0 x0 x1 -> p1 x0 x1 -> p2 x0 x1 -> p3 x0 x1 -> p4 x0 x1 -> G) : G := h.elim fun x h => e15 h (k x)
theorem e26 {A0 : Sort _} {A1 : Sort _} {p0 p1 p2 p3 p4 p5 : A0 -> A1 -> Prop} {G : Prop} (h : ∃ x0 x1, p0 x0 x1 /\ p1 x0 x1 /\ p2 x0 x1 /\ p3 x0 x1 /\ p4 x0 x1 /\ p5 x0 x1) (k : ∀ x0 x1, p0 x0 x1 -> p1 x0 x1 -> p2 x0 x1 -> p3 x0 x1 -> p4 x0 x1 -> p5 x0 x1 -> G) : G := h.elim fun x h => e16 h (k x)
theorem e27 {A0 : Sort _} {A1 : Sort _} {p0 p1 p2 p3 p4 p5 p6 : A0 -> A1 -> Prop} {G : Prop} (h : ∃ x0 x1, p0 x0 x1 /\ p1 x0 x1 /\ p2 x0 x1 /\ p3 x0 x1 /\ p4 x0 x1 /\ p5 x0 x1 /\ p6 x0 x1) (k : ∀ x0 x1, p0 x0 x1 -> p1 x0 x1 -> p2 x0 x1 -> p3 x0 x1 -> p4 x0 x1 -> p5 x0 x1 -> p6 x0 x1 -> G) : G := h.elim fun x h => e17 h (k x)
theorem e31 {A0 : Sort _} {A1 : Sort _} {A2 : Sort _} {p0 : A0 -> A1 -> A2 -> Prop} {G : Prop} (h : ∃ x0 x1 x2, p0 x0 x1 x2) (k : ∀ x0 x1 x2, p0 x0 x1 x2 -> G) : G := h.elim fun x h => e21 h (k x)
theorem e32 {A0 : Sort _} {A1 : Sort _} {A2 : Sort _} {p0 p1 : A0 -> A1 -> A2 -> Prop} {G : Prop} (h : ∃ x0 x1 x2, p0 x0 x1 x2 /\ p1 x0 x1 x2) (k : ∀ x0 x1 x2, p0 x0 x1 x2 -> p1 x0 x1 x2 -> G) : G := h.elim fun x h => e22 h (k x)
theorem e33 {A0 : Sort _} {A1 : Sort _} {A2 : Sort _} {p0 p1 p2 : A0 -> A1 -> A2 -> Prop} {G : Prop} (h : ∃ x0 x1 x2, p0 x0 x1 x2 /\ p1 x0 x1 x2 /\ p2 x0 x1 x2) (k : ∀ x0 x1 x2, p0 x0 x1 x2 -> p1 x0 x1 x2 -> p2 x0 x1 x2 -> G) : G := h.elim fun x h => e23 h (k x)
theorem e34 {A0 : Sort _} {A1 : Sort _} {A2 : Sort _} {p0 p1 p2 p3 : A0 -> A1 -> A2 -> Prop} {G : Prop} (h : ∃ x0 x1 x2, p0 x0 x1 x2 /\ p1 x0 x1 x2 /\ p2 x0 x1 x2 /\ p3 x0 x1 x2) (k : ∀ x0 x1 x2, p0 x0 x1 x2 -> p1 x0 x1 x2 -> p2 x0 x1 x2 -> p3 x0 x1 x2 -> G) : G := h.elim fun x h => e24 h (k x)
theorem e35 {A0 : Sort _} {A1 : Sort _} {A2 : Sort _} {p0 p1 p2 p3 p4 : A0 -> A1 -> A2 -> Prop} {G : Prop} (h : ∃ x0 x1 x2, p0 x0 x1 x2 /\ p1 x0 x1 x2 /\ p2 x0 x1 x2 /\ p3 x0 x1 x2 /\ p4 x0 x1 x2) (k : ∀ x0 x1 x2, p0 x0 x1 x2 -> p1 x0 x1 x2 -> p2 x0 x1 x2 -> p3 x0 x1 x2 -> p4 x0 x1 x2 -> G) : G := h.elim fun x h => e25 h (k x)
theorem e36 {A0 : Sort _} {A1 : Sort _} {A2 : Sort _} {p0 p1 p2 p3 p4 p5 : A0 -> A1 -> A2 -> Prop} {G : Prop} (h : ∃ x0 x1 x2, p0 x0 x1 x2 /\ p1 x0 x1 x2 /\ p2 x0 x1 x2 /\ p3 x0 x1 x2 /\ p4 x0 x1 x2 /\ p5 x0 x1 x2) (k : ∀ x0 x1 x2, p0 x0 x1 x2 -> p1 x0 x1 x2 -> p2 x0 x1 x2 -> p3 x0 x1 x2 -> p4 x0 x1 x2 -> p5 x0 x1 x2 -> G) : G := h.elim fun x h => e26 h (k x)
theorem e42 {A0 : Sort _} {A1 : Sort _} {A2 : Sort _} {A3 : Sort _} {p0 p1 : A0 -> A1 -> A2 -> A3 -> Prop} {G : Prop} (h : ∃ x0 x1 x2 x3, p0 x0 x1 x2 x3 /\ p1 x0 x1 x2 x3) (k : ∀ x0 x1 x2 x3, p0 x0 x1 x2 x3 -> p1 x0 x1 x2 x3 -> G) : G := h.elim fun x h => e32 h (k x)
theorem e43 {A0 : Sort _} {A1 : Sort _} {A2 : Sort _} {A3 : Sort _} {p0 p1 p2 : A0 -> A1 -> A2 -> A3 -> Prop} {G : Prop} (h : ∃ x0 x1 x2 x3, p0 x0 x1 x2 x3 /\ p1 x0 x1 x2 x3 /\ p2 x0 x1 x2 x3) (k : ∀ x0 x1 x2 x3, p0 x0 x1 x2 x3 -> p1 x0 x1 x2 x3 -> p2 x0 x1 x2 x3 -> G) : G := h.elim fun x h => e33 h (k x)
theorem e44 {A0 : Sort _} {A1 : Sort _} {A2 : Sort _} {A3 : Sort _} {p0 p1 p2 p3 : A0 -> A1 -> A2 -> A3 -> Prop} {G : Prop} (h : ∃ x0 x1 x2 x3, p0 x0 x1 x2 x3 /\ p1 x0 x1 x2 x3 /\ p2 x0 x1 x2 x3 /\ p3 x0 x1 x2 x3) (k : ∀ x0 x1 x2 x3, p0 x0 x1 x2 x3 -> p1 x0 x1 x2 x3 -> p2 x0 x1 x2 x3 -> p3 x0 x1 x2 x3 -> G) : G := h.elim fun x h => e34 h (k x)
theorem e45 {A0 : Sort _} {A1 : Sort _} {A2 : Sort _} {A3 : Sort _} {p0 p1 p2 p3 p4 : A0 -> A1 -> A2 -> A3 -> Prop} {G : Prop} (h : ∃ x0 x1 x2 x3, p0 x0 x1 x2 x3 /\ p1 x0 x1 x2 x3 /\ p2 x0 x1 x2 x3 /\ p3 x0 x1 x2 x3 /\ p4 x0 x1 x2 x3) (k : ∀ x0 x1 x2 x3, p0 x0 x1 x2 x3 -> p1 x0 x1 x2 x3 -> p2 x0 x1 x2 x3 -> p3 x0 x1 x2 x3 -> p4 x0 x1 x2 x3 -> G) : G := h.elim fun x h => e35 h (k x)
theorem e53 {A0 : Sort _} {A1 : Sort _} {A2 : Sort _} {A3 : Sort _} {A4 : Sort _} {p0 p1 p2 : A0 -> A1 -> A2 -> A3 -> A4 -> Prop} {G : Prop} (h : ∃ x0 x1 x2 x3 x4, p0 x0 x1 x2 x3 x4 /\ p1 x0 x1 x2 x3 x4 /\ p2 x0 x1 x2 x3 x4) (k : ∀ x0 x1 x2 x3 x4, p0 x0 x1 x2 x3 x4 -> p1 x0 x1 x2 x3 x4 -> p2 x0 x1 x2 x3 x4 -> G) : G := h.elim fun x h => e43 h (k x)
theorem e63 {A0 : Sort _} {A1 : Sort _} {A2 : Sort _} {A3 : Sort _} {A4 : Sort _} {A5 : Sort _} {p0 p1 p2 : A0 -> A1 -> A2 -> A3 -> A4 -> A5 -> Prop} {G : Prop} (h : ∃ x0 x1 x2 x3 x4 x5, p0 x0 x1 x2 x3 x4 x5 /\ p1 x0 x1 x2 x3 x4 x5 /\ p2 x0 x1 x2 x3 x4 x5) (k : ∀ x0 x1 x2 x3 x4 x5, p0 x0 x1 x2 x3 x4 x5 -> p1 x0 x1 x2 x3 x4 x5 -> p2 x0 x1 x2 x3 x4 x5 -> G) : G := h.elim fun x h => e53 h (k x)
@[elab_as_elim] theorem rwm {α : Sort u} {a b : α} {motive : α -> Prop} (h : a = b) (x : motive b) : motive a := h ▸ x
@[elab_as_elim] theorem rwb {α : Sort u} {a b : α} {motive : α -> Prop} (h : b = a) (x : motive b) : motive a := h ▸ x
@[elab_as_elim] theorem q1v {α : Type _} {motive : Option α -> Prop} (o : Option α) (n : o = none -> motive none) (s : ∀ a, o = some a -> motive (some a)) : motive o := Option.rec (motive := fun x => o = x -> motive x) n s o rfl
@[elab_as_elim] theorem z3w {α : Type _} {motive : Option α -> Prop} (o : Option α) (s : ∀ a, o = some a -> motive (some a)) (n : o = none -> motive none) : motive o := Option.rec (motive := fun x => o = x -> motive x) n s o rfl
@[elab_as_elim] theorem z9u {motive : Bool -> Prop} (o : Bool) (n : o = false -> motive false) (s : o = true -> motive true) : motive o := Bool.rec (motive := fun x => o = x -> motive x) n s o rfl
@[elab_as_elim] theorem q27 {motive : Bool -> Prop} (o : Bool) (s : o = true -> motive true) (n : o = false -> motive false) : motive o := Bool.rec (motive := fun x => o = x -> motive x) n s o rfl
theorem hid {G : Prop} (h : (G -> False) -> False) : G := Classical.byContradiction h
theorem ep2 {A B : Type _} {p q : A × B -> Prop} {G : Prop} (h : ∃ x, p x /\ q x) (k : ∀ a b, p (a, b) -> q (a, b) -> G) : G := h.elim fun x h => k x.1 x.2 h.1 h.2
noncomputable def o8 (n : Nat) : UInt8 := UInt8.ofNat n
noncomputable def q0n (n : Nat) : List UInt8 := [o8 (n / 256), o8 n]
noncomputable def q1y (n : Nat) : List UInt8 := q0n (n / 65536) ++ q0n (n % 65536)
noncomputable def sum16 : List UInt8 -> Nat
 | [] => 0
 | [a] => a.toNat * 256
 | a :: b :: r => a.toNat * 256 + b.toNat + sum16 r
noncomputable def fold16 (n : Nat) : Nat := if n = 0 then 0 else (n - 1) % 65535 + 1
noncomputable def chk (l : List UInt8) : Nat := 65535 - fold16 (sum16 l)
inductive Dm where
 | set (l : List Int)
 | rng (lo hi : Int)
deriving DecidableEq
noncomputable def Dm.Has : Dm -> Int -> Prop
 | .set l, i => i ∈ l
 | .rng lo hi, i => lo <= i /\ i <= hi
inductive Z where
 | c (i : Int)
 | s (n : Nat) (k : Int) (d : Dm)
deriving DecidableEq
structure Hdr where
 src : Z
 tgt : Z
 proto : Int
 ident : Z
 ttl : Z
 dont : Bool
 more : Bool
 off : Int
deriving DecidableEq
structure HdrN where
 src : Nat
 tgt : Nat
 proto : Nat
 ident : Nat
 ttl : Nat
 dont : Bool
 more : Bool
 off : Nat
noncomputable def HdrN.flags (h : HdrN) : Nat := h.off / 8 + (if h.dont then 16384 else 0) + (if h.more then 8192 else 0)
noncomputable def HdrN.front (h : HdrN) (len : Nat) : List UInt8 := [69, 0] ++ (q0n (20 + len) ++ q0n h.ident ++ q0n h.flags) ++ [o8 h.ttl, o8 h.proto]
noncomputable def HdrN.back (h : HdrN) : List UInt8 := q1y h.src ++ q1y h.tgt
noncomputable def HdrN.head (h : HdrN) (len : Nat) : List UInt8 := h.front len ++ q0n (chk (h.front len ++ q0n 0 ++ h.back)) ++ h.back
noncomputable def q3b (h : HdrN) (p : List UInt8) : List UInt8 := h.head p.length ++ p
noncomputable def q09 (kind code rest : Int) (p : List UInt8) : List UInt8 :=
 [o8 kind.toNat, o8 code.toNat] ++ q0n (chk ([o8 kind.toNat, o8 code.toNat] ++ q0n 0 ++ (q1y rest.toNat ++ p))) ++ (q1y rest.toNat ++ p)
structure HdrN.Ok (h : HdrN) : Prop where
 src : h.src < 4294967296
 tgt : h.tgt < 4294967296
 proto : h.proto < 256
 ident : h.ident < 65536
 ttl : h.ttl < 256
 off : h.off < 65536
 step : h.off % 8 = 0
theorem q3v (n : Nat) : (o8 n).toNat = n % 256 := by unfold o8; simp
theorem q4i : ∀ (l m : List UInt8), l.length % 2 = 0 -> sum16 (l ++ m) = sum16 l + sum16 m
 | [], m, _ => (Nat.zero_add _).symm
 | [a], m, h => absurd h (by decide : ¬ 1 % 2 = 0)
 | a :: b :: r, m, h => by
   have h' : r.length % 2 = 0 := (Nat.add_mod_right r.length 2).symm.trans h
   show a.toNat * 256 + b.toNat + sum16 (r ++ m) = a.toNat * 256 + b.toNat + sum16 r + sum16 m
   rw [q4i r m h']
   exact (Nat.add_assoc _ _ _).symm
theorem z6s (n : Nat) : fold16 n <= 65535 := q3q (C := (· <= 65535)) (fun W0 => Nat.zero_le _) fun W0 => Nat.mod_lt _ (by decide)
theorem j9s (l : List UInt8) : chk l <= 65535 := Nat.sub_le _ _
theorem j1l {n : Nat} (h : n < 256) : (o8 n).toNat = n := (q3v n).trans (Nat.mod_eq_of_lt h)
theorem q5c {n : Nat} (h : n < 65536) : (o8 (n / 256)).toNat * 256 + (o8 n).toNat = n := by
 have h2 : n / 256 < 256 := Nat.div_lt_of_lt_mul h
 rw [j1l h2, q3v, Nat.mul_comm]
 exact Nat.div_add_mod n 256
theorem q7c {n : Nat} (h : n < 4294967296) : ((o8 (n / 65536 / 256)).toNat * 256 + (o8 (n / 65536)).toNat) * 65536 + ((o8 (n % 65536 / 256)).toNat * 256 + (o8 (n % 65536)).toNat) = n := by
 have h1 : n / 65536 < 65536 := Nat.div_lt_of_lt_mul h
 have h2 : n % 65536 < 65536 := Nat.mod_lt n (by decide)
 rw [q5c h1, q5c h2, Nat.mul_comm]
 exact Nat.div_add_mod n 65536
theorem j0x (m : Nat) : fold16 (m + 1 + (65535 - (m % 65535 + 1))) = 65535 := by
 have h1 := Nat.div_add_mod m 65535
 have h2 := Nat.mod_lt m (show 65535 > 0 by decide)
 have e : m + 1 + (65535 - (m % 65535 + 1)) = 65535 * (m / 65535) + 65534 + 1 := (congrArg (· + 1 + (65535 - (m % 65535 + 1))) h1.symm).trans ((congrArg (· + (65535 - (m % 65535 + 1))) (Nat.add_assoc _ (m % 65535) 1)).trans ((Nat.add_assoc _ _ _).trans (congrArg (65535 * (m / 65535) + ·) (Nat.add_sub_cancel' h2))))
 rw [e]
 show (65535 * (m / 65535) + 65534) % 65535 + 1 = 65535
 rw [Nat.mul_add_mod]
theorem z3h (n : Nat) : fold16 (n + (65535 - fold16 n)) = 65535 := by
 induction n using Nat.casesOn with
 | zero => rfl
 | succ m => exact j0x m
theorem q9q (f b : List UInt8) (hf : f.length % 2 = 0) : fold16 (sum16 (f ++ q0n (chk (f ++ q0n 0 ++ b)) ++ b)) = 65535 := by
 have S : ∀ c, c < 65536 -> sum16 (f ++ q0n c ++ b) = sum16 f + sum16 b + c := fun c hc => by
   rw [List.append_assoc, q4i f _ hf]
   show _ + ((o8 (c / 256)).toNat * 256 + (o8 c).toNat + sum16 b) = _
   rw [q5c hc, Nat.add_comm c, Nat.add_assoc]
 rw [S _ (Nat.lt_succ_of_le (j9s _))]
 unfold chk
 rw [S 0 (by decide)]
 exact z3h _
theorem q29 (h : HdrN) (n : Nat) : (h.head n).length = 20 := rfl
theorem q1x (h : HdrN) (p : List UInt8) : (q3b h p).length = 20 + p.length := by unfold q3b; rw [List.length_append, q29]
theorem q1h (k c r : Int) (p : List UInt8) : (q09 k c r p).length = 8 + p.length := by
 exact Nat.add_comm p.length 8
theorem z7x (h : HdrN) (n : Nat) : fold16 (sum16 (h.head n)) = 65535 := q9q _ _ (show 10 % 2 = 0 by decide)
theorem z7y (k c r : Int) (p : List UInt8) : fold16 (sum16 (q09 k c r p)) = 65535 := q9q _ _ (show 2 % 2 = 0 by decide)
theorem q0l {α β : Type} [BEq α] [LawfulBEq α] {x : α} {y : β} : ∀ {l : List (α × β)}, l.lookup x = some y -> (x, y) ∈ l := by
 intro l
 induction l with
 | nil => intro h; exact ns h
 | cons q l ih =>
   intro h
   change (match x == q.1 with | true => some q.2 | false => l.lookup x) = some y at h
   refine q27 (x == q.1) (fun e => ?_) fun e => ?_
   . rw [e] at h; refine rwb (oi h) ?_; refine rwm (eq_of_beq e) ?_; exact .head _
   . rw [e] at h
     exact .tail _ (ih h)
end
end Mine
namespace Mine
open PySem PySem.W PySem.Calls PyProof.Rows
inductive SB where
 | var (n len : Nat)
 | ip (h : Hdr) (p : SB)
 | icmp (kind code : Int) (rest : Z) (p : SB)
 | sl (b : SB) (lo len : Nat)
deriving DecidableEq
noncomputable def SB.len : SB -> Nat
 | .var _ l => l
 | .ip _ p => 20 + p.len
 | .icmp _ _ _ p => 8 + p.len
 | .sl _ _ l => l
inductive V where
 | none
 | bool (b : Bool)
 | int (i : Int)
 | sint (n : Nat) (k : Int) (d : Dm)
 | str (s : Str)
 | bytes (b : List UInt8)
 | sb (b : SB)
 | prim (v : Value)
 | ref (n : Nat)
 | tup (vs : List V)
 | lst (vs : List V)
 | ob (c : Addr) (fs : List (Str × V))
 | dct (ks : List Str) (vs : List V)
 | rng (a b c : Int)
structure Cx where
 prog : Program
 w : World
 K : Frag
 p : Program
 loose : List Str
 mean : ExcName -> Option Value
 mg : Str -> Option Value
 mb : Str -> Option Value
 H0 : Heap
structure Gh where
 kn : List (Addr × Obj)
 pl : Nat -> Option (Addr × Addr)
 zi : Nat -> Option Int
 by_ : Nat -> Option (List UInt8)
noncomputable def Z.toV : Z -> V
 | .c i => .int i
 | .s n k d => .sint n k d
noncomputable def ZR (g : Gh) : Z -> Int -> Prop
 | .c j, i => i = j
 | .s n k d, i => ∃ j, g.zi n = some j /\ i = j + k /\ d.Has j
structure HR (g : Gh) (h : Hdr) (n : HdrN) : Prop where
 src : ZR g h.src n.src
 tgt : ZR g h.tgt n.tgt
 proto : h.proto = n.proto
 ident : ZR g h.ident n.ident
 ttl : ZR g h.ttl n.ttl
 dont : h.dont = n.dont
 more : h.more = n.more
 off : h.off = n.off
inductive ZRs (g : Gh) : List Z -> List Int -> Prop
 | nil : ZRs g [] []
 | cons {z : Z} {i : Int} {zs : List Z} {is : List Int} : ZR g z i -> ZRs g zs is -> ZRs g (z :: zs) (i :: is)
inductive SBR (g : Gh) : SB -> List UInt8 -> Prop
 | var {n len : Nat} {l : List UInt8} : g.by_ n = some l -> l.length = len -> SBR g (.var n len) l
 | ip {h : Hdr} {p : SB} {n : HdrN} {l : List UInt8} : HR g h n -> n.Ok -> SBR g p l -> 20 + l.length <= 65535 -> SBR g (.ip h p) (q3b n l)
 | icmp {k c : Int} {z : Z} {r : Int} {p : SB} {l : List UInt8} : ZR g z r -> 0 <= r -> r < 4294967296 -> 0 <= k -> k < 256 -> 0 <= c -> c < 256 -> SBR g p l -> l.length <= 60000 -> SBR g (.icmp k c z p) (q09 k c r l)
 | sl {b : SB} {lo len : Nat} {l : List UInt8} : SBR g b l -> lo + len <= l.length -> SBR g (.sl b lo len) ((l.drop lo).take len)
theorem SBR.length {g : Gh} {b : SB} {l : List UInt8} (h : SBR g b l) : l.length = b.len := by
 induction h with
 | var _ e => exact e
 | ip _ _ _ _ ih => (refine rwm (q1x _ _) ?_; refine rwm ih ?_); rfl
 | icmp _ _ _ _ _ _ _ _ _ ih => (rewrite [q1h]; refine rwm ih ?_); rfl
 | sl _ h ih => (refine rwm List.length_take ?_; refine rwm List.length_drop ?_); exact Nat.min_eq_left (Nat.le_sub_of_add_le (Nat.add_comm _ _ ▸ h))
theorem ZR.det {g : Gh} {z : Z} {i j : Int} (h : ZR g z i) (h' : ZR g z j) : i = j := by
 induction z using Z.casesOn with
 | c k => (refine rwm h ?_; refine rwm h' ?_; rfl)
 | s n k d =>
   obtain ⟨a, h1, rfl, _⟩ := h
   obtain ⟨b, h2, rfl, _⟩ := h'
   (refine rwm (oi (h1.symm.trans h2)) ?_; rfl)
theorem HR.det {g : Gh} {h : Hdr} {n m : HdrN} (a : HR g h n) (b : HR g h m) : n = m := by
 have k : ∀ {z : Z} {i j : Nat}, ZR g z i -> ZR g z j -> i = j := fun p q => Int.ofNat.inj (p.det q)
 have e : n = ⟨n.src, n.tgt, n.proto, n.ident, n.ttl, n.dont, n.more, n.off⟩ := rfl
 rw [k a.src b.src, k a.tgt b.tgt, Int.ofNat.inj (a.proto.symm.trans b.proto), k a.ident b.ident, k a.ttl b.ttl, a.dont.symm.trans b.dont, a.more.symm.trans b.more, Int.ofNat.inj (a.off.symm.trans b.off)] at e
 exact e
theorem SBR.det {g : Gh} {x : SB} {l l' : List UInt8} (h : SBR g x l) (h' : SBR g x l') : l = l' := by
 induction h generalizing l' with
 | var h1 h2 => cases h' with | var h3 h4 => exact oi (h1.symm.trans h3)
 | ip h1 _ _ _ ih => cases h' with | ip h3 _ h4 _ => (refine rwm (h1.det h3) ?_; refine rwm (ih h4) ?_; rfl)
 | icmp h1 _ _ _ _ _ _ _ _ ih => cases h' with | icmp h3 _ _ _ _ _ _ h4 _ => (refine rwm (h1.det h3) ?_; refine rwm (ih h4) ?_; rfl)
 | sl _ _ ih => cases h' with | sl h3 _ => (refine rwm (ih h3) ?_; rfl)
noncomputable def Has (c : Cx) (g : Gh) (a : Addr) (o : Obj) : Prop := (a, o) ∈ g.kn \/ c.H0.get? a = some o
noncomputable abbrev tupO (its : Array Value) (k : Nat) : Obj := { cls := .type "tuple", data := .seq its k }
mutual
inductive VR (c : Cx) (g : Gh) : V -> Value -> Prop
 | none : VR c g .none .none
 | bool (b : Bool) : VR c g (.bool b) (.bool b)
 | int (i : Int) (t : Tok) : VR c g (.int i) (.int i t)
 | sint {n : Nat} {k i : Int} {d : Dm} (t : Tok) : ZR g (.s n k d) i -> VR c g (.sint n k d) (.int i t)
 | str (s : Str) (t : Tok) : VR c g (.str s) (.str s t)
 | bytes (b : List UInt8) (t : Tok) : VR c g (.bytes b) (.bytes b.toArray t)
 | sb {b : SB} {l : List UInt8} (t : Tok) : SBR g b l -> VR c g (.sb b) (.bytes l.toArray t)
 | prim (v : Value) : VR c g (.prim v) v
 | ref {n : Nat} {a d : Addr} : g.pl n = some (a, d) -> VR c g (.ref n) (.ref a)
 | tup {vs : List V} {a : Addr} {its : List Value} {k : Nat} : Has c g a (tupO its.toArray k) -> VRs c g vs its -> VR c g (.tup vs) (.ref a)
 | lst {vs : List V} {a : Addr} {its : List Value} {k : Nat} : Has c g a (PySem.W.listOf its.toArray k) -> VRs c g vs its -> VR c g (.lst vs) (.ref a)
 | ob {C : Addr} {fs : List (Str × V)} {a d : Addr} {es : List DictEntry} {k : Nat} : Has c g a (instObj C d) -> Has c g d (dictOf es k) -> DR c g fs es -> VR c g (.ob C fs) (.ref a)
 | rng {a b d : Int} {t u v : Tok} {r : Addr} : Has c g r { cls := .type "range", data := .fields #[.int a t, .int b u, .int d v] } -> VR c g (.rng a b d) (.ref r)
 | dct {ks : List Str} {vs : List V} {xs : List Value} {a : Addr} {o : Obj} : (a, o) ∈ g.kn -> o.IsDictOf (PySem.strKind c.prog c.w) (ks.zip xs) -> VRs c g vs xs -> VR c g (.dct ks vs) (.ref a)
inductive VRs (c : Cx) (g : Gh) : List V -> List Value -> Prop
 | nil : VRs c g [] []
 | cons {v : V} {x : Value} {vs : List V} {xs : List Value} : VR c g v x -> VRs c g vs xs -> VRs c g (v :: vs) (x :: xs)
inductive DR (c : Cx) (g : Gh) : List (Str × V) -> List DictEntry -> Prop
 | nil : DR c g [] []
 | cons {x : Str} {v : V} {t : Tok} {y : Value} {fs : List (Str × V)} {es : List DictEntry} : VR c g v y -> DR c g fs es -> DR c g ((x, v) :: fs) (⟨PyData.keyHash c.w.params x, .str x t, y⟩ :: es)
end
section
variable {c : Cx} {g : Gh} {x : Value} {xs : List Value}
theorem VR.intI {i : Int} (h : VR c g (.int i) x) : ∃ t, x = .int i t := by cases h with | int i t => exact ⟨t, rfl⟩
theorem VR.boolI {b : Bool} (h : VR c g (.bool b) x) : x = .bool b := by cases h with | bool b => rfl
theorem VR.strI {y : Str} (h : VR c g (.str y) x) : ∃ t, x = .str y t := by cases h with | str y t => exact ⟨t, rfl⟩
theorem VR.bytesI {b : List UInt8} (h : VR c g (.bytes b) x) : ∃ t, x = .bytes b.toArray t := by cases h with | bytes b t => exact ⟨t, rfl⟩
theorem VR.sintI {n : Nat} {k : Int} {d : Dm} (h : VR c g (.sint n k d) x) : ∃ i t, x = .int i t /\ ZR g (.s n k d) i := by cases h with | sint t h => exact ⟨_, t, rfl, h⟩
theorem VR.sbI {b : SB} (h : VR c g (.sb b) x) : ∃ l t, x = .bytes l.toArray t /\ SBR g b l := by cases h with | sb t h => exact ⟨_, t, rfl, h⟩
theorem VR.zI {z : Z} (h : VR c g z.toV x) : ∃ i t, x = .int i t /\ ZR g z i := by
 induction z using Z.casesOn with
 | c i => refine e11 (VR.intI h :) fun t r => rwm r ?_; exact ⟨i, t, rfl, rfl⟩
 | s n k d => exact VR.sintI h
theorem ZR.vr {z : Z} {i : Int} (h : ZR g z i) (t : Tok) : VR c g z.toV (.int i t) := by
 induction z using Z.casesOn with
 | c j => cases h; exact .int _ _
 | s n k d => exact .sint t h
theorem VR.noneI (h : VR c g .none x) : x = .none := by cases h with | none => rfl
theorem VR.primI {v : Value} (h : VR c g (.prim v) x) : x = v := by cases h with | prim v => rfl
theorem VR.refI {n : Nat} (h : VR c g (.ref n) x) : ∃ a d, x = .ref a /\ g.pl n = some (a, d) := by cases h with | @ref n a d h => exact ⟨a, d, rfl, h⟩
theorem VR.tupI {vs : List V} (h : VR c g (.tup vs) x) : ∃ a its k, x = .ref a /\ Has c g a (tupO its.toArray k) /\ VRs c g vs its := by cases h with | @tup _ a its k h r => exact ⟨a, its, k, rfl, h, r⟩
theorem VR.lstI {vs : List V} (h : VR c g (.lst vs) x) : ∃ a its k, x = .ref a /\ Has c g a (PySem.W.listOf its.toArray k) /\ VRs c g vs its := by cases h with | @lst _ a its k h r => exact ⟨a, its, k, rfl, h, r⟩
theorem VR.obI {C : Addr} {fs : List (Str × V)} (h : VR c g (.ob C fs) x) : ∃ a d es k, x = .ref a /\ Has c g a (instObj C d) /\ Has c g d (dictOf es k) /\ DR c g fs es := by cases h with | @ob _ _ a d es k h h' r => exact ⟨a, d, es, k, rfl, h, h', r⟩
theorem VR.rngI {a b d : Int} (h : VR c g (.rng a b d) x) : ∃ r t u v, x = .ref r /\ Has c g r { cls := .type "range", data := .fields #[.int a t, .int b u, .int d v] } := by cases h with | @rng _ _ _ t u v r h => exact ⟨r, t, u, v, rfl, h⟩
theorem VRs.nilI (h : VRs c g [] xs) : xs = [] := by cases h with | nil => rfl
theorem VRs.consI {v : V} {vs : List V} (h : VRs c g (v :: vs) xs) : ∃ y ys, xs = y :: ys /\ VR c g v y /\ VRs c g vs ys := by cases h with | cons h r => exact ⟨_, _, rfl, h, r⟩
theorem VRs.oneI {v : V} (h : VRs c g [v] xs) : ∃ y, xs = [y] /\ VR c g v y := by
 obtain ⟨y, ys, rfl, h1, h2⟩ := h.consI
 exact ⟨y, by (refine rwm h2.nilI ?_; rfl), h1⟩
theorem VRs.twoI {v w : V} (h : VRs c g [v, w] xs) : ∃ y z, xs = [y, z] /\ VR c g v y /\ VR c g w z := by
 (refine e23 h.consI fun y ys r => ?_; refine rwm r ?_; intro h1 h2)
 (refine e12 h2.oneI fun z r => ?_; refine rwm r ?_; intro h3)
 exact ⟨y, z, rfl, h1, h3⟩
end
structure Gh.le (g g' : Gh) : Prop where
 kn : ∀ p ∈ g.kn, p ∈ g'.kn
 pl : ∀ n ad, g.pl n = some ad -> g'.pl n = some ad
 zi : ∀ n i, g.zi n = some i -> g'.zi n = some i
 by_ : ∀ n l, g.by_ n = some l -> g'.by_ n = some l
theorem Gh.le.rfl {g : Gh} : g.le g := ⟨fun W0 h => h, fun W0 W0 h => h, fun W0 W0 h => h, fun W0 W0 h => h⟩
theorem Gh.le.trans {g g' g'' : Gh} (x : g.le g') (y : g'.le g'') : g.le g'' := ⟨fun p h => y.kn p (x.kn p h), fun n ad h => y.pl n ad (x.pl n ad h), fun n i h => y.zi n i (x.zi n i h), fun n i h => y.by_ n i (x.by_ n i h)⟩
theorem ZR.mono {g g' : Gh} (l : g.le g') {z : Z} {i : Int} (h : ZR g z i) : ZR g' z i := by
 induction z using Z.casesOn with
 | c j => exact h
 | s n k d =>
   refine e12 h fun j h1 h2 => ?_
   exact ⟨j, l.zi _ _ h1, h2⟩
theorem HR.mono {g g' : Gh} (l : g.le g') {h : Hdr} {n : HdrN} (x : HR g h n) : HR g' h n := ⟨x.src.mono l, x.tgt.mono l, x.proto, x.ident.mono l, x.ttl.mono l, x.dont, x.more, x.off⟩
theorem ZRs.mono {g g' : Gh} (l : g.le g') {zs : List Z} {is : List Int} (h : ZRs g zs is) : ZRs g' zs is := by
 induction h with
 | nil => exact .nil
 | cons h _ ih => exact .cons (h.mono l) ih
theorem SBR.mono {g g' : Gh} (l : g.le g') {b : SB} {x : List UInt8} (h : SBR g b x) : SBR g' b x := by
 induction h with
 | var h e => exact .var (l.by_ _ _ h) e
 | ip h1 h2 _ h6 ih => exact .ip (h1.mono l) h2 ih h6
 | icmp h1 h2 h3 h4 h5 h6 h7 _ h9 ih => exact .icmp (h1.mono l) h2 h3 h4 h5 h6 h7 ih h9
 | sl _ h ih => exact .sl ih h
theorem Has.mono {c : Cx} {g g' : Gh} {a : Addr} {o : Obj} (l : g.le g') (h : Has c g a o) : Has c g' a o := h.imp (l.kn _) id
theorem VR.mono {c : Cx} {g g' : Gh} (l : g.le g') {v : V} {x : Value} (h : VR c g v x) : VR c g' v x :=
 VR.rec (motive_1 := fun v x W0 => VR c g' v x) (motive_2 := fun v x W0 => VRs c g' v x) (motive_3 := fun v x W0 => DR c g' v x) .none .bool .int (fun t h => .sint t (h.mono l)) .str .bytes (fun t h => .sb t (h.mono l)) .prim (fun h => .ref (l.pl _ _ h)) (fun h W0 r => .tup (h.mono l) r) (fun h W0 r => .lst (h.mono l) r) (fun h h' W0 r => .ob (h.mono l) (h'.mono l) r) (fun h => .rng (h.mono l)) (fun h e W0 r => .dct (l.kn _ h) e r) .nil (fun W0 W0 h r => .cons h r) .nil (fun W0 W0 h r => .cons h r) h
theorem VRs.mono {c : Cx} {g g' : Gh} (l : g.le g') {v : List V} {x : List Value} (h : VRs c g v x) : VRs c g' v x :=
 VRs.rec (motive_1 := fun v x W0 => VR c g' v x) (motive_2 := fun v x W0 => VRs c g' v x) (motive_3 := fun v x W0 => DR c g' v x) .none .bool .int (fun t h => .sint t (h.mono l)) .str .bytes (fun t h => .sb t (h.mono l)) .prim (fun h => .ref (l.pl _ _ h)) (fun h W0 r => .tup (h.mono l) r) (fun h W0 r => .lst (h.mono l) r) (fun h h' W0 r => .ob (h.mono l) (h'.mono l) r) (fun h => .rng (h.mono l)) (fun h e W0 r => .dct (l.kn _ h) e r) .nil (fun W0 W0 h r => .cons h r) .nil (fun W0 W0 h r => .cons h r) h
theorem DR.mono {c : Cx} {g g' : Gh} (l : g.le g') {v : List (Str × V)} {x : List DictEntry} (h : DR c g v x) : DR c g' v x :=
 DR.rec (motive_1 := fun v x W0 => VR c g' v x) (motive_2 := fun v x W0 => VRs c g' v x) (motive_3 := fun v x W0 => DR c g' v x) .none .bool .int (fun t h => .sint t (h.mono l)) .str .bytes (fun t h => .sb t (h.mono l)) .prim (fun h => .ref (l.pl _ _ h)) (fun h W0 r => .tup (h.mono l) r) (fun h W0 r => .lst (h.mono l) r) (fun h h' W0 r => .ob (h.mono l) (h'.mono l) r) (fun h => .rng (h.mono l)) (fun h e W0 r => .dct (l.kn _ h) e r) .nil (fun W0 W0 h r => .cons h r) .nil (fun W0 W0 h r => .cons h r) h
theorem VRs.ind {c : Cx} {g : Gh} {C : List V -> List Value -> Prop} (n : C [] []) (k : ∀ v x vs xs, VR c g v x -> VRs c g vs xs -> C vs xs -> C (v :: vs) (x :: xs)) {vs : List V} {xs : List Value} (h : VRs c g vs xs) : C vs xs :=
 VRs.rec (motive_1 := fun W0 W0 W0 => True) (motive_2 := fun vs xs W0 => C vs xs) (motive_3 := fun W0 W0 W0 => True) trivial (fun W0 => trivial) (fun W0 W0 => trivial) (fun W0 W0 => trivial) (fun W0 W0 => trivial) (fun W0 W0 => trivial) (fun W0 W0 => trivial) (fun W0 => trivial) (fun W0 => trivial) (fun W0 W0 W0 => trivial) (fun W0 W0 W0 => trivial) (fun W0 W0 W0 W0 => trivial) (fun W0 => trivial) (fun W0 W0 W0 W0 => trivial) n (fun h r W0 ih => k _ _ _ _ h r ih) trivial (fun W0 W0 W0 W0 => trivial) h
theorem DR.ind {c : Cx} {g : Gh} {C : List (Str × V) -> List DictEntry -> Prop} (n : C [] []) (k : ∀ x v t y fs es, VR c g v y -> DR c g fs es -> C fs es -> C ((x, v) :: fs) (⟨PyData.keyHash c.w.params x, .str x t, y⟩ :: es)) {fs : List (Str × V)} {es : List DictEntry} (h : DR c g fs es) : C fs es :=
 DR.rec (motive_1 := fun W0 W0 W0 => True) (motive_2 := fun W0 W0 W0 => True) (motive_3 := fun fs es W0 => C fs es) trivial (fun W0 => trivial) (fun W0 W0 => trivial) (fun W0 W0 => trivial) (fun W0 W0 => trivial) (fun W0 W0 => trivial) (fun W0 W0 => trivial) (fun W0 => trivial) (fun W0 => trivial) (fun W0 W0 W0 => trivial) (fun W0 W0 W0 => trivial) (fun W0 W0 W0 W0 => trivial) (fun W0 => trivial) (fun W0 W0 W0 W0 => trivial) trivial (fun W0 W0 W0 W0 => trivial) n (fun h r W0 ih => k _ _ _ _ _ _ h r ih) h
theorem VRs.length {c : Cx} {g : Gh} {vs : List V} {xs : List Value} (h : VRs c g vs xs) : xs.length = vs.length := VRs.ind (C := fun vs xs => xs.length = vs.length) rfl (fun W0 W0 W0 W0 W0 W0 ih => congrArg (· + 1) ih) h
theorem VRs.get {c : Cx} {g : Gh} {vs : List V} {xs : List Value} {i : Nat} {v : V} (h : VRs c g vs xs) (e : vs[i]? = some v) : ∃ x, xs[i]? = some x /\ VR c g v x :=
 VRs.ind (C := fun vs xs => ∀ i v, vs[i]? = some v -> ∃ x, xs[i]? = some x /\ VR c g v x) (fun i v e => zns e) (fun w x vs xs h r ih i v e => by
   induction i using Nat.casesOn with
   | zero => exact ⟨x, rfl, oi e ▸ h⟩
   | succ i => exact ih i v e) h i v e
theorem VRs.append {c : Cx} {g : Gh} {vs ws : List V} {xs ys : List Value} (h : VRs c g vs xs) (k : VRs c g ws ys) : VRs c g (vs ++ ws) (xs ++ ys) := VRs.ind (C := fun vs xs => VRs c g (vs ++ ws) (xs ++ ys)) k (fun W0 W0 W0 W0 h W0 ih => .cons h ih) h
theorem VRs.drop {c : Cx} {g : Gh} (n : Nat) {vs : List V} {xs : List Value} (h : VRs c g vs xs) : VRs c g (vs.drop n) (xs.drop n) :=
 VRs.ind (C := fun vs xs => ∀ n, VRs c g (vs.drop n) (xs.drop n)) (fun n => by (refine rwm List.drop_nil ?_; refine rwm List.drop_nil ?_); exact .nil) (fun W0 W0 W0 W0 h r ih n => by
   induction n using Nat.casesOn with
   | zero => exact .cons h r
   | succ n => exact ih n) h n
theorem VRs.take {c : Cx} {g : Gh} (n : Nat) {vs : List V} {xs : List Value} (h : VRs c g vs xs) : VRs c g (vs.take n) (xs.take n) :=
 VRs.ind (C := fun vs xs => ∀ n, VRs c g (vs.take n) (xs.take n)) (fun n => by (refine rwm List.take_nil ?_; refine rwm List.take_nil ?_); exact .nil) (fun W0 W0 W0 W0 h r ih n => by
   induction n using Nat.casesOn with
   | zero => exact .nil
   | succ n => exact .cons h (ih n)) h n
inductive AO where
 | list (vs : List V)
 | inst (c : Addr) (fs : List (Str × V))
 | cell (v : Option V)
 | tab (xs : List (List Z × V)) (pin : Option (List DictEntry × Nat))
structure St where
 nx : Nat
 l : List (Nat × AO)
noncomputable def q4q {α : Type} (n : Nat) (l : List (Nat × α)) : Option α := List.rec none (fun p W0 ih => cond (Nat.beq n p.1) (some p.2) ih) l
theorem q1k {α : Type} (n : Nat) : ∀ l : List (Nat × α), q4q n l = l.lookup n
 | [] => rfl
 | p :: l => by
   (refine rwm List.lookup_cons ?_; refine rwb (q1k n l) ?_)
   show cond (Nat.beq n p.1) (some p.2) (q4q n l) = _
   have : (n == p.1) = Nat.beq n p.1 := by
     (rewrite [Bool.eq_iff_iff, beq_iff_eq]; refine rwm Nat.beq_eq ?_; rfl)
   refine rwm this ?_
   cases Nat.beq n p.1 <;> rfl
noncomputable def St.get (st : St) (n : Nat) : Option AO := q4q n st.l
noncomputable def putL (n : Nat) (o : AO) (l : List (Nat × AO)) : List (Nat × AO) := List.rec [(n, o)] (fun p l ih => cond (Nat.beq n p.1) ((n, o) :: l) (p :: ih)) l
theorem q06 (n : Nat) (o : AO) (p : Nat × AO) (l : List (Nat × AO)) : putL n o (p :: l) = if n == p.1 then (n, o) :: l else p :: putL n o l := by
 show cond (Nat.beq n p.1) ((n, o) :: l) (p :: putL n o l) = _
 have : (n == p.1) = Nat.beq n p.1 := by (rewrite [Bool.eq_iff_iff, beq_iff_eq]; refine rwm Nat.beq_eq ?_; rfl)
 refine rwm this ?_
 cases Nat.beq n p.1 <;> rfl
noncomputable def z5x (n : Nat) (l : List (Nat × AO)) : List (Nat × AO) := List.rec [] (fun p W0 ih => cond (Nat.beq n p.1) ih (p :: ih)) l
theorem q14 (n : Nat) (p : Nat × AO) (l : List (Nat × AO)) : z5x n (p :: l) = if n == p.1 then z5x n l else p :: z5x n l := by
 show cond (Nat.beq n p.1) (z5x n l) (p :: z5x n l) = _
 have : (n == p.1) = Nat.beq n p.1 := by (rewrite [Bool.eq_iff_iff, beq_iff_eq]; refine rwm Nat.beq_eq ?_; rfl)
 refine rwm this ?_
 cases Nat.beq n p.1 <;> rfl
noncomputable def St.set (st : St) (n : Nat) (o : AO) : St := ⟨st.nx, putL n o st.l⟩
noncomputable def St.new (st : St) (o : AO) : St := ⟨st.nx + 1, putL st.nx o st.l⟩
noncomputable def St.del (st : St) (n : Nat) : St := ⟨st.nx, z5x n st.l⟩
structure St.le (st st' : St) : Prop where
 get : ∀ n o, st.get n = some o -> st'.get n = some o
 nx : st'.nx <= st.nx
theorem q5w (n : Nat) (o : AO) (i : Nat) : ∀ l : List (Nat × AO), (putL n o l).lookup i = if i = n then some o else l.lookup i := by
 intro l
 induction l with
 | nil =>
   refine rwm List.lookup_cons ?_
   by_cases e : i = n
   . subst e; simp
   . have : (i == n) = false := by simpa using e
     (refine rwm this ?_; refine rwm (if_neg e) ?_; rfl)
 | cons q0 l ih =>
   obtain ⟨k, x⟩ := q0
   rw [q06]
   by_cases q : n = k
   . subst q
     simp only [beq_self_eq_true, if_true, List.lookup_cons]
     by_cases e : i = n
     . subst e; simp
     . have : (i == n) = false := by simpa using e
       simp [this, e]
   . have q' : (n == k) = false := by simpa using q
     simp only [q', Bool.false_eq_true, if_false, List.lookup_cons]
     by_cases e : i = k
     . subst e
       have : ¬i = n := fun z => q z.symm
       simp [this]
     . have : (i == k) = false := by simpa using e
       simp only [this]
       exact ih
theorem z0x (n i : Nat) : ∀ l : List (Nat × AO), (z5x n l).lookup i = if i = n then none else l.lookup i := by
 intro l
 induction l with
 | nil =>
   show (none : Option AO) = if i = n then none else none
   split <;> rfl
 | cons q0 l ih =>
   obtain ⟨k, x⟩ := q0
   rw [q14]
   by_cases q : n = k
   . subst q
     simp only [beq_self_eq_true, if_true, List.lookup_cons]
     refine rwm (ih) ?_
     by_cases e : i = n
     . simp [e]
     . have : (i == n) = false := by simpa using e
       simp [this]
   . have q' : (n == k) = false := by simpa using q
     simp only [q', Bool.false_eq_true, if_false, List.lookup_cons]
     by_cases e : i = k
     . subst e
       have : ¬i = n := fun z => q z.symm
       simp [this]
     . have : (i == k) = false := by simpa using e
       simp only [this]
       exact ih
theorem St.get_set (st : St) (n : Nat) (o : AO) (i : Nat) : (st.set n o).get i = if i = n then some o else st.get i := by
 unfold St.get
 (refine rwm (q1k _ _) ?_; refine rwm (q1k _ _) ?_)
 exact q5w n o i st.l
theorem St.get_new (st : St) (o : AO) (i : Nat) : (st.new o).get i = if i = st.nx then some o else st.get i := by
 unfold St.get
 (refine rwm (q1k _ _) ?_; refine rwm (q1k _ _) ?_)
 exact q5w st.nx o i st.l
theorem St.get_del (st : St) (n i : Nat) : (st.del n).get i = if i = n then none else st.get i := by
 unfold St.get
 (refine rwm (q1k _ _) ?_; refine rwm (q1k _ _) ?_)
 exact z0x n i st.l
inductive TabR (c : Cx) (g : Gh) : List (List Z × V) -> List DictEntry -> Prop
 | nil : TabR c g [] []
 | cons {zs : List Z} {ks : List Int} {v : V} {xs : List (List Z × V)} {es : List DictEntry} {t : Addr} {its : List Value} {k : Nat} {x : Value} : ZRs g zs ks -> Has c g t (tupO its.toArray k) -> VRs c g (ks.map .int) its -> VR c g v x -> TabR c g xs es -> TabR c g ((zs, v) :: xs) (⟨tupleKeyHash (intKind c.prog c.w) ks, .ref t, x⟩ :: es)
theorem TabR.mono {c : Cx} {g g' : Gh} (l : g.le g') {xs : List (List Z × V)} {es : List DictEntry} (h : TabR c g xs es) : TabR c g' xs es := by
 induction h with
 | nil => exact .nil
 | cons z h r v _ ih => exact .cons (z.mono l) (h.mono l) (r.mono l) (v.mono l) ih
inductive ORel (c : Cx) (g : Gh) (news : List (Addr × Obj)) : AO -> Addr -> Addr -> Prop
 | list {vs : List V} {a : Addr} {its : List Value} {k : Nat} : (a, PySem.W.listOf its.toArray k) ∈ news -> VRs c g vs its -> ORel c g news (.list vs) a a
 | inst {C : Addr} {fs : List (Str × V)} {a d : Addr} {es : List DictEntry} {k : Nat} : a ≠ d -> (a, instObj C d) ∈ news -> (d, dictOf es k) ∈ news -> DR c g fs es -> ORel c g news (.inst C fs) a d
 | cell0 {a : Addr} {o : Obj} : (a, o) ∈ news -> o.data = .cell none -> ORel c g news (.cell none) a a
 | cell {v : V} {a : Addr} {o : Obj} {x : Value} : (a, o) ∈ news -> o.data = .cell (some x) -> VR c g v x -> ORel c g news (.cell (some v)) a a
 | tab {xs : List (List Z × V)} {pin : Option (List DictEntry × Nat)} {a : Addr} {es : List DictEntry} {k : Nat} : (a, dictOf es k) ∈ news -> TabR c g xs es -> (∀ q, pin = some q -> q = (es, k)) -> (a == sysModules) = false -> ORel c g news (.tab xs pin) a a
theorem ORel.listI {c : Cx} {g : Gh} {news : List (Addr × Obj)} {vs : List V} {a d : Addr} (h : ORel c g news (.list vs) a d) : a = d /\ ∃ its k, (a, PySem.W.listOf its.toArray k) ∈ news /\ VRs c g vs its := by
 cases h with | @list _ _ its k h r => exact ⟨rfl, its, k, h, r⟩
theorem ORel.instI {c : Cx} {g : Gh} {news : List (Addr × Obj)} {C : Addr} {fs : List (Str × V)} {a d : Addr} (h : ORel c g news (.inst C fs) a d) : ∃ es k, a ≠ d /\ (a, instObj C d) ∈ news /\ (d, dictOf es k) ∈ news /\ DR c g fs es := by
 cases h with | @inst _ _ _ _ es k n h h' r => exact ⟨es, k, n, h, h', r⟩
theorem ORel.tabS {c : Cx} {g : Gh} {news : List (Addr × Obj)} {xs : List (List Z × V)} {pin : Option (List DictEntry × Nat)} {a d : Addr} (h : ORel c g news (.tab xs pin) a d) : (a == sysModules) = false := by
 cases h with | tab h r p s => exact s
theorem ORel.tabI {c : Cx} {g : Gh} {news : List (Addr × Obj)} {xs : List (List Z × V)} {pin : Option (List DictEntry × Nat)} {a d : Addr} (h : ORel c g news (.tab xs pin) a d) : a = d /\ ∃ es k, (a, dictOf es k) ∈ news /\ TabR c g xs es /\ ∀ q, pin = some q -> q = (es, k) := by
 cases h with | @tab _ _ _ es k h r p s => exact ⟨rfl, es, k, h, r, p⟩
structure HK (c : Cx) (g : Gh) (st : St) (pv news : List (Addr × Obj)) : Prop where
 kni : ∀ p ∈ g.kn, p ∈ news
 pvi : ∀ p ∈ pv, p ∈ news
 own : ∀ n o, st.get n = some o -> ∃ a d, g.pl n = some (a, d) /\ ORel c g news o a d
 off : ∀ n o a d, st.get n = some o -> g.pl n = some (a, d) -> (∀ p ∈ g.kn, p.1 ≠ a /\ p.1 ≠ d) /\ ∀ p ∈ pv, p.1 ≠ a /\ p.1 ≠ d
 apart : ∀ n n' o o' a d a' d', n ≠ n' -> st.get n = some o -> st.get n' = some o' -> g.pl n = some (a, d) -> g.pl n' = some (a', d') -> a ≠ a' /\ a ≠ d' /\ d ≠ a' /\ d ≠ d'
 fin : ∀ n, st.nx <= n -> g.pl n = none /\ g.zi n = none /\ g.by_ n = none
 pk : ∀ p ∈ pv, ∀ q ∈ g.kn, p.1 ≠ q.1
theorem ORel.mono {c : Cx} {g g' : Gh} {news news' : List (Addr × Obj)} {o : AO} {a d : Addr} (l : g.le g') (hn : ∀ p ∈ news, p.1 = a \/ p.1 = d -> p ∈ news') (h : ORel c g news o a d) : ORel c g' news' o a d := by
 cases h with
 | list h r => exact .list (hn _ h (.inl rfl)) (r.mono l)
 | inst n h h' r => exact .inst n (hn _ h (.inl rfl)) (hn _ h' (.inr rfl)) (r.mono l)
 | cell0 h e => exact .cell0 (hn _ h (.inl rfl)) e
 | cell h e r => exact .cell (hn _ h (.inl rfl)) e (r.mono l)
 | tab h r p s => exact .tab (hn _ h (.inl rfl)) (r.mono l) p s
theorem ORel.mem {c : Cx} {g : Gh} {news : List (Addr × Obj)} {o : AO} {a d : Addr} (h : ORel c g news o a d) : (∃ x, (a, x) ∈ news) /\ ∃ x, (d, x) ∈ news := by
 cases h with
 | list h r => exact ⟨⟨_, h⟩, _, h⟩
 | inst n h h' r => exact ⟨⟨_, h⟩, _, h'⟩
 | cell0 h e => exact ⟨⟨_, h⟩, _, h⟩
 | cell h e r => exact ⟨⟨_, h⟩, _, h⟩
 | tab h r p s => exact ⟨⟨_, h⟩, _, h⟩
section
variable {c : Cx} {g : Gh} {st : St} {pv news : List (Addr × Obj)}
theorem HK.freezeNew (H : HK c g st pv news) {a : Addr} {o : Obj} (hf : ∀ p ∈ news, p.1 ≠ a) : HK c { g with kn := (a, o) :: g.kn } st pv ((a, o) :: news) /\ g.le { g with kn := (a, o) :: g.kn } := by
 have l : g.le { g with kn := (a, o) :: g.kn } := ⟨fun p h => .tail _ h, fun W0 W0 h => h, fun W0 W0 h => h, fun W0 W0 h => h⟩
 refine ⟨⟨fun p h => ?_, fun p h => .tail _ (H.pvi p h), fun n x e => ?_, fun n x b d e k => ?_, H.apart, H.fin, fun p hp q hq => by
   rcases mc hq with rfl | hq
   . exact hf p (H.pvi p hp)
   . exact H.pk p hp q hq⟩, l⟩
 . cases h with
   | head => exact .head _
   | tail _ h => exact .tail _ (H.kni p h)
 . refine e22 (H.own n x e :) fun b d h r => ?_
   exact ⟨b, d, h, r.mono l fun p h W0 => .tail _ h⟩
 . refine e22 (H.own n x e :) fun b' d' h' r => ?_
   have : (b', d') = (b, d) := oi (h'.symm.trans k)
   cases this
   obtain ⟨⟨x1, m1⟩, x2, m2⟩ := r.mem
   refine ⟨fun p h => ?_, (H.off n x b d e k).2⟩
   cases h with
   | head => exact ⟨fun q => hf _ m1 q.symm, fun q => hf _ m2 q.symm⟩
   | tail _ h => exact (H.off n x b d e k).1 p h
theorem HK.nameNew (H : HK c g st pv news) {a d : Addr} {x : AO} {news' : List (Addr × Obj)} (hs : ∀ p ∈ news, p ∈ news') (ha : ∀ p ∈ news, p.1 ≠ a /\ p.1 ≠ d)
   (hx : g.le { g with pl := fun i => if i = st.nx then some (a, d) else g.pl i } -> ORel c { g with pl := fun i => if i = st.nx then some (a, d) else g.pl i } news' x a d) :
   HK c { g with pl := fun i => if i = st.nx then some (a, d) else g.pl i } (st.new x) pv news' /\ g.le { g with pl := fun i => if i = st.nx then some (a, d) else g.pl i } := by
 have hn : g.pl st.nx = none := (H.fin _ (Nat.le_refl _)).1
 generalize hN : st.nx = n at *
 have l : g.le { g with pl := fun i => if i = n then some (a, d) else g.pl i } := ⟨fun p h => h, fun i ad h => by
   show (if i = n then some (a, d) else g.pl i) = some ad
   split
   . rename_i e; subst e; rw [hn] at h; exact zns h
   . exact h, fun W0 W0 h => h, fun W0 W0 h => h⟩
 have old : ∀ {i o}, (st.new x).get i = some o -> i ≠ n -> st.get i = some o := fun e q => by rw [St.get_new, hN, if_neg q] at e; exact e
 have oldp : ∀ {i ad}, (if i = n then some (a, d) else g.pl i) = some ad -> i ≠ n -> g.pl i = some ad := fun e q => by rw [if_neg q] at e; exact e
 have newp : ∀ {i ad}, (if i = n then some (a, d) else g.pl i) = some ad -> i = n -> ad = (a, d) := fun e q => by rw [if_pos q] at e; exact (oi e).symm
 refine ⟨⟨fun p h => hs p (H.kni p h), fun p h => hs p (H.pvi p h), fun i o e => ?_, fun i o b b' e k => ?_, fun i j o o' b b' b1 b1' hij e e' k k' => ?_, ?_, H.pk⟩, l⟩
 . by_cases q : i = n
   . subst q
     have : x = o := by rw [St.get_new, hN, if_pos rfl] at e; exact oi e
     subst this
     exact ⟨a, d, if_pos rfl, hx l⟩
   . refine e22 (H.own i o (old e q) :) fun b b' h r => ?_
     exact ⟨b, b', by show (if i = n then some (a, d) else g.pl i) = _; refine rwm (if_neg q) ?_; exact h, r.mono l fun p h W0 => hs p h⟩
 . by_cases q : i = n
   . cases newp k q
     exact ⟨fun p h => ha p (H.kni p h), fun p h => ha p (H.pvi p h)⟩
   . exact H.off i o b b' (old e q) (oldp k q)
 . by_cases q : i = n
   . cases newp k q
     have q' : j ≠ n := fun z => hij (q.trans z.symm)
     refine e22 (H.own j o' (old e' q') :) fun c1 c2 h r => ?_
     cases oi (h.symm.trans (oldp k' q'))
     obtain ⟨⟨x1, m1⟩, x2, m2⟩ := r.mem
     exact ⟨fun z => (ha _ m1).1 z.symm, fun z => (ha _ m2).1 z.symm, fun z => (ha _ m1).2 z.symm, fun z => (ha _ m2).2 z.symm⟩
   . by_cases q' : j = n
     . cases newp k' q'
       refine e22 (H.own i o (old e q) :) fun c1 c2 h r => ?_
       cases oi (h.symm.trans (oldp k q))
       obtain ⟨⟨x1, m1⟩, x2, m2⟩ := r.mem
       exact ⟨fun z => (ha _ m1).1 z, fun z => (ha _ m1).2 z, fun z => (ha _ m2).1 z, fun z => (ha _ m2).2 z⟩
     . exact H.apart i j o o' b b' b1 b1' hij (old e q) (old e' q') (oldp k q) (oldp k' q')
 . intro i hi
   have hi' : n + 1 <= i := by refine rwb hN ?_; exact hi
   have F := H.fin i (by omega)
   refine ⟨?_, F.2⟩
   show (if i = n then some (a, d) else g.pl i) = none
   refine rwm (if_neg (by omega)) ?_
   exact F.1
noncomputable def q7i (a : Addr) (news : List (Addr × Obj)) : List (Addr × Obj) := news.filter fun p => decide (p.1 ≠ a)
theorem q0k {a : Addr} {news : List (Addr × Obj)} {p : Addr × Obj} : p ∈ q7i a news ↔ p ∈ news /\ p.1 ≠ a := by
 unfold q7i
 rw [List.mem_filter]
 simp
theorem q34 {a : Addr} {news : List (Addr × Obj)} : ∀ p ∈ q7i a news, p.1 ≠ a := fun W0 h => (q0k.mp h).2
theorem HK.change (H : HK c g st pv news) {n : Nat} {a d b : Addr} {x x' : AO} {o' : Obj} (hx : st.get n = some x) (hp : g.pl n = some (a, d)) (hb : b = a \/ b = d)
   (hr : ORel c g ((b, o') :: q7i b news) x' a d) : HK c g (st.set n x') pv ((b, o') :: q7i b news) := by
 have off := H.off n x a d hx hp
 have ne : ∀ {p : Addr × Obj}, (p.1 ≠ a /\ p.1 ≠ d) -> p.1 ≠ b := fun h => by rcases hb with rfl | rfl; exact h.1; exact h.2
 have old : ∀ {i o}, (st.set n x').get i = some o -> i ≠ n -> st.get i = some o := fun e q => by rw [St.get_set, if_neg q] at e; exact e
 have was : ∀ {i o}, (st.set n x').get i = some o -> ∃ o₀, st.get i = some o₀ := fun {i o} e => by
   by_cases q : i = n
   . exact ⟨x, q ▸ hx⟩
   . exact ⟨o, old e q⟩
 refine ⟨fun p h => .tail _ (q0k.mpr ⟨H.kni p h, ne (off.1 p h)⟩), fun p h => .tail _ (q0k.mpr ⟨H.pvi p h, ne (off.2 p h)⟩), fun i o e => ?_, fun i o b1 b2 e k => ?_, fun i j o o1 b1 b2 b3 b4 hij e e' k k' => ?_, H.fin, H.pk⟩
 . by_cases q : i = n
   . subst q
     have : x' = o := by rw [St.get_set, if_pos rfl] at e; exact oi e
     subst this
     exact ⟨a, d, hp, hr⟩
   . refine e22 (H.own i o (old e q) :) fun b1 b2 h r => ?_
     refine e04 (H.apart i n o x b1 b2 a d q (old e q) hx h hp :) fun z1 z2 z3 z4 => ?_
     refine ⟨b1, b2, h, r.mono .rfl fun p hm hq => .tail _ (q0k.mpr ⟨hm, ?_⟩)⟩
     rcases hq with hq | hq <;> rcases hb with rfl | rfl <;> refine rwm hq ?_ <;> assumption
 . obtain ⟨o₀, e₀⟩ := was e
   exact H.off i o₀ b1 b2 e₀ k
 . obtain ⟨o₀, e₀⟩ := was e
   obtain ⟨o₁, e₁⟩ := was e'
   exact H.apart i j o₀ o₁ b1 b2 b3 b4 hij e₀ e₁ k k'
theorem HK.freezeList (H : HK c g st pv news) {n : Nat} {vs : List V} (hx : st.get n = some (.list vs)) : ∃ g' a, g.le g' /\ g.pl n = some (a, a) /\ HK c g' (st.del n) pv news /\ VR c g' (.lst vs) (.ref a) := by
 refine e22 (H.own n _ hx :) fun a d hp r => ?_
 have hp' := hp
 cases r with
 | @list _ _ its k hm hr =>
 have l : g.le { g with kn := (a, PySem.W.listOf its.toArray k) :: g.kn } := ⟨fun p h => .tail _ h, fun W0 W0 h => h, fun W0 W0 h => h, fun W0 W0 h => h⟩
 have old : ∀ {i o}, (st.del n).get i = some o -> i ≠ n /\ st.get i = some o := fun {i o} e => by
   rw [St.get_del] at e
   by_cases q : i = n
   . rw [if_pos q] at e; exact zns e
   . rw [if_neg q] at e; exact ⟨q, e⟩
 refine ⟨{ g with kn := (a, PySem.W.listOf its.toArray k) :: g.kn }, a, l, hp, ⟨fun p h => ?_, H.pvi, fun i o e => ?_, fun i o b1 b2 e k' => ?_, fun i j o o1 b1 b2 b3 b4 hij e e' => H.apart i j o o1 b1 b2 b3 b4 hij (old e).2 (old e').2, H.fin, fun p hp q hq => by
   rcases mc hq with rfl | hq
   . exact ((H.off n _ a a hx hp').2 p hp).1
   . exact H.pk p hp q hq⟩, .lst (.inl (.head _)) (hr.mono l)⟩
 . cases h with
   | head => exact hm
   | tail _ h => exact H.kni p h
 . refine e22 (H.own i o (old e).2 :) fun b b' h r => ?_
   exact ⟨b, b', h, r.mono l fun p h W0 => h⟩
 . refine ⟨fun p h => ?_, (H.off i o b1 b2 (old e).2 k').2⟩
   cases h with
   | head =>
     refine e04 (H.apart n i _ o a a b1 b2 (Ne.symm (old e).1) hx (old e).2 hp k' :) fun z1 z2 z3 z4 => ?_
     exact ⟨z1, z2⟩
   | tail _ h => exact (H.off i o b1 b2 (old e).2 k').1 p h
theorem HK.freezeInst (H : HK c g st pv news) {n : Nat} {C : Addr} {fs : List (Str × V)} (hx : st.get n = some (.inst C fs)) : ∃ g' a d, g.le g' /\ g.pl n = some (a, d) /\ HK c g' (st.del n) pv news /\ VR c g' (.ob C fs) (.ref a) := by
 refine e22 (H.own n _ hx :) fun a d hp r => ?_
 have hp' := hp
 cases r with
 | @inst _ _ _ _ es k had hm hm' hr =>
 have l : g.le { g with kn := (a, instObj C d) :: (d, dictOf es k) :: g.kn } := ⟨fun p h => .tail _ (.tail _ h), fun W0 W0 h => h, fun W0 W0 h => h, fun W0 W0 h => h⟩
 have old : ∀ {i o}, (st.del n).get i = some o -> i ≠ n /\ st.get i = some o := fun {i o} e => by
   rw [St.get_del] at e
   by_cases q : i = n
   . rw [if_pos q] at e; exact zns e
   . rw [if_neg q] at e; exact ⟨q, e⟩
 refine ⟨_, a, d, l, hp, ⟨fun p h => ?_, H.pvi, fun i o e => ?_, fun i o b1 b2 e k' => ?_, fun i j o o1 b1 b2 b3 b4 hij e e' => H.apart i j o o1 b1 b2 b3 b4 hij (old e).2 (old e').2, H.fin, fun p hp q hq => by
   rcases mc hq with rfl | hq
   . exact ((H.off n _ a d hx hp').2 p hp).1
   . rcases mc hq with rfl | hq
     . exact ((H.off n _ a d hx hp').2 p hp).2
     . exact H.pk p hp q hq⟩, .ob (.inl (.head _)) (.inl (.tail _ (.head _))) (hr.mono l)⟩
 . rcases mc h with rfl | h
   . exact hm
   . rcases mc h with rfl | h
     . exact hm'
     . exact H.kni p h
 . refine e22 (H.own i o (old e).2 :) fun b b' h r => ?_
   exact ⟨b, b', h, r.mono l fun p h W0 => h⟩
 . refine ⟨fun p h => ?_, (H.off i o b1 b2 (old e).2 k').2⟩
   refine e04 (H.apart n i _ o a d b1 b2 (Ne.symm (old e).1) hx (old e).2 hp k' :) fun z1 z2 z3 z4 => ?_
   rcases mc h with rfl | h
   . exact ⟨z1, z2⟩
   . rcases mc h with rfl | h
     . exact ⟨z3, z4⟩
     . exact (H.off i o b1 b2 (old e).2 k').1 p h
theorem HK.pvPush (H : HK c g st pv news) {a : Addr} {o : Obj} (hf : ∀ p ∈ news, p.1 ≠ a) : HK c g st ((a, o) :: pv) ((a, o) :: news) := by
 refine ⟨fun p h => .tail _ (H.kni p h), fun p h => ?_, fun n x e => ?_, fun n x b d e k => ⟨(H.off n x b d e k).1, fun p hp => ?_⟩, H.apart, H.fin, fun p hp q hq => ?_⟩
 . rcases mc h with rfl | h
   . exact .head _
   . exact .tail _ (H.pvi p h)
 . refine e22 (H.own n x e :) fun b d h r => ?_
   exact ⟨b, d, h, r.mono .rfl fun p h W0 => .tail _ h⟩
 . refine e22 (H.own n x e :) fun b' d' h' r => ?_
   cases oi (h'.symm.trans k)
   obtain ⟨⟨x1, m1⟩, x2, m2⟩ := r.mem
   rcases mc hp with rfl | hp
   . exact ⟨fun q => hf _ m1 q.symm, fun q => hf _ m2 q.symm⟩
   . exact (H.off n x b d e k).2 p hp
 . rcases mc hp with rfl | hp
   . exact fun z => hf q (H.kni q hq) z.symm
   . exact H.pk p hp q hq
theorem HK.pvPop {p0 : Addr × Obj} (H : HK c g st (p0 :: pv) news) : HK c g st pv news :=
 ⟨H.kni, fun p h => H.pvi p (.tail _ h), H.own, fun n x b d e k => ⟨(H.off n x b d e k).1, fun p hp => (H.off n x b d e k).2 p (.tail _ hp)⟩, H.apart, H.fin, fun p hp => H.pk p (.tail _ hp)⟩
theorem HK.pvFreeze {a : Addr} {o : Obj} (H : HK c g st ((a, o) :: pv) news) (hd : ∀ p ∈ pv, p.1 ≠ a) : HK c { g with kn := (a, o) :: g.kn } st pv news /\ g.le { g with kn := (a, o) :: g.kn } := by
 have l : g.le { g with kn := (a, o) :: g.kn } := ⟨fun p h => .tail _ h, fun W0 W0 h => h, fun W0 W0 h => h, fun W0 W0 h => h⟩
 refine ⟨⟨fun p h => ?_, fun p h => H.pvi p (.tail _ h), fun n x e => ?_, fun n x b d e k => ⟨fun p hp => ?_, fun p hp => (H.off n x b d e k).2 p (.tail _ hp)⟩, H.apart, H.fin, fun p hp q hq => ?_⟩, l⟩
 . rcases mc h with rfl | h
   . exact H.pvi _ (.head _)
   . exact H.kni p h
 . refine e22 (H.own n x e :) fun b d h r => ?_
   exact ⟨b, d, h, r.mono l fun p h W0 => h⟩
 . rcases mc hp with rfl | hp
   . exact (H.off n x b d e k).2 _ (.head _)
   . exact (H.off n x b d e k).1 p hp
 . rcases mc hq with rfl | hq
   . exact hd p hp
   . exact H.pk p (.tail _ hp) q hq
theorem HK.pvSet {a : Addr} {o o' : Obj} (H : HK c g st ((a, o) :: pv) news) (hd : ∀ p ∈ pv, p.1 ≠ a) : HK c g st ((a, o') :: pv) ((a, o') :: q7i a news) := by
 refine ⟨fun p h => .tail _ (q0k.mpr ⟨H.kni p h, fun z => H.pk _ (.head _) p h z.symm⟩), fun p h => ?_, fun n x e => ?_, fun n x b d e k => ⟨(H.off n x b d e k).1, fun p hp => ?_⟩, H.apart, H.fin, fun p hp q hq => ?_⟩
 . rcases mc h with rfl | h
   . exact .head _
   . exact .tail _ (q0k.mpr ⟨H.pvi p (.tail _ h), hd p h⟩)
 . refine e22 (H.own n x e :) fun b d h r => ?_
   have off := (H.off n x b d e h).2 _ (.head _)
   exact ⟨b, d, h, r.mono .rfl fun p hm hq => .tail _ (q0k.mpr ⟨hm, by rcases hq with hq | hq <;> refine rwm hq ?_ <;> first | exact off.1.symm | exact off.2.symm⟩)⟩
 . rcases mc hp with rfl | hp
   . exact (H.off n x b d e k).2 (a, o) (.head _)
   . exact (H.off n x b d e k).2 p (.tail _ hp)
 . rcases mc hp with rfl | hp
   . exact H.pk (a, o) (.head _) q hq
   . exact H.pk p (.tail _ hp) q hq
end
noncomputable def vInt (v : V) : Option Int := match v with
 | .int i => some i
 | _ => none
theorem q0p {v : V} {i : Int} (h : vInt v = some i) : v = .int i := by
 induction v using V.casesOn with
 | int j => exact congrArg V.int (oi h)
 | _ => exact zns h
noncomputable def q2q (v : V) : Option (List UInt8) := match v with
 | .bytes i => some i
 | _ => none
theorem q1i {v : V} {i : List UInt8} (h : q2q v = some i) : v = .bytes i := by
 induction v using V.casesOn with
 | bytes j => exact congrArg V.bytes (oi h)
 | _ => exact zns h
noncomputable def j8f (v : V) : Option (List V) := match v with
 | .lst i => some i
 | _ => none
theorem q8d {v : V} {i : List V} (h : j8f v = some i) : v = .lst i := by
 induction v using V.casesOn with
 | lst j => exact congrArg V.lst (oi h)
 | _ => exact zns h
noncomputable def vTup (v : V) : Option (List V) := match v with
 | .tup i => some i
 | _ => none
theorem z84 {v : V} {i : List V} (h : vTup v = some i) : v = .tup i := by
 induction v using V.casesOn with
 | tup j => exact congrArg V.tup (oi h)
 | _ => exact zns h
noncomputable def z83 (v : V) : Option Nat := match v with
 | .ref i => some i
 | _ => none
theorem q3e {v : V} {i : Nat} (h : z83 v = some i) : v = .ref i := by
 induction v using V.casesOn with
 | ref j => exact congrArg V.ref (oi h)
 | _ => exact zns h
noncomputable def vz (v : V) : Option Z := match v with
 | .int i => some (.c i)
 | .sint n k d => some (.s n k d)
 | _ => none
theorem z1g {v : V} {z : Z} (h : vz v = some z) : v = z.toV := by
 induction v using V.casesOn with
 | int j => exact congrArg Z.toV (oi h)
 | sint n k d => exact congrArg Z.toV (oi h)
 | _ => exact zns h
noncomputable def j8g (v : V) : Option Unit := match v with
 | .none => some ()
 | _ => none
theorem z2r {v : V} {u : Unit} (h : j8g v = some u) : v = .none := by
 induction v using V.casesOn with
 | none => rfl
 | _ => exact zns h
noncomputable def vSb (v : V) : Option SB := match v with
 | .sb b => some b
 | _ => none
theorem q7a {v : V} {b : SB} (h : vSb v = some b) : v = .sb b := by
 induction v using V.casesOn with
 | sb j => exact congrArg V.sb (oi h)
 | _ => exact zns h
noncomputable def vOb (v : V) : Option (Addr × List (Str × V)) := match v with
 | .ob C fs => some (C, fs)
 | _ => none
theorem q9x {v : V} {p : Addr × List (Str × V)} (h : vOb v = some p) : v = .ob p.1 p.2 := by
 induction v using V.casesOn with
 | ob C fs => exact oi h ▸ rfl
 | _ => exact zns h
noncomputable def vDct (v : V) : Option (List Str × List V) := match v with
 | .dct C fs => some (C, fs)
 | _ => none
theorem j8e {v : V} {p : List Str × List V} (h : vDct v = some p) : v = .dct p.1 p.2 := by
 induction v using V.casesOn with
 | dct C fs => exact oi h ▸ rfl
 | _ => exact zns h
noncomputable def z1e (v : V) : Option Bool := match v with
 | .bool b => some b
 | _ => none
theorem q48 {v : V} {b : Bool} (h : z1e v = some b) : v = .bool b := by
 induction v using V.casesOn with
 | bool j => exact congrArg V.bool (oi h)
 | _ => exact zns h
noncomputable def q8e (v : V) : Option (Nat × Int × Dm) := match v with
 | .sint n k d => some (n, k, d)
 | _ => none
theorem q2z {v : V} {p : Nat × Int × Dm} (h : q8e v = some p) : v = .sint p.1 p.2.1 p.2.2 := by
 induction v using V.casesOn with
 | sint n k d => exact oi h ▸ rfl
 | _ => exact zns h
noncomputable def vStr (v : V) : Option Str := match v with
 | .str s => some s
 | _ => none
theorem z1f {v : V} {s : Str} (h : vStr v = some s) : v = .str s := by
 induction v using V.casesOn with
 | str j => exact congrArg V.str (oi h)
 | _ => exact zns h
noncomputable def j2q (v : V) : Option Value := match v with
 | .prim w => some w
 | _ => none
theorem z2s {v : V} {w : Value} (h : j2q v = some w) : v = .prim w := by
 induction v using V.casesOn with
 | prim u => exact congrArg V.prim (oi h)
 | _ => exact zns h
noncomputable abbrev Loc := List (Str × V)
noncomputable abbrev Exc := Addr -> St -> Prop
noncomputable abbrev noX : Exc := fun W0 W0 => False
structure Pt where
 A : Around
 A0 : Around
 base : Heap
 outer : List Env
 env : Env
 top : Env
 L : Addr
 cn : List (Str × Nat)
 d : Nat
 tn : Bool
 nh : Bool
noncomputable def fas (l : List Env) : List Addr := l.filterMap (·.frame)
structure POk (c : Cx) (P : Pt) : Prop where
 hA : P.A.frames = some (P.top :: P.outer)
 hf : P.top.frame = some P.L
 kf : P.env.scope.kind = .function
 kt : P.top.scope.kind = .function
 gl : P.env.globals = mainGlobals
 bl : P.env.builtins = builtinsNs
 XB : c.K.In P.base
 TB : Top c.p c.loose c.mean c.mg c.mb P.base
 HB : c.H0.StaysIn P.base
 depth : P.A.depth + 4 * P.d + 4 < recursionLimit
 units : P.A.units + 40 * P.d + 400 < cLine
 hand : P.nh = true -> P.A.handled = none
theorem POk.lowU {c : Cx} {P : Pt} (ok : POk c P) {k : Nat} (h : k <= 400) : P.A.units + k < cLine := Nat.lt_of_le_of_lt (Nat.add_le_add (Nat.le_add_right _ _) h) ok.units
theorem POk.lowD {c : Cx} {P : Pt} (ok : POk c P) : P.A.depth < recursionLimit := Nat.lt_of_le_of_lt (Nat.le_trans (Nat.le_add_right _ _) (Nat.le_add_right _ _)) ok.depth
theorem z73 {a d : Nat} (h : a = d + 1) : 0 < a := h ▸ Nat.succ_pos d
theorem z06 {a d : Nat} (h : a = d + 1) : a - 1 = d := h ▸ rfl
theorem q3x {a b d k m r L : Nat} (h : a <= b + m) (hd : 0 < d) (hm : m <= k) (ok : b + k * d + r < L) : a + k * (d - 1) + r < L := by
 induction d using Nat.casesOn with
 | zero => exact absurd hd (Nat.lt_irrefl 0)
 | succ d =>
   refine Nat.lt_of_le_of_lt (Nat.add_le_add_right ?_ r) ok
   refine Nat.le_trans (Nat.add_le_add_right (Nat.le_trans h (Nat.add_le_add_left hm b)) (k * d)) (Nat.le_of_eq ?_)
   rw [Nat.add_assoc, Nat.add_comm k]
   rfl
structure At (c : Cx) (P : Pt) (g : Gh) (ρ : Loc) (st : St) (pv : List (Addr × Obj)) (m ns : Str -> Option Value) (news : List (Addr × Obj)) (h0 h : Heap) : Prop where
 ok : POk c P
 below : Below P.A0 P.base P.outer h0
 dicts : KtsDicts (fas P.outer) h0
 fr : Fr h0 P.L h m
 nw : News h0 P.L h news
 hk : HK c g st pv news
 loc : ∀ x v, ρ.lookup x = some v -> ∃ y, ns x = some y /\ VR c g v y
 cel : ∀ x n, P.cn.lookup x = some n -> ∃ a, P.env.cells.lookup x = some a /\ g.pl n = some (a, a)
 nsk : (P.env.locals = P.L /\ ns = m) \/ ∃ oC, (P.env.locals, oC) ∈ pv /\ LCg.NsObj oC ns
structure Mv (P : Pt) (h0 h0' : Heap) : Prop where
 turn : KtsTurn (fas P.outer) h0 h0'
 same : P.tn = false -> h0' = h0
theorem Mv.rfl {P : Pt} {h0 : Heap} : Mv P h0 h0 := ⟨.refl, fun W0 => by rfl⟩
theorem Mv.trans {P : Pt} {h0 h1 h2 : Heap} (x : Mv P h0 h1) (y : Mv P h1 h2) : Mv P h0 h2 := ⟨x.turn.trans y.turn, fun e => (y.same e).trans (x.same e)⟩
structure MadeD (h h' : Heap) (e : Addr) (cls : Value) (args : List Value) : Prop where
 keeps : ∀ b o, h.get? b = some o -> h'.get? b = some o
 new : h.get? e = none
 there : ∃ t dd, h'.get? e = some { cls := cls, dict := dd, data := .fields #[.ref t, .none, .none, .none, .bool false, .none] } /\ h.get? t = none /\ h'.get? t = some { cls := .type "tuple", data := .seq args.toArray }
noncomputable def Rz (c : Cx) (P : Pt) (g : Gh) (st : St) (pv : List (Addr × Obj)) (m : Str -> Option Value) (h0 : Heap) (C e : Addr) (h : Heap) : Prop :=
 ∃ news, HK c g st pv news /\ Below P.A0 P.base P.outer h0 /\ KtsDicts (fas P.outer) h0 /\
   ((∃ h1 vs, MadeD h1 h e (.ref C) vs /\ Fr h0 P.L h1 m /\ News h0 P.L h1 news) \/
    (∃ G t vs, RaisedS P.base G (P.top :: P.outer) e (.ref C) t vs news h /\ Fr h0 P.L G m /\ G.UpToSlots h))
section
variable {c : Cx} {P : Pt} {g : Gh} {ρ : Loc} {st : St} {pv news : List (Addr × Obj)} {m ns : Str -> Option Value} {h0 h : Heap}
theorem At.kin (a : At c P g ρ st pv m ns news h0 h) : c.K.In h0 := a.ok.XB.keeps a.below.stays
theorem At.top (a : At c P g ρ st pv m ns news h0 h) : Top c.p c.loose c.mean c.mg c.mb h0 := a.ok.TB.keeps a.below.stays
theorem At.tr (a : At c P g ρ st pv m ns news h0 h) : TopRead c.p c.loose c.mg c.mb h0 := topRead_of a.top
theorem At.kinH (a : At c P g ρ st pv m ns news h0 h) : c.K.In h := a.kin.keeps a.fr.keep
theorem At.get (a : At c P g ρ st pv m ns news h0 h) {b : Addr} {o : Obj} (x : Has c g b o) : h.get? b = some o := by
 rcases x with x | x
 . exact (a.nw _ (a.hk.kni _ x)).1
 . exact a.fr.keep _ _ (a.below.stays _ _ (a.ok.HB _ _ x))
theorem At.nsAt (a : At c P g ρ st pv m ns news h0 h) : h.Ns P.env.locals ns := by
 rcases a.nsk with ⟨e, e'⟩ | ⟨oC, hm, hn⟩
 . (refine rwm e ?_; refine rwm e' ?_); exact a.fr.ns
 . exact hn.ns (a.nw _ (a.hk.pvi _ hm)).1
theorem At.keeps (a : At c P g ρ st pv m ns news h0 h) {h' : Heap} (k : ∀ b o, h.get? b = some o -> h'.get? b = some o) : At c P g ρ st pv m ns news h0 h' :=
 ⟨a.ok, a.below, a.dicts, a.fr.keeps k, a.nw.grown k, a.hk, a.loc, a.cel, a.nsk⟩
theorem At.renew (a : At c P g ρ st pv m ns news h0 h) {g' : Gh} {st' : St} {news' : List (Addr × Obj)} {h' : Heap} (l : g.le g') (F : Fr h0 P.L h' m) (N : News h0 P.L h' news') (H : HK c g' st' pv news') : At c P g' ρ st' pv m ns news' h0 h' :=
 ⟨a.ok, a.below, a.dicts, F, N, H, fun x v e => by refine e12 (a.loc x v e :) fun y h1 h2 => ?_; exact ⟨y, h1, h2.mono l⟩, fun x n e => by refine e12 (a.cel x n e :) fun b h1 h2 => ?_; exact ⟨b, h1, l.pl _ _ h2⟩, a.nsk⟩
theorem At.ltSize (a : At c P g ρ st pv m ns news h0 h) : ∀ p ∈ news, p.1 < h.objs.size := fun p hp => Heap.lt_size (a.nw p hp).1
theorem At.pushFrozen (a : At c P g ρ st pv m ns news h0 h) {h' : Heap} {b : Addr} {o : Obj} (F : Fr h0 P.L h' m) (N : News h0 P.L h' ((b, o) :: news)) (hb : ∀ p ∈ news, p.1 ≠ b) :
   ∃ g', g.le g' /\ At c P g' ρ st pv m ns ((b, o) :: news) h0 h' /\ Has c g' b o := by
 obtain ⟨H, l⟩ := a.hk.freezeNew (o := o) hb
 exact ⟨_, l, a.renew l F N H, .inl (.head _)⟩
end
structure KQ {α β : Type} (c : Cx) (P : Pt) (ρ : Loc) (pv : List (Addr × Obj)) (m ns : Str -> Option Value) (R : Gh -> β -> α -> Prop) (Q : β -> St -> Prop) (X : Exc) (Qc : α -> Shared -> Prop) (Ec : Value -> Shared -> Prop) (g : Gh) (h0 : Heap) (s : Shared) : Prop where
 ok : ∀ g' news' h0' h' tk x b st', g.le g' -> Mv P h0 h0' -> At c P g' ρ st' pv m ns news' h0' h' -> R g' b x -> Q b st' -> Qc x { s with heap := h', toks := tk }
 ex : ∀ g' st' h0' h' tk C e, g.le g' -> Mv P h0 h0' -> Rz c P g' st' pv m h0' C e h' -> X C st' -> Ec (.ref e) { s with heap := h', toks := tk }
theorem KQ.step {α β : Type} {c : Cx} {P : Pt} {ρ : Loc} {pv : List (Addr × Obj)} {m ns : Str -> Option Value} {R : Gh -> β -> α -> Prop} {Q : β -> St -> Prop} {X : Exc} {Qc : α -> Shared -> Prop} {Ec : Value -> Shared -> Prop} {g g₁ : Gh} {h0 h01 : Heap} {s : Shared} {h₁ : Heap} {tk₁ : Nat}
   (K : KQ c P ρ pv m ns R Q X Qc Ec g h0 s) (l : g.le g₁) (v : Mv P h0 h01) : KQ c P ρ pv m ns R Q X Qc Ec g₁ h01 { s with heap := h₁, toks := tk₁ } :=
 ⟨fun g' news' h0' h' tk x b st' l' v' a r q => K.ok g' news' h0' h' tk x b st' (l.trans l') (v.trans v') a r q, fun g' st' h0' h' tk C e l' v' r x => K.ex g' st' h0' h' tk C e (l.trans l') (v.trans v') r x⟩
theorem KQ.now {α β : Type} {c : Cx} {P : Pt} {ρ : Loc} {pv news : List (Addr × Obj)} {m ns : Str -> Option Value} {R : Gh -> β -> α -> Prop} {Q : β -> St -> Prop} {X : Exc} {Qc : α -> Shared -> Prop} {Ec : Value -> Shared -> Prop} {g : Gh} {h0 : Heap} {s : Shared} {st : St}
   (K : KQ c P ρ pv m ns R Q X Qc Ec g h0 s) {x : α} {b : β} (a : At c P g ρ st pv m ns news h0 s.heap) (r : R g b x) (q : Q b st) {tk : Nat} : Qc x { s with toks := tk } := K.ok g news h0 s.heap tk x b st .rfl .rfl a r q
theorem KQ.here {α β : Type} {c : Cx} {P : Pt} {ρ : Loc} {pv news : List (Addr × Obj)} {m ns : Str -> Option Value} {R : Gh -> β -> α -> Prop} {Q : β -> St -> Prop} {X : Exc} {Qc : α -> Shared -> Prop} {Ec : Value -> Shared -> Prop} {g g' : Gh} {h0 h' : Heap} {s : Shared} {st : St} {tk : Nat}
   (K : KQ c P ρ pv m ns R Q X Qc Ec g h0 s) {x : α} {b : β} (l : g.le g') (a : At c P g' ρ st pv m ns news h0 h') (r : R g' b x) (q : Q b st) : Qc x { s with heap := h', toks := tk } := K.ok g' news h0 h' tk x b st l .rfl a r q
noncomputable def TrG {ι α β : Type} (c : Cx) (P : Pt) (ρ : Loc) (st : St) (Rel : Gh -> ι -> Prop) (R : Gh -> β -> α -> Prop) (t : ι -> Sem α) (Q : β -> St -> Prop) (X : Exc) : Prop :=
 ∀ g pv m ns news h0 (s : Shared) i (Qc : α -> Shared -> Prop) (Ec : Value -> Shared -> Prop), At c P g ρ st pv m ns news h0 s.heap -> Rel g i -> KQ c P ρ pv m ns R Q X Qc Ec g h0 s -> wpAny (model c.prog c.w) P.A (t i) Qc Ec s
theorem TrG.use {ι α β α' β' : Type} {c : Cx} {P : Pt} {ρ : Loc} {st : St} {Rel : Gh -> ι -> Prop} {R : Gh -> β -> α -> Prop} {t : ι -> Sem α} {Q : β -> St -> Prop} {X : Exc} {g : Gh} {pv news : List (Addr × Obj)} {m ns : Str -> Option Value} {h0 : Heap} {s : Shared} {i : ι}
   {R' : Gh -> β' -> α' -> Prop} {Q' : β' -> St -> Prop} {Qc : α' -> Shared -> Prop} {Ec : Value -> Shared -> Prop} {Qm : α -> Shared -> Prop} (h : TrG c P ρ st Rel R t Q X) (a : At c P g ρ st pv m ns news h0 s.heap) (hi : Rel g i) (K : KQ c P ρ pv m ns R' Q' X Qc Ec g h0 s)
   (next : ∀ g' news' h0' (s' : Shared) x b st', g.le g' -> At c P g' ρ st' pv m ns news' h0' s'.heap -> R g' b x -> Q b st' -> KQ c P ρ pv m ns R' Q' X Qc Ec g' h0' s' -> Qm x s') : wpAny (model c.prog c.w) P.A (t i) Qm Ec s :=
 h g pv m ns news h0 s i Qm Ec a hi ⟨fun g' news' h0' W0 W0 x b st' l v a' r q => next g' news' h0' _ x b st' l a' r q (K.step l v), K.ex⟩
noncomputable def j8d : Gh -> Unit -> Prop := fun W0 W0 => True
noncomputable def EvE (c : Cx) (P : Pt) (ρ : Loc) (st : St) (e : Expr) (Q : V -> St -> Prop) (X : Exc) : Prop := TrG c P ρ st j8d (VR c) (fun W0 => eval e P.env) Q X
noncomputable def EvT (c : Cx) (P : Pt) (ρ : Loc) (st : St) (e : Expr) (Q : Bool -> St -> Prop) (X : Exc) : Prop := TrG c P ρ st j8d (fun _ (b b' : Bool) => b = b') (fun W0 => isTrue e P.env (eval e P.env)) Q X
noncomputable def rel1 (c : Cx) (a : V) : Gh -> Value -> Prop := fun g x => VR c g a x
noncomputable def x10 (c : Cx) (a b : V) : Gh -> Value × Value -> Prop := fun g p => VR c g a p.1 /\ VR c g b p.2
noncomputable def z77 (c : Cx) (f : V) (vs : List V) : Gh -> Value × List Value -> Prop := fun g p => VR c g f p.1 /\ VRs c g vs p.2
noncomputable def q4z (c : Cx) (P : Pt) (ρ : Loc) (st : St) (op : Operator) (a b : V) (Q : V -> St -> Prop) (X : Exc) : Prop := TrG c P ρ st (x10 c a b) (VR c) (fun p => binaryOp op p.1 p.2) Q X
noncomputable def q1o (c : Cx) (P : Pt) (ρ : Loc) (st : St) (op : CmpOp) (a b : V) (Q : V -> St -> Prop) (X : Exc) : Prop := TrG c P ρ st (x10 c a b) (VR c) (fun p => compareOp op p.1 p.2) Q X
noncomputable def z4c (c : Cx) (P : Pt) (ρ : Loc) (st : St) (a : V) (Q : Bool -> St -> Prop) (X : Exc) : Prop := TrG c P ρ st (rel1 c a) (fun _ (b b' : Bool) => b = b') (fun x => truthy x) Q X
noncomputable def q0i (c : Cx) (P : Pt) (ρ : Loc) (st : St) (f : V) (vs : List V) (Q : V -> St -> Prop) (X : Exc) : Prop := TrG c P ρ st (z77 c f vs) (VR c) (fun p => call p.1 p.2 []) Q X
theorem x10.ints {c : Cx} {a b : Int} {g : Gh} {p : Value × Value} (h : x10 c (.int a) (.int b) g p) : ∃ t u, p = (.int a t, .int b u) := by
 obtain ⟨x, y⟩ := p
 obtain ⟨t, rfl⟩ := h.1.intI
 obtain ⟨u, rfl⟩ := h.2.intI
 exact ⟨t, u, rfl⟩
theorem z77.one {c : Cx} {f : Value} {v : V} {g : Gh} {p : Value × List Value} (h : z77 c (.prim f) [v] g p) : ∃ x, p = (f, [x]) /\ VR c g v x := by
 obtain ⟨x, xs⟩ := p
 refine rwb (h.1.primI) ?_
 (refine e12 h.2.oneI fun y r => ?_; subst r; intro h1)
 exact ⟨y, rfl, h1⟩
theorem z77.two {c : Cx} {f : Value} {v w : V} {g : Gh} {p : Value × List Value} (h : z77 c (.prim f) [v, w] g p) : ∃ x y, p = (f, [x, y]) /\ VR c g v x /\ VR c g w y := by
 obtain ⟨x, xs⟩ := p
 refine rwb (h.1.primI) ?_
 (refine e23 h.2.twoI fun y z r => ?_; subst r; intro h1 h2)
 exact ⟨y, z, rfl, h1, h2⟩
noncomputable def z2v (c : Cx) (P : Pt) (ρ : Loc) (st : St) (f : V) (vs : List V) (Q : V -> St -> Prop) (X : Exc) : Prop := ∀ g pv m ns news h0 (s : Shared) x xs (R : Result -> Shared -> Prop), At c P g ρ st pv m ns news h0 s.heap -> VR c g f x -> VRs c g vs xs ->
 KQ c P ρ pv m ns (VR c) Q X (fun v s' => R (.ok (.ret v)) s') (fun e s' => R (.error e) s') g h0 s -> codeAny (model c.prog c.w) P.A (.call x ⟨xs, []⟩) R s
theorem z2v.toP {c : Cx} {P : Pt} {ρ : Loc} {st : St} {f : V} {vs : List V} {Q : V -> St -> Prop} {X : Exc} (h : z2v c P ρ st f vs Q X) : q0i c P ρ st f vs Q X :=
 fun g pv m ns news h0 s i Qc Ec a hi K => wpAny_call (h g pv m ns news h0 s i.1 i.2 _ a hi.1 hi.2 ⟨K.ok, K.ex⟩)
noncomputable def q0d (c : Cx) (d : Nat) (tn : Bool) (st : St) (f : V) (vs : List V) (Q : V -> St -> Prop) (X : Exc) : Prop := ∀ P ρ, P.d = d -> P.tn = tn -> P.nh = true -> z2v c P ρ st f vs Q X
section
variable {ι κ α β γ δ : Type} {c : Cx} {P : Pt} {ρ : Loc} {st : St} {X : Exc}
theorem TrG.mono {Rel : Gh -> ι -> Prop} {R : Gh -> β -> α -> Prop} {t : ι -> Sem α} {Q Q' : β -> St -> Prop} (h : TrG c P ρ st Rel R t Q X) (hq : ∀ b st', Q b st' -> Q' b st') : TrG c P ρ st Rel R t Q' X :=
 fun g pv m ns news h0 s i Qc Ec a hi K => h g pv m ns news h0 s i Qc Ec a hi ⟨fun g' news' h0' h' tk x b st' l v a' r q => K.ok g' news' h0' h' tk x b st' l v a' r (hq b st' q), K.ex⟩
theorem TrG.monoX {Rel : Gh -> ι -> Prop} {R : Gh -> β -> α -> Prop} {t : ι -> Sem α} {Q : β -> St -> Prop} {X' : Exc} (h : TrG c P ρ st Rel R t Q X) (hx : ∀ C st', X C st' -> X' C st') : TrG c P ρ st Rel R t Q X' :=
 fun g pv m ns news h0 s i Qc Ec a hi K => h g pv m ns news h0 s i Qc Ec a hi ⟨K.ok, fun g' st' h0' h' tk C e l v r x => K.ex g' st' h0' h' tk C e l v r (hx C st' x)⟩
end
section
variable {c : Cx} {P : Pt} {ρ : Loc} {st : St} {X : Exc} {Q : V -> St -> Prop}
theorem q6w {i : Int} {k : Nat} {pos : Pos} (q : Q (.int i) st) : EvE c P ρ st (.Constant (.int i) k pos) Q X :=
 fun W0 W0 W0 W0 W0 W0 W0 W0 W0 W0 a W0 K => wpAny_Constant_int (K.now a (.int i _) q)
theorem z0k {b : Bool} {k : Nat} {pos : Pos} (q : Q (.bool b) st) : EvE c P ρ st (.Constant (.bool b) k pos) Q X :=
 fun W0 W0 W0 W0 W0 W0 W0 W0 W0 W0 a W0 K => wpAny_pure (a := Value.bool b) (K.now a (.bool b) q)
theorem z6f {k : Nat} {pos : Pos} (q : Q .none st) : EvE c P ρ st (.Constant .none k pos) Q X :=
 fun W0 W0 W0 W0 W0 W0 W0 W0 W0 W0 a W0 K => wpAny_pure (a := Value.none) (K.now a .none q)
theorem z6g {x : Str} {k : Nat} {pos : Pos} (q : Q (.str x) st) : EvE c P ρ st (.Constant (.str x) k pos) Q X :=
 fun W0 W0 W0 W0 W0 W0 W0 W0 W0 W0 a W0 K => Calls.Constant_str (K.now a (.str x _) q)
theorem q04 {x : Str} {pos : Pos} {v : V} (hk : P.env.kindOf x = some .local) (hv : ρ.lookup x = some v) (q : Q v st) (hd : (x == ("__debug__" : Str)) = false) : EvE c P ρ st (.Name x pos) Q X :=
 fun g W0 W0 W0 W0 W0 W0 W0 W0 W0 a W0 K => by
   refine e12 (a.loc x v hv :) fun y h1 h2 => ?_
   exact wpAny_Name (wpAny_loadName_local a.ok.kf hk a.nsAt h1 (K.now a h2 q)) hd
theorem At.cellAt {g : Gh} {pv news : List (Addr × Obj)} {m ns : Str -> Option Value} {h0 h : Heap} (a : At c P g ρ st pv m ns news h0 h) {x : Str} {n : Nat} {v : V} (hc : P.cn.lookup x = some n) (hv : st.get n = some (.cell (some v))) :
   ∃ b y, P.env.cells.lookup x = some b /\ h.IsCell b (some y) /\ VR c g v y := by
 refine hid fun hG => ?_
 refine e12 (a.cel x n hc :) fun b h1 h2 => ?_
 refine e22 (a.hk.own n _ hv :) fun b1 d1 h3 r => ?_
 refine hG ?_
 rw [h2] at h3
 cases h3
 cases r with
 | cell hm hd hr => exact ⟨b, _, h1, ⟨_, (a.nw _ hm).1, hd⟩, hr⟩
theorem z6b {x : Str} {pos : Pos} {n : Nat} {v : V} (hk : P.env.kindOf x = some .cell) (hc : P.cn.lookup x = some n) (hv : st.get n = some (.cell (some v))) (q : Q v st) (hd : (x == ("__debug__" : Str)) = false) : EvE c P ρ st (.Name x pos) Q X :=
 fun g W0 W0 W0 W0 W0 W0 W0 W0 W0 a W0 K => by
   refine e23 (a.cellAt hc hv :) fun b y h1 h2 h3 => ?_
   exact wpAny_Name (wpAny_loadName_cell a.ok.kf hk h1 h2 (K.now a h3 q)) hd
theorem j5q {x : Str} {pos : Pos} {n : Nat} {v : V} (hk : P.env.kindOf x = some .free) (hc : P.cn.lookup x = some n) (hv : st.get n = some (.cell (some v))) (q : Q v st) (hd : (x == ("__debug__" : Str)) = false) (hn : (x == ("__classdict__" : Str)) = false) : EvE c P ρ st (.Name x pos) Q X :=
 fun g W0 W0 W0 W0 W0 W0 W0 W0 W0 a W0 K => by
   refine e23 (a.cellAt hc hv :) fun b y h1 h2 h3 => ?_
   exact wpAny_Name (wpAny_loadName_free a.ok.kf hk h1 h2 (K.now a h3 q) hn) hd
theorem j5r {x : Str} {pos : Pos} {v : Value} {b : V} (hk : P.env.kindOf x = some .globalImplicit) (e : nsIn c.K mainGlobals x = some (some v)) (hb : ∀ g, VR c g b v) (q : Q b st) (hd : (x == ("__debug__" : Str)) = false) : EvE c P ρ st (.Name x pos) Q X :=
 fun g W0 W0 W0 W0 W0 W0 W0 W0 W0 a W0 K =>
   Calls.Name_function_global a.ok.kf hk (Calls.loadGlobal_global (env := P.env) (by refine rwm a.ok.gl ?_; exact a.tr.g.keeps a.fr.keep) (mg_of a.kin a.tr.g e) (K.now a (hb g) q)) hd
theorem j5n {x : Str} {pos : Pos} {v : Value} (hk : P.env.kindOf x = some .globalImplicit) (e : nsIn c.K mainGlobals x = some none) (hv : bootBuiltins x = some v) (hn : x ≠ "__name__") (q : Q (.prim v) st) (hd : (x == ("__debug__" : Str)) = false) : EvE c P ρ st (.Name x pos) Q X :=
 fun g W0 W0 W0 W0 W0 W0 W0 W0 W0 a W0 K =>
   Calls.Name_function_global a.ok.kf hk (Calls.loadGlobal_builtin (env := P.env) (by refine rwm a.ok.gl ?_; exact a.tr.g.keeps a.fr.keep) (mg_none_of a.kin a.tr.g e) (by refine rwm a.ok.bl ?_; exact a.tr.b.keeps a.fr.keep) ((a.tr.builtins x hn).trans hv)
     (K.now a (.prim v) q)) hd
theorem EvE.use {α' β' : Type} {e : Expr} {Q : V -> St -> Prop} {g : Gh} {pv news : List (Addr × Obj)} {m ns : Str -> Option Value} {h0 : Heap} {s : Shared}
   {R' : Gh -> β' -> α' -> Prop} {Q' : β' -> St -> Prop} {Qc : α' -> Shared -> Prop} {Ec : Value -> Shared -> Prop} {Qm : Value -> Shared -> Prop} (h : EvE c P ρ st e Q X) (a : At c P g ρ st pv m ns news h0 s.heap) (K : KQ c P ρ pv m ns R' Q' X Qc Ec g h0 s)
   (next : ∀ g' news' h0' (s' : Shared) x b st', g.le g' -> At c P g' ρ st' pv m ns news' h0' s'.heap -> VR c g' b x -> Q b st' -> KQ c P ρ pv m ns R' Q' X Qc Ec g' h0' s' -> Qm x s') : wpAny (model c.prog c.w) P.A (eval e P.env) Qm Ec s :=
 TrG.use (i := ()) h a trivial K next
theorem q4e {l r : Expr} {op : Operator} {pos : Pos} (h : EvE c P ρ st l (fun a st₁ => EvE c P ρ st₁ r (fun b st₂ => q4z c P ρ st₂ op a b Q X) X) X) : EvE c P ρ st (.BinOp l op r pos) Q X :=
 fun W0 W0 W0 W0 W0 W0 W0 W0 W0 W0 a W0 K => wpAny_BinOp (h.use a K fun W0 W0 W0 W0 x W0 W0 W0 a' r q K' => q.use a' K' fun W0 W0 W0 W0 y W0 W0 l' a'' r' q' K'' => q' _ _ _ _ _ _ _ (x, y) _ _ a'' ⟨r.mono l', r'⟩ K'')
end
theorem q5q {env : Env} {L b : Addr} {outer : List Env} (hf : env.frame = some L) (hm : b ∈ fas (env :: outer)) : b = L \/ b ∈ fas outer := by
 unfold fas at hm ⊢
 rw [List.filterMap_cons, hf] at hm
 rcases mc hm with e | e
 . exact .inl e
 . exact .inr e
structure Entered (P : Pt) (m : Str -> Option Value) (h0 h G : Heap) (news : List (Addr × Obj)) : Prop where
 stay : h0.StaysIn G
 below : Below P.A P.base (P.top :: P.outer) G
 dicts : KtsDicts (fas (P.top :: P.outer)) G
 frG : Fr h0 P.L G m
 of : ∀ b o, G.get? b = some o -> h.get? b = some o
 size : G.objs.size = h.objs.size
 out : ∀ p ∈ news, G.get? p.1 = none
 leave : ∀ (g' h' : Heap) (L' : Addr) (m' : Str -> Option Value) (news' : List (Addr × Obj)), KtsTurn (fas (P.top :: P.outer)) G g' -> Fr g' L' h' m' -> News g' L' h' news' ->
   ∃ h0', KtsTurn (fas P.outer) h0 h0' /\ (g' = G -> h0' = h0) /\ Fr h0' P.L h' m /\ News h0' P.L h' news' /\ Below P.A0 P.base P.outer h0' /\ KtsDicts (fas P.outer) h0'
theorem z51 {c : Cx} {P : Pt} {m : Str -> Option Value} {h0 h : Heap} {news : List (Addr × Obj)} (ok : POk c P) (B : Below P.A0 P.base P.outer h0) (D : KtsDicts (fas P.outer) h0) (F : Fr h0 P.L h m) (N : News h0 P.L h news) :
   Entered P m h0 h (hideAll h (news.map (·.1))) news := by
 have nm : ∀ b o, h0.get? b = some o -> b ∉ news.map (·.1) := fun b o e q => by
   (refine e12 (List.mem_map.mp q :) fun p hp r => ?_; subst r)
   rw [(N p hp).2.2] at e; exact zns e
 have st : h0.StaysIn (hideAll h (news.map (·.1))) := fun b o e => hideAll_get _ (F.keep b o e) (nm b o e)
 refine e34 F.ns fun oL es ep hL hLd hLk hLf => ?_
 have nL : P.L ∉ news.map (·.1) := fun q => by
   refine e12 (List.mem_map.mp q :) fun p hp e => ?_
   exact (N p hp).2.1 e
 have hLg := hideAll_get (news.map (·.1)) hL nL
 have B₁ := pushX B F ok.hf ok.kt
 have nL₀ : h0.get? P.L = none := kts_self F
 have hN : ∀ (sl : Array (Option Value)) (h' : Heap), h'.get? P.L = some { oL with slots := sl } -> h'.Ns P.L m := fun sl h' e => ⟨_, es, ep, e, hLd, hLk, hLf⟩
 refine ⟨st, ⟨ok.hA, fun b o e => st b o (B.stays b o e), funFrames_hideAll B₁.frames fun env' he b hb hf' => ?_⟩, fun b hb => ?_, ⟨⟨oL, es, ep, hLg, hLd, hLk, hLf⟩, st, F.above⟩, fun b o e => of_hideAll _ e, hideAll_size _ _, fun p hp => hideAll_none _ (List.mem_map_of_mem hp), fun g' h' L' m' news' T' F' N' => ?_⟩
 . cases he with
   | head => exact nL ((oi (ok.hf.symm.trans hf') : P.L = b) ▸ hb)
   | tail _ he =>
     refine e22 (funFrames_in B.frames env' he :) fun L₁ o₁ hf₁ ho₁ => ?_
     rw [hf₁] at hf'
     exact nm L₁ o₁ ho₁ ((oi hf' : L₁ = b) ▸ hb)
 . rcases q5q ok.hf hb with rfl | hb
   . exact ⟨oL, es, ep, hLg, hLd⟩
   . refine e32 (D b hb :) fun o es' n' ho' hd' => ?_
     exact ⟨o, es', n', st b o ho', hd'⟩
 . have newsOk : ∀ (h0' : Heap), (∀ b, h0.get? b = none -> h0'.get? b = none) -> News h0' P.L h' news' := fun h0' k p hp => by
     refine ⟨(N' p hp).1, fun q => ?_, k _ ?_⟩
     . obtain ⟨sl, hs⟩ := T'.up hLg
       have := (N' p hp).2.2; rw [q, hs] at this; exact zsn this
     . refine q1v (h0.get? p.1) (fun q => ?_) fun o q => ?_
       . rfl
       .
         obtain ⟨sl', hs'⟩ := T'.up (st _ _ q)
         have := (N' p hp).2.2
         rw [hs'] at this
         exact zsn this
   obtain ⟨sl, hs⟩ := T'.up hLg
   by_cases eq : g' = hideAll h (news.map (·.1))
   . subst eq
     exact ⟨h0, .refl, fun W0 => rfl, ⟨⟨oL, es, ep, F'.keep _ _ hLg, hLd, hLk, hLf⟩, fun b o e => F'.keep b o (st b o e), F.above⟩, newsOk h0 (fun W0 e => e), B, D⟩
   . obtain ⟨T₁, S₁⟩ := kts_turn_at (h := h') (fs := fas P.outer) (g := h0)
       (fun b hb => by
         obtain ⟨_, o, ho', _⟩ := B.frames.mem hb
         exact ⟨o, ho'⟩)
       (fun b o e nmem => F'.keep b o (T'.other b o (st b o e) (fun q => by
         rcases q5q ok.hf q with z | z
         . rw [z, nL₀] at e
           exact zns e
         . exact nmem z)))
       (fun b o e hm => by
         obtain ⟨sl', hs'⟩ := T'.up (st b o e)
         exact ⟨sl', F'.keep _ _ hs'⟩)
     have B₃ : Below P.A0 P.base P.outer (ktsHeap h' (fas P.outer) h0) := ⟨B.stack, fun b o e => T₁.other b o (B.stays b o e) (fun hm => by
       rw [(B.frames.mem hm).1] at e
       exact zns e), B.frames.of_keeps fun b o e W0 => by
       obtain ⟨sl', hs'⟩ := T₁.up e
       exact ⟨_, hs', rfl⟩⟩
     exact ⟨_, T₁, fun e => absurd e eq, ⟨hN sl _ (F'.keep _ _ hs), S₁, by refine rwm T₁.size ?_; exact F.above⟩, newsOk _ (fun b e => T₁.none_ _ e), B₃, D.turn T₁⟩
noncomputable def q0z (ns : List Str) (xs ds : List Value) : List (Str × Value) := ns.zip (xs ++ ds.drop (ds.length - (ns.length - xs.length)))
inductive FnIs (K : Frag) (f : Addr) (ns : List Str) (body : List Stmt) (sc : Scope) (ds : List Value) (qual : Str) (cdv : Value) : Prop
 | mk {oc : Value} {od : Option Addr} {name : Str} {params : Arguments} {dV kV doc pm : Value} {an : Option Addr} {ct : Value} {osl : Array (Option Value)} (hl : K.lookup f = some ⟨oc, od, .func { name, qualname := qual, params, body := .stmts body, scope := sc, globals := mainGlobals, closure := [], defaults := dV, kwdefaults := kV, doc, pyModule := pm, annotations := an, code := cdv, closureTuple := ct, builtins := builtinsNs }, osl⟩)
   (h1 : params.posonlyargs = []) (h2 : params.args.map (·.arg) = ns) (h3 : params.kwonlyargs = []) (h4 : params.vararg = none) (h5 : params.kwarg = none) (hd : (dV = .none /\ ds = []) \/ ∃ T o k, dV = .ref T /\ K.lookup T = some o /\ o.data = .seq ds.toArray k) (code : codeIn K cdv qual = true)
theorem j5e {K : Frag} {h : Heap} {dV : Value} {ds : List Value} (X : K.In h) (hd : (dV = .none /\ ds = []) \/ ∃ T o k, dV = .ref T /\ K.lookup T = some o /\ o.data = .seq ds.toArray k) : (dV = .none /\ ds = []) \/ ∃ T o k, dV = .ref T /\ h.get? T = some o /\ o.data = .seq ds.toArray k :=
 hd.imp id fun ⟨T, o, k, e1, e2, e3⟩ => ⟨T, o, k, e1, X _ _ e2, e3⟩
theorem q39 {ns : List Str} (hn : ns.Nodup) : ∀ {xs : List Value} {i : Nat} {n : Str}, ns[i]? = some n -> (ns.zip xs).lookup n = xs[i]? := by
 induction ns with
 | nil => intro xs i n h; simp at h
 | cons a r ih =>
   intro xs i n h
   obtain ⟨hr, hn⟩ := List.nodup_cons.mp hn
   induction xs using List.casesOn with
   | nil => simp
   | cons x xs =>
     (refine rwm List.zip_cons_cons ?_; refine rwm List.lookup_cons ?_)
     induction i using Nat.casesOn with
     | zero => simp only [List.getElem?_cons_zero, Option.some.injEq] at h; subst h; simp
     | succ i =>
       simp only [List.getElem?_cons_succ] at h ⊢
       have : (n == a) = false := by simp only [beq_eq_false_iff_ne, ne_eq]; intro z; exact hr (z ▸ List.mem_of_getElem? h)
       refine rwm this ?_
       exact ih hn h
theorem q7t (F : Str -> Option Value) : ∀ (ns : List Str) (ys : List Value), ns.length <= ys.length -> (∀ (i : Nat) (n : Str), ns[i]? = some n -> F n = ys[i]?) -> ns.filterMap (fun n => (F n).map (n, ·)) = ns.zip ys := by
 intro ns
 induction ns with
 | nil => intro _ _ _; rfl
 | cons a r ih =>
   intro ys h k
   induction ys using List.casesOn with
   | nil => exact absurd h (Nat.not_succ_le_zero _)
   | cons y ys =>
   have h0 := k 0 a rfl
   (refine rwm List.filterMap_cons ?_; refine rwm h0 ?_)
   simp only [List.getElem?_cons_zero, Option.map_some, List.zip_cons_cons]
   (refine rwm (ih ys (Nat.le_of_succ_le_succ h) fun i n e => k (i + 1) n e) ?_; rfl)
noncomputable def q33 (slots : List (Str × Value)) (p : Str × Value) : List (Str × Value) := if (slots.lookup p.1).isNone then slots ++ [p] else slots
theorem q6c : ∀ (l slots : List (Str × Value)) (n : Str), (l.foldl q33 slots).lookup n = (slots.lookup n).or (l.lookup n) := by
 intro l
 induction l with
 | nil => intro slots n; simp
 | cons p l ih =>
   intro slots n
   (refine rwm List.foldl_cons ?_; refine rwm (ih _ _) ?_; refine rwm List.lookup_cons ?_)
   unfold q33
   by_cases h : (slots.lookup p.1).isNone = true
   . (refine rwm (if_pos h) ?_; refine rwm List.lookup_append ?_; refine rwm List.lookup_cons ?_)
     by_cases e : n = p.1
     . subst e
       refine rwm (Option.isNone_iff_eq_none.mp h) ?_
       simp
     . have : (n == p.1) = false := by simpa using e
       refine rwm this ?_
       simp
   . refine rwm (if_neg h) ?_
     by_cases e : n = p.1
     . subst e
       obtain ⟨v, hv⟩ := Option.ne_none_iff_exists'.mp (fun z => h (Option.isNone_iff_eq_none.mpr z))
       refine rwm hv ?_; simp
     . have : (n == p.1) = false := by simpa using e
       (refine rwm this ?_; rfl)
theorem q7w (l : List (Str × Value)) (f : Str × Value -> List (Str × Value) -> Sem (ForInStep (List (Str × Value)))) (hf : ∀ p s, f p s = pure (.yield (q33 s p))) : ∀ slots, forIn l slots f = pure (l.foldl q33 slots) := by
 induction l with
 | nil => intro s; rfl
 | cons p l ih => intro s; (rewrite [List.forIn_cons]; refine rwm (hf _ _) ?_; refine rwm (pure_bind _ _) ?_); exact ih _
noncomputable def j93 (n : Nat) (r : Option (Array Value)) : List Value := List.drop ((r.getD #[]).toList.length - n) (r.getD #[]).toList
theorem z22 {fd : FuncData} {ns : List Str} {xs : List Value} (h1 : fd.params.posonlyargs = []) (h2 : fd.params.args.map (·.arg) = ns) (h3 : fd.params.kwonlyargs = []) (h4 : fd.params.vararg = none) (h5 : fd.params.kwarg = none) : ∃ E1 E2 : Option (Array Value) -> Sem (List (Str × Value)), bindArgs fd ⟨xs, []⟩ = seqItems? fd.defaults >>= fun r => if (decide (xs.length > ns.length) && true) = true then E1 r else
   if (!(List.filter (fun n => (List.lookup n (ns.zip xs)).isNone) (List.take (ns.length - (j93 ns.length r).length) ns)).isEmpty) = true then E2 r else
     (forIn ((List.drop (ns.length - (j93 ns.length r).length) ns).zip (j93 ns.length r)) (ns.zip xs) fun x s => if (List.lookup x.1 s).isNone = true then pure (ForInStep.yield (s ++ [(x.1, x.2)])) else pure (ForInStep.yield s)) >>= fun s => pure (List.filterMap (fun n => Option.map (fun x => (n, x)) (List.lookup n s)) (ns ++ [])) := by
 obtain ⟨name, qual, params, body, sc, globals, closure, dV, kV, doc, pm, an, cdv, ct, bl⟩ := fd
 obtain ⟨a1, a2, a3, a4, a5, a6⟩ := params
 dsimp only at h1 h2 h3 h4 h5
 subst h1 h2 h3 h4 h5
 exact ⟨_, _, rfl⟩
theorem j7q {N D X i : Nat} (hdn : D <= N) (hm : N <= X + D) (hl : X <= N) (hx : X <= i) : i - (N - D) = D - (N - X) + (i - X) := by
 refine (Nat.exists_eq_add_of_le hdn).elim fun a e => ?_
 subst e
 refine (Nat.exists_eq_add_of_le (Nat.le_of_add_le_add_left (Nat.add_comm X D ▸ hm))).elim fun b e => ?_
 subst e
 refine (Nat.exists_eq_add_of_le (Nat.le_of_add_le_add_left (Nat.add_comm D a ▸ hl))).elim fun c e => ?_
 subst e
 refine (Nat.exists_eq_add_of_le hx).elim fun j e => ?_
 subst e
 rw [Nat.add_sub_cancel_left, Nat.add_assoc a b j, Nat.add_sub_cancel_left, Nat.add_comm (b + c) a, <- Nat.add_assoc a b c, Nat.add_sub_cancel_left, Nat.add_sub_cancel, <- Nat.add_assoc a b j, Nat.add_sub_cancel_left]
theorem q7g {fd : FuncData} {ns : List Str} {xs ds : List Value} {s : Shared} (h1 : fd.params.posonlyargs = []) (h2 : fd.params.args.map (·.arg) = ns) (h3 : fd.params.kwonlyargs = []) (h4 : fd.params.vararg = none) (h5 : fd.params.kwarg = none)
   (hd : (fd.defaults = .none /\ ds = []) \/ ∃ T o k, fd.defaults = .ref T /\ s.heap.get? T = some o /\ o.data = .seq ds.toArray k)
   (hn : ns.Nodup) (hl : xs.length <= ns.length) (hm : ns.length <= xs.length + ds.length) (hdn : ds.length <= ns.length) : BindsTo s fd ⟨xs, []⟩ (q0z ns xs ds) := by
 intro M A E Q hq
 have key : ∀ {R : Option (Array Value) -> Shared -> Prop}, (∀ r, r.getD #[] = ds.toArray -> R r s) -> wpAny M A (seqItems? fd.defaults) R E s := by
   intro R hR
   rcases hd with ⟨e, rfl⟩ | ⟨T, o, k, e, ho, hd⟩
   . refine rwm e ?_; exact wpAny_pure (hR _ rfl)
   . refine rwm e ?_; exact wpAny_seqItems ho hd (hR _ rfl)
 refine e21 (z22 (xs := xs) h1 h2 h3 h4 h5 :) fun E1 E2 e => ?_
 refine rwm e ?_
 refine wpAny_bind (key fun r hr => ?_)
 have hr2 : j93 ns.length r = ds := by
   unfold j93
   (refine rwm hr ?_; refine rwm List.toList_toArray ?_; refine rwm (Nat.sub_eq_zero_of_le hdn) ?_; refine rwm List.drop_zero ?_; rfl)
 (refine rwm hr2 ?_; refine rwm (decide_eq_false (Nat.not_lt.mpr hl)) ?_; refine rwm (Bool.false_and _) ?_; refine rwm (if_neg Bool.false_ne_true) ?_)
 have g2 : (List.filter (fun n => (List.lookup n (ns.zip xs)).isNone) (List.take (ns.length - ds.length) ns)) = [] := by
   rw [List.filter_eq_nil_iff]
   intro n hn'
   obtain ⟨i, hi, e⟩ := List.getElem_of_mem hn'
   rw [List.length_take] at hi
   have hi' : i < xs.length := Nat.lt_of_lt_of_le hi (Nat.le_trans (Nat.min_le_left _ _) (Nat.sub_le_of_le_add hm))
   have e' : ns[i]? = some n := by (refine rwb e ?_; refine rwm List.getElem_take ?_); exact List.getElem?_eq_getElem _
   (refine rwm (q39 hn e') ?_; refine rwm (List.getElem?_eq_getElem hi') ?_)
   exact Bool.false_ne_true
 (refine rwm g2 ?_; refine rwm (show (!([] : List Str).isEmpty) = false from rfl) ?_; refine rwm (if_neg Bool.false_ne_true) ?_)
 refine wpAny_bind ?_
 refine rwm (q7w _ _ (fun p s => by unfold q33; split <;> rfl) _) ?_
 refine wpAny_pure (wpAny_pure ?_)
 have fin : (ns ++ []).filterMap (fun n => (List.lookup n (((ns.drop (ns.length - ds.length)).zip ds).foldl q33 (ns.zip xs))).map (n, ·)) = q0z ns xs ds := by
   unfold q0z
   refine rwm (List.append_nil _) ?_
   refine q7t _ ns _ (by rw [List.length_append, List.length_drop, Nat.sub_sub_self (Nat.sub_le_of_le_add (Nat.add_comm xs.length _ ▸ hm)), Nat.add_sub_cancel' hl]; exact Nat.le_refl _) fun i n e => ?_
   have hi : i < ns.length := (List.getElem?_eq_some_iff.mp e).1
   (rewrite [q6c]; refine rwm (q39 hn e) ?_)
   by_cases hx : i < xs.length
   . refine rwm (List.getElem?_append_left hx) ?_; simp [hx]
   . have hx := Nat.le_of_not_lt hx
     have k1 : ns.length - ds.length <= i := Nat.le_trans (Nat.sub_le_of_le_add hm) hx
     (refine rwm (List.getElem?_eq_none hx) ?_; refine rwm (List.getElem?_append_right hx) ?_; refine rwm Option.none_or ?_)
     have e2 : (ns.drop (ns.length - ds.length))[i - (ns.length - ds.length)]? = some n := by
       (refine rwm (List.getElem?_drop) ?_; refine rwm (Nat.add_sub_cancel' k1) ?_; refine rwm e ?_; rfl)
     (refine rwm (q39 (hn.sublist (List.drop_sublist _ _)) e2) ?_; refine rwm (List.getElem?_drop) ?_)
     exact congrArg (fun q => ds[q]?) (j7q hdn hm hl hx)
 refine rwm fin ?_
 exact hq
inductive Fl where
 | next | brk | cont
 | ret (v : V)
inductive FlR (c : Cx) (g : Gh) : Fl -> Flow -> Prop
 | next : FlR c g .next .next
 | brk : FlR c g .brk .brk
 | cont : FlR c g .cont .cont
 | ret {v : V} {x : Value} : VR c g v x -> FlR c g (.ret v) (.ret x)
noncomputable def Fl.val : Fl -> V
 | .ret v => v
 | _ => .none
structure KS (c : Cx) (P : Pt) (pv : List (Addr × Obj)) (Q : Fl -> Loc -> St -> Prop) (X : Exc) (Qc : Flow -> Shared -> Prop) (Ec : Value -> Shared -> Prop) (g : Gh) (h0 : Heap) (s : Shared) : Prop where
 ok : ∀ g' m' news' h0' h' tk x b ρ' st', g.le g' -> Mv P h0 h0' -> At c P g' ρ' st' pv m' m' news' h0' h' -> FlR c g' b x -> Q b ρ' st' -> Qc x { s with heap := h', toks := tk }
 ex : ∀ g' m' st' h0' h' tk C e, g.le g' -> Mv P h0 h0' -> Rz c P g' st' pv m' h0' C e h' -> X C st' -> Ec (.ref e) { s with heap := h', toks := tk }
theorem KS.step {c : Cx} {P : Pt} {pv : List (Addr × Obj)} {Q : Fl -> Loc -> St -> Prop} {X : Exc} {Qc : Flow -> Shared -> Prop} {Ec : Value -> Shared -> Prop} {g g₁ : Gh} {h0 h01 : Heap} {s : Shared} {h₁ : Heap} {tk₁ : Nat}
   (K : KS c P pv Q X Qc Ec g h0 s) (l : g.le g₁) (v : Mv P h0 h01) : KS c P pv Q X Qc Ec g₁ h01 { s with heap := h₁, toks := tk₁ } :=
 ⟨fun g' m' news' h0' h' tk x b ρ' st' l' v' a r q => K.ok g' m' news' h0' h' tk x b ρ' st' (l.trans l') (v.trans v') a r q, fun g' m' st' h0' h' tk C e l' v' r x => K.ex g' m' st' h0' h' tk C e (l.trans l') (v.trans v') r x⟩
noncomputable def ExB (c : Cx) (P : Pt) (ρ : Loc) (st : St) (t : Sem Flow) (Q : Fl -> Loc -> St -> Prop) (X : Exc) : Prop :=
 ∀ g pv m news h0 (s : Shared) (Qc : Flow -> Shared -> Prop) (Ec : Value -> Shared -> Prop), At c P g ρ st pv m m news h0 s.heap -> KS c P pv Q X Qc Ec g h0 s -> wpAny (model c.prog c.w) P.A t Qc Ec s
noncomputable abbrev ExS (c : Cx) (P : Pt) (ρ : Loc) (st : St) (ss : List Stmt) (Q : Fl -> Loc -> St -> Prop) (X : Exc) : Prop := ExB c P ρ st (execs ss P.env) Q X
noncomputable abbrev Ex1 (c : Cx) (P : Pt) (ρ : Loc) (st : St) (ss : Stmt) (Q : Fl -> Loc -> St -> Prop) (X : Exc) : Prop := ExB c P ρ st (exec ss P.env) Q X
section
variable {c : Cx} {P : Pt} {ρ : Loc} {st : St} {X : Exc} {Q Q' : Fl -> Loc -> St -> Prop} {t : Sem Flow}
theorem z6m (q : Q .next ρ st) : ExS c P ρ st [] Q X :=
 fun g pv m news h0 s Qc Ec a K => wpAny_execs_nil (K.ok g m news h0 s.heap s.toks .next .next ρ st .rfl .rfl a .next q)
theorem q1r {s₁ : Stmt} {ss : List Stmt} (h : Ex1 c P ρ st s₁ (fun b ρ' st' => match b with | .next => ExS c P ρ' st' ss Q X | b => Q b ρ' st') X) : ExS c P ρ st (s₁ :: ss) Q X :=
 fun g pv m news h0 s Qc Ec a K => by
   refine wpAny_execs_cons (h g pv m news h0 s _ _ a ⟨fun g' m' news' h0' h' tk x b ρ' st' l v a' r q => ?_, K.ex⟩)
   cases r with
   | next => exact q _ _ _ _ _ _ _ _ a' (K.step l v)
   | brk => exact K.ok g' m' news' h0' h' tk _ _ ρ' st' l v a' .brk q
   | cont => exact K.ok g' m' news' h0' h' tk _ _ ρ' st' l v a' .cont q
   | ret hr => exact K.ok g' m' news' h0' h' tk _ _ ρ' st' l v a' (.ret hr) q
end
noncomputable def Pt.inner (P : Pt) (env : Env) (L : Addr) (cn : List (Str × Nat)) : Pt := { A := P.A.deeper env, A0 := P.A, base := P.base, outer := P.top :: P.outer, env := env, top := env, L := L, cn := cn, d := P.d - 1, tn := P.tn, nh := P.nh }
theorem POk.inner {c : Cx} {P : Pt} (ok : POk c P) {env : Env} {L : Addr} {cn : List (Str × Nat)} (hd : 0 < P.d) (hf : env.frame = some L) (hk : env.scope.kind = .function) (hg : env.globals = mainGlobals) (hb : env.builtins = builtinsNs) : POk c (P.inner env L cn) :=
 ⟨Around.frames_deeper ok.hA, hf, hk, hk, hg, hb, ok.XB, ok.TB, ok.HB, q3x (m := 1) (Nat.le_refl _) hd (by decide) ok.depth, q3x (m := 3) (Nat.le_refl _) hd (by decide) ok.units, fun h => ok.hand h⟩
theorem zip_rel {c : Cx} {g : Gh} : ∀ {ns : List Str} {vs : List V} {ys : List Value} {x : Str} {v : V}, VRs c g vs ys -> (ns.zip vs).lookup x = some v -> ∃ y, (x, y) ∈ ns.zip ys /\ VR c g v y := by
 intro ns
 induction ns with
 | nil => intro vs ys x v r h; exact zns h
 | cons n ns ih =>
   intro vs ys x w r h
   induction vs using List.casesOn with
   | nil => exact zns h
   | cons v vs =>
   (refine e23 r.consI fun y ys r hv hr => ?_; refine rwm r ?_)
   change (match x == n with | true => some v | false => (ns.zip vs).lookup x) = some w at h
   refine q27 (x == n) (fun e => ?_) fun e => ?_
   . rw [e] at h
     refine rwb (oi h) ?_
     refine rwm (eq_of_beq e) ?_
     exact ⟨y, .head _, hv⟩
   . rw [e] at h
     refine e12 (ih hr h :) fun y' h1 h2 => ?_
     exact ⟨y', .tail _ h1, h2⟩
theorem q49 {α β : Type} : ∀ {ns : List α} {ys : List β}, ((ns.zip ys).map (·.1)).Sublist ns
 | [], _ => .slnil
 | _ :: _, [] => List.nil_sublist _
 | n :: ns, y :: ys => by refine rwm List.zip_cons_cons ?_; exact .cons_cons _ q49
theorem q4g : ∀ {cs : List (Str × Value)} {n : Str} {y : Value}, (cs.map (·.1)).Nodup -> (n, y) ∈ cs -> cs.lookup n = some y := by
 intro cs
 induction cs with
 | nil => intro n y hnd hm; exact nomatch hm
 | cons q cs ih =>
   intro n y hnd hm
   have hnd := List.nodup_cons.mp hnd
   refine rwm List.lookup_cons ?_
   rcases mc hm with e | e
   . refine rwb e ?_
     refine rwm (beq_self_eq_true n) ?_
     rfl
   . refine rwm (beq_eq_false_iff_ne.mpr fun z : n = q.1 => hnd.1 (List.mem_map.mpr ⟨_, e, z⟩)) ?_
     exact ih hnd.2 e
theorem q4c {ns : List Str} {ys : List Value} (hn : ns.Nodup) {x : Str} {y : Value} (h : (x, y) ∈ ns.zip ys) : (ns.zip ys).reverse.lookup x = some y := by
 refine q4g ?_ (List.mem_reverse.mpr h)
 refine rwm List.map_reverse ?_
 exact List.pairwise_reverse.mpr ((hn.sublist q49).imp fun h => Ne.symm h)
noncomputable def q6j (n : Nat) (vs dvs : List V) : List V := vs ++ dvs.drop (dvs.length - (n - vs.length))
theorem madeD_ground {A : Around} {base g h1 : Heap} {outer : List Env} {env : Env} {L : Addr} {m : Str -> Option Value} {news : List (Addr × Obj)} (K : Below A base outer g) (F : Fr g L h1 m) (N : News g L h1 news) (hf : env.frame = some L) (hk : env.scope.kind = .function) :
   ∃ B : Heap, base.StaysIn B /\ (∀ b o, g.get? b = some o -> b ∉ fas outer -> B.get? b = some o) /\ (∀ q ∈ news, B.get? q.1 = some q.2 /\ g.get? q.1 = none /\ base.get? q.1 = none) /\ B.StaysIn h1 /\ h1.FunFrames B (env :: outer) /\ ∀ b, h1.get? b = none -> B.get? b = none := by
 have K1 := pushX K F hf hk
 have sub : ∀ b o, (hideAll h1 (fas (env :: outer))).get? b = some o -> h1.get? b = some o := fun b o q => of_hideAll _ q
 refine ⟨hideAll h1 (fas (env :: outer)), fun b o q => hideAll_get _ (K1.stays b o q) fun hm => ?_, fun b o q nm => hideAll_get _ (F.keep b o q) fun hm => ?_, fun q hq => ⟨hideAll_get _ (N q hq).1 fun hm => ?_, (N q hq).2.2, fresh_of_stays K.stays (N q hq).2.2⟩, sub, funFrames_hide K1.frames fun env' he b hb => List.mem_filterMap.mpr ⟨env', he, hb⟩, fun b q => ?_⟩
 . rw [(K1.frames.mem hm).1] at q; exact zns q
 . rcases q5q hf hm with z | z
   . rw [z, kts_self F] at q; exact zns q
   . exact nm z
 . rcases q5q hf hm with z | z
   . exact (N q hq).2.1 z
   . obtain ⟨_, o, ho, _⟩ := K.frames.mem z
     rw [(N q hq).2.2] at ho; exact zns ho
 . refine q1v ((hideAll h1 (fas (env :: outer))).get? b) (fun r => ?_) fun o r => ?_
   . rfl
   . rw [sub _ _ r] at q; exact zsn q
theorem z0w {M : Model} {A A0 : Around} {E : Value -> Shared -> Prop} {s' : Shared} {base g h1 : Heap} {outer : List Env} {env : Env} {L e : Addr} {m : Str -> Option Value} {news : List (Addr × Obj)} {Q : Unit -> Shared -> Prop} {cls : Value} {vs : List Value}
   (K : Below A0 base outer g) (hA : A.frames = some (env :: outer)) (x : MadeD h1 s'.heap e cls vs) (F : Fr g L h1 m) (N : News g L h1 news) (hf : env.frame = some L) (hk : env.scope.kind = .function)
   (hQ : ∀ h' t, RaisedS base g outer e cls t vs news h' -> g.UpToSlots h' -> Q () { s' with heap := h' }) : wpAny M A (leaving env (.ref e)) Q E s' := by
 refine hid fun hG => ?_
 refine e16 (madeD_ground K F N hf hk :) fun B b1 b2 b3 b4 b5 b6 => ?_
 refine e23 x.there fun t dd he htn ht => ?_
 refine hG ?_
 refine wpAny_leaving_firstW (base := B) (a0 := .ref t) hA (b5.of_keeps fun b o hb W0 => ⟨o, x.keeps b o hb, rfl⟩) hf he (fun b o hb => x.keeps b o (b4 b o hb)) (b6 e x.new) rfl rfl rfl fun h' hL => ?_
 obtain ⟨k1, ⟨_, _, k2⟩, k3, k4⟩ := hL
 exact hQ h' t ⟨⟨B, b1, b2, b3, ⟨k1, b6 e x.new, k2, k3⟩, b6 t htn⟩, Heap.TupAt.of_slots ⟨_, _, ht, rfl, rfl⟩ k4⟩ (((Heap.UpToSlots.of_keeps F.keep).trans (Heap.UpToSlots.of_keeps x.keeps)).trans k4)
theorem j10 {c : Cx} {P : Pt} {m : Str -> Option Value} {h0 h G : Heap} {news₀ : List (Addr × Obj)} (En : Entered P m h0 h G news₀) (B : Below P.A0 P.base P.outer h0) (D : KtsDicts (fas P.outer) h0) {name : Str} {scope : Scope} {L' f : Addr} {cd : Value} (hk : scope.kind = .function)
   {g' : Gh} {st' : St} {pv : List (Addr × Obj)} {m' : Str -> Option Value} {g0' : Heap} {C e : Addr} {s' : Shared} {R : Result -> Shared -> Prop}
   (Z : Rz c (P.inner (envOf name scope L' f cd) L' []) g' st' pv m' g0' C e s'.heap) (same : g0' = G)
   (k : ∀ h'', Rz c P g' st' pv m h0 C e h'' -> R (.error (.ref e)) { s' with heap := h'' }) :
   wpAny (model c.prog c.w) (P.A.deeper (envOf name scope L' f cd)) (leaving (envOf name scope L' f cd) (.ref e)) (fun W0 s'' => R (.error (.ref e)) s'') (fun e' s'' => R (.error e') s'') s' := by
 subst same
 refine e14 Z fun news HK' B' D' hz => ?_
 rcases hz with ⟨h1, vs, hx, F, N⟩ | ⟨G2, t, vs, R', F, U⟩
 . exact z0w B' (Around.frames_deeper B'.stack) hx F N rfl hk fun h' t R1 U1 => k h' ⟨news, HK', B, D, .inr ⟨_, t, vs, R1, En.frG, U1⟩⟩
 . exact leave_onS B' F R' U (fun h' R1 W0 U1 => k h' ⟨news, HK', B, D, .inr ⟨_, t, vs, R1, En.frG, U1⟩⟩)
theorem At.after {c : Cx} {P : Pt} {g g' : Gh} {ρ : Loc} {st st' : St} {pv news news' : List (Addr × Obj)} {m ns : Str -> Option Value} {h0 h h0' h' : Heap} (a : At c P g ρ st pv m ns news h0 h) (B : Below P.A0 P.base P.outer h0') (D : KtsDicts (fas P.outer) h0') (F : Fr h0' P.L h' m) (N : News h0' P.L h' news') (H : HK c g' st' pv news') (l : g.le g') : At c P g' ρ st' pv m ns news' h0' h' :=
 ⟨a.ok, B, D, F, N, H, fun x v e => (a.loc x v e).imp fun y q => ⟨q.1, q.2.mono l⟩, fun x n e => (a.cel x n e).imp fun b q => ⟨q.1, l.pl _ _ q.2⟩, a.nsk⟩
theorem q42 {c : Cx} {f : Addr} {ns : List Str} {body : List Stmt} {sc : Scope} {ds : List Value} {qual : Str} {cdv : Value} (I : FnIs c.K f ns body sc ds qual cdv)
   {d : Nat} {tn : Bool} {st : St} {vs dvs : List V} {Q : V -> St -> Prop} {X : Exc} (hdv : ∀ g, VRs c g dvs ds)
   (hn : ns.Nodup) (hl : vs.length <= ns.length) (hm : ns.length <= vs.length + dvs.length) (hdn : dvs.length <= ns.length)
   (hcell : ∀ x ∈ sc.names, x.2 ≠ .cell) (hloc : ∀ y ∈ ns, sc.names.lookup y = some .local) (hco : sc.isCoroutine = false) (hgen : sc.isGenerator = false) (hk : sc.kind = .function) (hx : tn = true -> ∀ C st', ¬X C st')
   (hb : ∀ P : Pt, P.d = d -> P.tn = tn -> P.nh = true -> P.cn = [] -> P.env.scope = sc -> P.env.locals = P.L -> P.env = P.top -> ExS c P (ns.zip (q6j ns.length vs dvs)) st body (fun fl W0 st' => Q fl.val st') X) : q0d c (d + 1) tn st (.prim (.ref f)) vs Q X := by
 intro P ρ hPd hPt hPn g pv m ns₀ news h0 s fv xs R a hfv hxs K
 cases hfv
 obtain @⟨oc, od, name, params, dV, kV, doc, pm, an, ct, osl, ho, h1, h2, h3, h4, h5, hd, hcd⟩ := I
 have hlx := hxs.length
 have hld := (hdv g).length
 have En := z51 (news := news) a.ok a.below a.dicts a.fr a.nw
 refine codeAny_call_def (fd := { name, qualname := qual, params, body := .stmts body, scope := sc, globals := mainGlobals, closure := [], defaults := dV, kwdefaults := kV, doc, pyModule := pm, annotations := an, code := cdv, closureTuple := ct, builtins := builtinsNs }) (body := body) (binds := q0z ns xs ds) a.ok.lowD (a.kinH _ _ ho) rfl (a.tr.nolimit.keeps a.fr.keep) (codeRec_of a.kinH hcd) rfl
   (q7g h1 h2 h3 h4 h5 (j5e a.kinH hd) hn (by refine rwm hlx ?_; exact hl) (by (refine rwm hlx ?_; refine rwm hld ?_); exact hm) (by refine rwm hld ?_; exact hdn)) hcell (fun y hy => hloc _ (q49.subset (List.mem_map_of_mem hy))) (fun h₁ hns hk₁ => ?_) hco hgen hk
 have a' : At c (P.inner (envOf qual sc s.heap.objs.size f cdv) s.heap.objs.size []) g (ns.zip (q6j ns.length vs dvs)) st pv (fun x => (q0z ns xs ds).reverse.lookup x) (fun x => (q0z ns xs ds).reverse.lookup x) news (hideAll s.heap (news.map (·.1))) h₁ := by
   refine ⟨a.ok.inner (z73 hPd) rfl hk rfl rfl, En.below, En.dicts, ⟨hns, fun b o e => hk₁ b o (En.of b o e), Nat.le_of_eq En.size⟩, fun p hp => ⟨hk₁ _ _ (a.nw p hp).1, Nat.ne_of_lt (a.ltSize p hp), En.out p hp⟩, a.hk, fun x v e => ?_, fun x n e => (by exact zns e), .inl ⟨rfl, rfl⟩⟩
   have hr : VRs c g (q6j ns.length vs dvs) (xs ++ ds.drop (ds.length - (ns.length - xs.length))) := by
     unfold q6j
     (refine rwm hlx ?_; refine rwm hld ?_)
     exact hxs.append ((hdv g).drop _)
   refine e12 (zip_rel hr e :) fun y hy hr => ?_
   exact ⟨y, q4c hn hy, hr⟩
 have hb' := hb (P.inner (envOf qual sc s.heap.objs.size f cdv) s.heap.objs.size []) (z06 hPd) hPt hPn rfl rfl rfl rfl
 refine hb' g pv _ news _ { s with heap := h₁, toks := s.toks + (q0z ns xs ds).length } _ _ a' ⟨fun g' m' news' h0' h' tk x b ρ' st' l v a₁ r q => ?_, fun g' m' st' h0' h' tk C e l v Z x => ?_⟩
 . refine e16 (En.leave h0' h' _ m' news' v.turn a₁.fr a₁.nw :) fun h0'' T1 T2 F N B D => ?_
   have a₂ := a.after B D F N a₁.hk l
   have mv : Mv P h0 h0'' := ⟨T1, fun e => T2 (v.same e)⟩
   cases r with
   | ret hr => exact K.ok g' news' h0'' h' tk _ _ st' l mv a₂ hr q
   | next => exact K.ok g' news' h0'' h' tk _ _ st' l mv a₂ .none q
   | brk => exact K.ok g' news' h0'' h' tk _ _ st' l mv a₂ .none q
   | cont => exact K.ok g' news' h0'' h' tk _ _ st' l mv a₂ .none q
 . have same : h0' = hideAll s.heap (news.map (·.1)) := v.same (by
     refine rwm hPt ?_
     induction tn using Bool.casesOn with
     | false => rfl
     | true => exact absurd x (hx rfl C st'))
   exact j10 (R := R) En a.below a.dicts hk Z same fun h'' Z' => K.ex g' st' h0 h'' tk C e l .rfl Z' x
section
variable {ι α β : Type} {c : Cx} {P : Pt} {ρ : Loc} {st : St} {X : Exc} {g : Gh} {pv news : List (Addr × Obj)} {m : Str -> Option Value} {h0 : Heap} {s : Shared} {QS : Fl -> Loc -> St -> Prop} {Qc : Flow -> Shared -> Prop} {Ec : Value -> Shared -> Prop}
theorem TrG.useS {Rel : Gh -> ι -> Prop} {R : Gh -> β -> α -> Prop} {t : ι -> Sem α} {Q : β -> St -> Prop} {i : ι} {Qm : α -> Shared -> Prop} (h : TrG c P ρ st Rel R t Q X) (a : At c P g ρ st pv m m news h0 s.heap) (hi : Rel g i) (K : KS c P pv QS X Qc Ec g h0 s)
   (next : ∀ g' news' h0' (s' : Shared) x b st', g.le g' -> At c P g' ρ st' pv m m news' h0' s'.heap -> R g' b x -> Q b st' -> KS c P pv QS X Qc Ec g' h0' s' -> Qm x s') : wpAny (model c.prog c.w) P.A (t i) Qm Ec s :=
 h g pv m m news h0 s i Qm Ec a hi ⟨fun g' news' h0' W0 W0 x b st' l v a' r q => next g' news' h0' _ x b st' l a' r q (K.step l v), fun g' st' h0' h' tk C e l v z x => K.ex g' m st' h0' h' tk C e l v z x⟩
theorem EvE.useS {e : Expr} {Q : V -> St -> Prop} {Qm : Value -> Shared -> Prop} (h : EvE c P ρ st e Q X) (a : At c P g ρ st pv m m news h0 s.heap) (K : KS c P pv QS X Qc Ec g h0 s)
   (next : ∀ g' news' h0' (s' : Shared) x b st', g.le g' -> At c P g' ρ st' pv m m news' h0' s'.heap -> VR c g' b x -> Q b st' -> KS c P pv QS X Qc Ec g' h0' s' -> Qm x s') : wpAny (model c.prog c.w) P.A (eval e P.env) Qm Ec s :=
 TrG.useS (i := ()) h a trivial K next
theorem KS.here {ρ' : Loc} {st' : St} {m' : Str -> Option Value} {news' : List (Addr × Obj)} (K : KS c P pv QS X Qc Ec g h0 s) {x : Flow} {b : Fl} {h' : Heap} {tk : Nat} (a : At c P g ρ' st' pv m' m' news' h0 h') (r : FlR c g b x) (q : QS b ρ' st') : Qc x { s with heap := h', toks := tk } := K.ok g m' news' h0 h' tk x b ρ' st' .rfl .rfl a r q
end
section
variable {c : Cx} {P : Pt} {ρ : Loc} {st : St} {X : Exc} {Q : Fl -> Loc -> St -> Prop}
theorem q6x {e : Expr} {pos : Pos} (h : EvE c P ρ st e (fun v st' => Q (.ret v) ρ st') X) : Ex1 c P ρ st (.Return (some e) pos) Q X :=
 fun g pv m news h0 s Qc Ec a K => wpAny_Return_some (h.useS a K fun W0 W0 W0 s' W0 W0 W0 W0 a' r q K' => K'.here (tk := s'.toks) a' (.ret r) q)
theorem j5w {pos : Pos} (q : Q (.ret .none) ρ st) : Ex1 c P ρ st (.Return none pos) Q X :=
 fun g pv m news h0 s Qc Ec a K => wpAny_Return_none (K.here (tk := s.toks) a (.ret .none) q)
theorem j5v {pos : Pos} (q : Q .next ρ st) : Ex1 c P ρ st (.Pass pos) Q X :=
 fun g pv m news h0 s Qc Ec a K => wpAny_Pass (K.here (tk := s.toks) a .next q)
theorem z0m {pos : Pos} (q : Q .cont ρ st) : Ex1 c P ρ st (.Continue pos) Q X :=
 fun g pv m news h0 s Qc Ec a K => wpAny_Continue (K.here (tk := s.toks) a .cont q)
theorem j5t {e : Expr} {pos : Pos} (h : EvE c P ρ st e (fun W0 st' => Q .next ρ st') X) (hs : swapsWith e none pos.line P.env = pure false) : Ex1 c P ρ st (.Expr e pos) Q X :=
 fun g pv m news h0 s Qc Ec a K => wpAny_Expr_any (h.useS a K fun W0 W0 W0 s' W0 W0 W0 W0 a' r q K' => K'.here (tk := s'.toks) a' .next q) (by unfold interactive; refine rwm a.ok.kf ?_; rfl) hs
theorem j5u {t : Expr} {b o : List Stmt} {pos : Pos} (h : EvT c P ρ st t (fun x st' => if x = true then ExS c P ρ st' b Q X else ExS c P ρ st' o Q X) X) : Ex1 c P ρ st (.If t b o pos) Q X :=
 fun g pv m news h0 s Qc Ec a K => wpAny_If (TrG.useS (i := ()) h a trivial K fun W0 W0 W0 s' x W0 W0 W0 a' r q K' => by
   cases r
   induction x using Bool.casesOn with
   | true => exact q _ _ _ _ _ _ _ _ a' K'
   | false => exact q _ _ _ _ _ _ _ _ a' K')
end
section
variable {κ α : Type} [BEq κ] [LawfulBEq κ]
noncomputable def q6k (n : κ) (o : α) : List (κ × α) -> List (κ × α)
 | [] => [(n, o)]
 | p :: l => if n == p.1 then (n, o) :: l else p :: q6k n o l
theorem q1b (n : κ) (o : α) (i : κ) : ∀ l : List (κ × α), (q6k n o l).lookup i = if i == n then some o else l.lookup i := by
 intro l
 induction l with
 | nil =>
   refine rwm List.lookup_cons ?_
   by_cases e : (i == n) = true
   . simp [e]
   . simp [Bool.not_eq_true _ ▸ e]
 | cons q0 l ih =>
   obtain ⟨k, x⟩ := q0
   unfold q6k
   by_cases q : (n == k) = true
   . (refine rwm (if_pos q) ?_; refine rwm List.lookup_cons ?_; refine rwm List.lookup_cons ?_)
     have : n = k := eq_of_beq q
     subst this
     by_cases e : (i == n) = true
     . simp [e]
     . rw [Bool.not_eq_true] at e; simp [e]
   . (refine rwm (if_neg q) ?_; refine rwm List.lookup_cons ?_; refine rwm List.lookup_cons ?_)
     by_cases e : (i == k) = true
     . have : i = k := eq_of_beq e
       subst this
       have : (i == n) = false := by
         rw [Bool.eq_false_iff]
         intro z
         exact q (by refine rwm (eq_of_beq z) ?_; exact beq_self_eq_true _)
       simp [this]
     . rw [Bool.not_eq_true] at e
       refine rwm e ?_
       exact ih
end
noncomputable def Loc.put (ρ : Loc) (x : Str) (v : V) : Loc := q6k x v ρ
section
variable {c : Cx} {P : Pt} {ρ : Loc} {st : St} {X : Exc} {g : Gh} {pv news : List (Addr × Obj)} {m ns : Str -> Option Value} {h0 h : Heap}
theorem At.nsEq (a : At c P g ρ st pv m ns news h0 h) (hl : P.env.locals = P.L) : ns = m := by
 rcases a.nsk with ⟨_, e⟩ | ⟨oC, hm, _⟩
 . exact e
 . exact absurd hl (a.nw _ (a.hk.pvi _ hm)).2.1
theorem At.put (a : At c P g ρ st pv m m news h0 h) (hl : P.env.locals = P.L) {x : Str} {v : V} {y : Value} {h' : Heap} (hv : VR c g v y) (hn : h'.Ns P.L (fun z => if z = x then some y else m z)) (hs : Heap.SameBut P.L h h') :
   At c P g (ρ.put x v) st pv (fun z => if z = x then some y else m z) (fun z => if z = x then some y else m z) news h0 h' :=
 ⟨a.ok, a.below, a.dicts, a.fr.set hn hs, a.nw.set hs, a.hk, fun z w e => by
   unfold Loc.put at e
   rw [q1b] at e
   by_cases q : z = x
   . subst q
     simp only [beq_self_eq_true, if_true, Option.some.injEq] at e
     subst e
     exact ⟨y, if_pos rfl, hv⟩
   . have q' : (z == x) = false := by simpa using q
     rw [q'] at e
     refine e12 (a.loc z w e :) fun y' h1 h2 => ?_
     exact ⟨y', by refine rwm (if_neg q) ?_; exact h1, h2⟩, a.cel, .inl ⟨hl, rfl⟩⟩
theorem At.store {Qm : Unit -> Shared -> Prop} {E : Value -> Shared -> Prop} {s : Shared} (a : At c P g ρ st pv m m news h0 s.heap) (hl : P.env.locals = P.L) {x : Str} {v : V} {y : Value} (hk : P.env.kindOf x = some .local) (hv : VR c g v y)
   (k : ∀ m' h', At c P g (ρ.put x v) st pv m' m' news h0 h' -> Qm () { s with heap := h', toks := s.toks + 1 }) : wpAny (model c.prog c.w) P.A (storeName P.env x y) Qm E s :=
 wpAny_storeName_local hk (hl ▸ a.fr.ns) (fun h' hn hs => k _ h' (a.put hl hv (hl ▸ hn) (hl ▸ hs))) (by refine rwm a.ok.kf ?_; rfl)
theorem At.storeC {Qm : Unit -> Shared -> Prop} {E : Value -> Shared -> Prop} {s : Shared} (a : At c P g ρ st pv m ns news h0 s.heap) {x : Str} {n : Nat} {v : V} {y : Value} {v0 : Option V} (hk : P.env.kindOf x = some .cell) (hc : P.cn.lookup x = some n) (hs : st.get n = some (.cell v0)) (hv : VR c g v y)
   (k : ∀ news' h', At c P g ρ (st.set n (.cell (some v))) pv m ns news' h0 h' -> Qm () { s with heap := h' }) : wpAny (model c.prog c.w) P.A (storeName P.env x y) Qm E s := by
 refine e12 (a.cel x n hc :) fun b h1 h2 => ?_
 refine e22 (a.hk.own n _ hs :) fun b1 d1 h3 r => ?_
 rw [h2] at h3
 cases h3
 have go : ∀ {o : Obj} {v₀ : Option Value}, (b, o) ∈ news -> o.data = .cell v₀ -> wpAny (model c.prog c.w) P.A (storeName P.env x y) Qm E s := fun {o v₀} hm hd => by
   have hb := a.nw _ hm
   refine wpAny_storeName_cell a.ok.kf hk h1 ⟨o, hb.1, hd⟩ fun h' hv' hsb => ?_
   refine e12 hv' fun o' ho' hd' => ?_
   refine k ((b, o') :: q7i b news) h' (a.renew .rfl ⟨a.fr.ns.sameBut hsb (Ne.symm hb.2.1), fun z oz e => (hsb.2 z (fun q => ?_)).trans (a.fr.keep z oz e), a.fr.above⟩ (fun p hp => ?_) (a.hk.change hs h2 (.inl rfl) (.cell (.head _) hd' hv)))
   . rw [q, hb.2.2] at e; exact zns e
   . rcases mc hp with rfl | hp
     . exact ⟨ho', hb.2⟩
     . obtain ⟨h4, h5⟩ := q0k.mp hp
       exact ⟨(hsb.2 p.1 h5).trans (a.nw p h4).1, (a.nw p h4).2⟩
 cases r with
 | cell0 hm hd => exact go hm hd
 | cell hm hd hr => exact go hm hd
end
section
variable {c : Cx} {P : Pt} {ρ : Loc} {st : St} {X : Exc} {Q : Fl -> Loc -> St -> Prop}
theorem q5n {e : Expr} {x : Str} {p pos : Pos} (hl : P.env.locals = P.L) (hk : P.env.kindOf x = some .local) (h : EvE c P ρ st e (fun v st' => Q .next (ρ.put x v) st') X) (hs : swapsWith e (some (.Name x p)) pos.line P.env = pure false) :
   Ex1 c P ρ st (.Assign [.Name x p] e pos) Q X :=
 fun g pv m news h0 s Qc Ec a K => wpAny_Assign_Name (h.useS a K fun W0 W0 W0 s' W0 W0 W0 W0 a' r q K' => a'.store hl hk r fun m' h' a'' => K'.here a'' .next q) hs
end
section
variable {c : Cx} {P : Pt} {ρ : Loc} {st : St} {X : Exc} {Q : V -> St -> Prop} {a b : Int}
theorem q1z {op : Operator} {r : Int} (hw : ∀ {A : Around} {E : Value -> Shared -> Prop} {s : Shared} {t u : Tok} {Q : Value -> Shared -> Prop}, Q (.int r s.toks) { s with toks := s.toks + 1 } -> wpAny (model c.prog c.w) A (binaryOp op (.int a t) (.int b u)) Q E s) (q : Q (.int r) st) : q4z c P ρ st op (.int a) (.int b) Q X :=
 fun W0 W0 W0 W0 W0 W0 W0 W0 W0 W0 at_ hx K => by
   obtain ⟨_, _, rfl⟩ := hx.ints
   exact hw (K.now at_ (.int _ _) q)
theorem q7d (q : Q (.int (a + b)) st) : q4z c P ρ st .Add (.int a) (.int b) Q X := q1z (fun h => PySem.P.add_int h) q
theorem j4p (q : Q (.int (a - b)) st) : q4z c P ρ st .Sub (.int a) (.int b) Q X := q1z (fun h => PySem.P.sub_int h) q
theorem q7e (hm : IntMulOk a b) (q : Q (.int (a * b)) st) : q4z c P ρ st .Mult (.int a) (.int b) Q X := q1z (fun h => PySem.P.mul_int h hm) q
theorem z9r (h0 : b ≠ 0) (hp : Builtin.divisionGoesByPylong a b = false) (q : Q (.int (a.fdiv b)) st) : q4z c P ρ st .FloorDiv (.int a) (.int b) Q X :=
 q1z (fun h => AutoIntOps.floordiv_1 (fun z => h0 (eq_of_beq z)) (hp ▸ Bool.false_ne_true) h) q
theorem j4l (h0 : b ≠ 0) (q : Q (.int (a.fmod b)) st) : q4z c P ρ st .Mod (.int a) (.int b) Q X := q1z (fun h => AutoIntOps.mod_1 (fun z => h0 (eq_of_beq z)) h) q
theorem j4k (q : Q (.int (Builtin.bitAnd a b)) st) : q4z c P ρ st .BitAnd (.int a) (.int b) Q X := q1z (fun h => PyProof.Rows.and_int h) q
theorem j9k (q : Q (.int (Builtin.bitOr a b)) st) : q4z c P ρ st .BitOr (.int a) (.int b) Q X := q1z (fun h => PyProof.Rows.or_int h) q
theorem j4n (hn : 0 <= b) (hs : (Builtin.Int.intBits a : Int) + b <= 2 ^ 27) (q : Q (.int (a * 2 ^ b.toNat)) st) : q4z c P ρ st .LShift (.int a) (.int b) Q X := q1z (fun h => PyProof.Rows.lshift_int hn hs h) q
theorem j4o (hn : 0 <= b) (q : Q (.int (a.fdiv (2 ^ b.toNat))) st) : q4z c P ρ st .RShift (.int a) (.int b) Q X := q1z (fun h => PyProof.Rows.rshift_int hn h) q
theorem z40 (hn : 0 <= b) (hs : (Builtin.Int.intBits a : Int) * b <= 2 ^ 27) (q : Q (.int (a ^ b.toNat)) st) : q4z c P ρ st .Pow (.int a) (.int b) Q X := q1z (fun h => PyProof.Rows.pow_int hn hs h) q
theorem q35 {op : CmpOp} {r : Bool} (hw : ∀ {A : Around} {E : Value -> Shared -> Prop} {s : Shared} {t u : Tok} {Q : Value -> Shared -> Prop}, Q (.bool r) s -> wpAny (model c.prog c.w) A (compareOp op (.int a t) (.int b u)) Q E s) (q : Q (.bool r) st) : q1o c P ρ st op (.int a) (.int b) Q X :=
 fun W0 W0 W0 W0 W0 W0 W0 W0 W0 W0 at_ hx K => by
   obtain ⟨_, _, rfl⟩ := hx.ints
   exact hw (K.now at_ (.bool _) q)
theorem j9v (q : Q (.bool (a == b)) st) : q1o c P ρ st .Eq (.int a) (.int b) Q X := q35 (fun h => PySem.P.eq_int h) q
theorem j91 (q : Q (.bool (a != b)) st) : q1o c P ρ st .NotEq (.int a) (.int b) Q X := q35 (fun h => PySem.P.ne_int h) q
theorem j90 (q : Q (.bool (decide (a < b))) st) : q1o c P ρ st .Lt (.int a) (.int b) Q X := q35 (fun h => PySem.P.lt_int h) q
theorem j9z (q : Q (.bool (decide (a <= b))) st) : q1o c P ρ st .LtE (.int a) (.int b) Q X := q35 (fun h => PySem.P.le_int h) q
theorem j9x (q : Q (.bool (decide (a > b))) st) : q1o c P ρ st .Gt (.int a) (.int b) Q X := q35 (fun h => PySem.P.gt_int h) q
theorem j9w (q : Q (.bool (decide (a >= b))) st) : q1o c P ρ st .GtE (.int a) (.int b) Q X := q35 (fun h => PySem.P.ge_int h) q
theorem j49 {x y : Str} (q : Q (.bool (x.cps.toList == y.cps.toList)) st) : q1o c P ρ st .Eq (.str x) (.str y) Q X := fun g W0 W0 W0 W0 W0 s i W0 W0 at_ hx K => by
 obtain ⟨x', y'⟩ := i
 obtain ⟨_, rfl⟩ := hx.1.strI
 obtain ⟨_, rfl⟩ := hx.2.strI
 exact PySem.P.eq_str (K.now at_ (.bool _) q)
noncomputable def V.isNone : V -> Bool
 | .none => true
 | _ => false
noncomputable def V.clear : V -> Bool
 | .prim _ => false
 | _ => true
theorem VR.isNone {g : Gh} {v : V} {x : Value} (h : VR c g v x) (hc : v.clear = true) : (x == .none) = v.isNone := by
 cases h <;> first | rfl | exact zft hc
theorem j9y {v : V} (hc : v.clear = true) (q : Q (.bool v.isNone) st) : q1o c P ρ st .Is v .none Q X := fun g W0 W0 W0 W0 W0 s i W0 W0 at_ hx K => by
 obtain ⟨x', y'⟩ := i
 obtain rfl : y' = .none := hx.2.noneI
 exact PySem.is_none (K.now at_ (VR.isNone hx.1 hc ▸ .bool _) q)
theorem z5p {v : V} (hc : v.clear = true) (q : Q (.bool (!v.isNone)) st) : q1o c P ρ st .IsNot v .none Q X := fun g W0 W0 W0 W0 W0 s i W0 W0 at_ hx K => by
 obtain ⟨x', y'⟩ := i
 obtain rfl : y' = .none := hx.2.noneI
 exact PySem.isNot_none (K.now at_ (VR.isNone hx.1 hc ▸ .bool _) q)
theorem q2e {x : Bool} {Q : Bool -> St -> Prop} (q : Q x st) : z4c c P ρ st (.bool x) Q X := fun g W0 W0 W0 W0 W0 s i W0 W0 at_ hx K => by
 refine rwm (VR.boolI hx) ?_; exact wpAny_truthy_bool (K.now at_ rfl q)
theorem j8b {Q : Bool -> St -> Prop} (q : Q (a != 0) st) : z4c c P ρ st (.int a) Q X := fun g W0 W0 W0 W0 W0 s i W0 W0 at_ hx K => by
 refine e11 (VR.intI hx :) fun W0 r => rwm r ?_; exact PySem.P.truthy_int (K.now at_ rfl q)
theorem j2m {Q : Bool -> St -> Prop} (q : Q false st) : z4c c P ρ st .none Q X := fun g W0 W0 W0 W0 W0 s i W0 W0 at_ hx K => by
 refine rwm (VR.noneI hx) ?_; exact fun W0 W0 W0 => K.now (tk := s.toks) at_ rfl q
end
section
variable {c : Cx} {P : Pt} {ρ : Loc} {st : St} {X : Exc} {Q : V -> St -> Prop} {QB : Bool -> St -> Prop}
theorem x0c {l r : Expr} {op : CmpOp} {pos : Pos} (hm : behindInMarks op r = false) (h : EvE c P ρ st l (fun a st₁ => EvE c P ρ st₁ r (fun b st₂ => q1o c P ρ st₂ op a b Q X) X) X) : EvE c P ρ st (.Compare l [op] [r] pos) Q X :=
 fun W0 W0 W0 W0 W0 W0 W0 W0 W0 W0 a W0 K => wpAny_Compare1 (h.use a K fun W0 W0 W0 W0 x W0 W0 W0 a' r q K' => q.use a' K' fun W0 W0 W0 W0 y W0 W0 l' a'' r' q' K'' => q' _ _ _ _ _ _ _ (x, y) _ _ a'' ⟨r.mono l', r'⟩ K'') hm
theorem j5l {l r : Expr} {op : CmpOp} {pos : Pos} (hm : behindInMarks op r = false) (h : EvE c P ρ st l (fun a st₁ => EvE c P ρ st₁ r (fun b st₂ => q1o c P ρ st₂ op a b (fun v st₃ => z4c c P ρ st₃ v QB X) X) X) X) : EvT c P ρ st (.Compare l [op] [r] pos) QB X :=
 fun W0 W0 W0 W0 W0 W0 W0 W0 W0 W0 a W0 K => wpAny_isTrue_Compare1 (h.use a K fun W0 W0 W0 W0 x W0 W0 W0 a' r q K' => q.use a' K' fun W0 W0 W0 W0 y W0 W0 l' a'' r' q' K'' => q'.use (i := (x, y)) a'' ⟨r.mono l', r'⟩ K'' fun W0 W0 W0 W0 z W0 W0 W0 a3 r3 q3 K3 => q3 _ _ _ _ _ _ _ z _ _ a3 r3 K3) hm
theorem j5o {l r₁ r₂ : Expr} {o₁ o₂ : CmpOp} {pos : Pos} (hm : behindInMarks o₂ r₂ = false) (h : EvE c P ρ st l (fun a st₁ => EvE c P ρ st₁ r₁ (fun b st₂ => q1o c P ρ st₂ o₁ a b (fun v st₃ => z4c c P ρ st₃ v (fun t st₄ =>
   if t = true then EvE c P ρ st₄ r₂ (fun d st₅ => q1o c P ρ st₅ o₂ b d Q X) X else Q v st₄) X) X) X) X) : EvE c P ρ st (.Compare l [o₁, o₂] [r₁, r₂] pos) Q X :=
 fun W0 W0 W0 W0 W0 W0 W0 W0 W0 W0 a W0 K => Compare_chain (h.use a K fun W0 W0 W0 W0 x W0 W0 W0 a' r q K' => chain_link (q.use a' K' fun W0 W0 W0 W0 y W0 W0 l' a'' r' q' K'' => q'.use (i := (x, y)) a'' ⟨r.mono l', r'⟩ K'' fun W0 W0 W0 s3 z W0 W0 l3 a3 r3 q3 K3 =>
   q3.use (i := z) a3 r3 K3 fun W0 W0 W0 s4 t W0 W0 l4 a4 r4 q4 K4 => by
     cases r4
     induction t using Bool.casesOn with
     | false => exact K4.now (tk := s4.toks) a4 (r3.mono l4) q4
     | true => exact chain_last (q4.use a4 K4 fun W0 W0 W0 W0 d W0 W0 l5 a5 r5 q5 K5 => q5 _ _ _ _ _ _ _ (y, d) _ _ a5 ⟨((r'.mono l3).mono l4).mono l5, r5⟩ K5))) hm
theorem z1u {l r₁ r₂ : Expr} {o₁ o₂ : CmpOp} {pos : Pos} (hm : behindInMarks o₂ r₂ = false) (h : EvE c P ρ st l (fun a st₁ => EvE c P ρ st₁ r₁ (fun b st₂ => q1o c P ρ st₂ o₁ a b (fun v st₃ => z4c c P ρ st₃ v (fun t st₄ =>
   if t = true then EvE c P ρ st₄ r₂ (fun d st₅ => q1o c P ρ st₅ o₂ b d (fun v st₆ => z4c c P ρ st₆ v QB X) X) X else QB false st₄) X) X) X) X) : EvT c P ρ st (.Compare l [o₁, o₂] [r₁, r₂] pos) QB X :=
 fun W0 W0 W0 W0 W0 W0 W0 W0 W0 W0 a W0 K => isTrue_chain (h.use a K fun W0 W0 W0 W0 x W0 W0 W0 a' r q K' => test_link (q.use a' K' fun W0 W0 W0 W0 y W0 W0 l' a'' r' q' K'' => q'.use (i := (x, y)) a'' ⟨r.mono l', r'⟩ K'' fun W0 W0 W0 s3 z W0 W0 l3 a3 r3 q3 K3 =>
   q3.use (i := z) a3 r3 K3 fun W0 W0 W0 s4 t W0 W0 l4 a4 r4 q4 K4 => by
     cases r4
     induction t using Bool.casesOn with
     | false => exact K4.now (tk := s4.toks) a4 rfl q4
     | true => exact test_last (q4.use a4 K4 fun W0 W0 W0 W0 d W0 W0 l5 a5 r5 q5 K5 => q5.use (i := (y, d)) a5 ⟨((r'.mono l3).mono l4).mono l5, r5⟩ K5 fun W0 W0 W0 W0 z W0 W0 W0 a6 r6 q6 K6 => q6 _ _ _ _ _ _ _ z _ _ a6 r6 K6))) hm
theorem z59 {e : Expr} (he : ∀ env whole, isTrue e env whole = (do let v <- whole; standAt e.pos; holding [v] (truthy v))) (h : EvE c P ρ st e (fun v st₁ => z4c c P ρ st₁ v QB X) X) : EvT c P ρ st e QB X :=
 fun W0 W0 W0 W0 W0 W0 W0 W0 W0 W0 a W0 K => wpAny_isTrue_value (h.use a K fun W0 W0 W0 W0 x W0 W0 W0 a' r q K' => q _ _ _ _ _ _ _ x _ _ a' r K') (he _ _)
theorem z58 {e : Expr} {pos : Pos} (h : EvT c P ρ st e (fun b st₁ => QB (!b) st₁) X) : EvT c P ρ st (.UnaryOp .Not e pos) QB X :=
 fun W0 W0 W0 W0 W0 W0 W0 W0 W0 W0 a W0 K => wpAny_isTrue_Not (TrG.use (i := ()) h a trivial K fun W0 W0 W0 s' x W0 W0 W0 a' r q K' => by cases r; exact K'.now (tk := s'.toks) a' rfl q)
theorem x0f {e : Expr} {pos : Pos} (h : EvE c P ρ st e (fun v st₁ => z4c c P ρ st₁ v (fun b st₂ => Q (.bool (!b)) st₂) X) X) : EvE c P ρ st (.UnaryOp .Not e pos) Q X :=
 fun W0 W0 W0 W0 W0 W0 W0 W0 W0 W0 a W0 K => wpAny_UnaryOp (h.use a K fun W0 W0 W0 W0 x W0 W0 W0 a' r q K' => not_value (q.use (i := x) a' r K' fun W0 W0 W0 s2 b W0 W0 W0 a2 r2 q2 K2 => by cases r2; exact K2.now (tk := s2.toks) a2 (.bool _) q2))
theorem j0h {t b o : Expr} {pos : Pos} (h : EvT c P ρ st t (fun x st₁ => if x = true then EvE c P ρ st₁ b Q X else EvE c P ρ st₁ o Q X) X) : EvE c P ρ st (.IfExp t b o pos) Q X :=
 fun W0 W0 W0 W0 W0 W0 W0 W0 W0 W0 a W0 K => wpAny_IfExp (TrG.use (i := ()) h a trivial K fun W0 W0 W0 s' x W0 W0 W0 a' r q K' => by
   cases r
   induction x using Bool.casesOn with
   | true => exact q _ _ _ _ _ _ _ () _ _ a' trivial K'
   | false => exact q _ _ _ _ _ _ _ () _ _ a' trivial K')
noncomputable def q7b (c : Cx) (P : Pt) (ρ : Loc) (st : St) (op : BoolOp) (es : List Expr) (Q : Bool -> St -> Prop) (X : Exc) : Prop := TrG c P ρ st j8d (fun _ (b b' : Bool) => b = b') (fun W0 => allTrue op es P.env) Q X
theorem q7q {op : BoolOp} {es : List Expr} {pos : Pos} (h : q7b c P ρ st op es QB X) : EvT c P ρ st (.BoolOp op es pos) QB X :=
 fun W0 W0 W0 W0 W0 W0 W0 W0 W0 W0 a W0 K => wpAny_isTrue_BoolOp (h _ _ _ _ _ _ _ () _ _ a trivial K)
theorem q5b (q : QB true st) : q7b c P ρ st .And [] QB X := fun W0 W0 W0 W0 W0 W0 s W0 W0 W0 a W0 K => wpAny_allTrue_And_nil (K.now (tk := s.toks) a rfl q)
theorem q6q (q : QB false st) : q7b c P ρ st .Or [] QB X := fun W0 W0 W0 W0 W0 W0 s W0 W0 W0 a W0 K => wpAny_allTrue_Or_nil (K.now (tk := s.toks) a rfl q)
theorem z4j {e : Expr} {es : List Expr} (h : EvT c P ρ st e (fun b st₁ => if b = true then q7b c P ρ st₁ .And es QB X else QB false st₁) X) : q7b c P ρ st .And (e :: es) QB X :=
 fun W0 W0 W0 W0 W0 W0 W0 W0 W0 W0 a W0 K => wpAny_allTrue_And_cons (TrG.use (i := ()) h a trivial K fun W0 W0 W0 s' x W0 W0 W0 a' r q K' => by
   cases r
   induction x using Bool.casesOn with
   | true => exact q _ _ _ _ _ _ _ () _ _ a' trivial K'
   | false => exact K'.now (tk := s'.toks) a' rfl q)
theorem j25 {e : Expr} {es : List Expr} (h : EvT c P ρ st e (fun b st₁ => if b = true then QB true st₁ else q7b c P ρ st₁ .Or es QB X) X) : q7b c P ρ st .Or (e :: es) QB X :=
 fun W0 W0 W0 W0 W0 W0 W0 W0 W0 W0 a W0 K => wpAny_allTrue_Or_cons (TrG.use (i := ()) h a trivial K fun W0 W0 W0 s' x W0 W0 W0 a' r q K' => by
   cases r
   induction x using Bool.casesOn with
   | false => exact q _ _ _ _ _ _ _ () _ _ a' trivial K'
   | true => exact K'.now (tk := s'.toks) a' rfl q)
noncomputable def j3x (c : Cx) (P : Pt) (ρ : Loc) (st : St) (pos : Pos) (op : BoolOp) (es : List Expr) (Q : V -> St -> Prop) (X : Exc) : Prop := TrG c P ρ st j8d (VR c) (fun W0 => boolOp pos op (evalEach es P.env)) Q X
theorem z6a {op : BoolOp} {es : List Expr} {pos : Pos} (h : j3x c P ρ st pos op es Q X) : EvE c P ρ st (.BoolOp op es pos) Q X :=
 fun W0 W0 W0 W0 W0 W0 W0 W0 W0 W0 a W0 K => by
   exact h _ _ _ _ _ _ _ () _ _ a trivial K
theorem j4q {pos : Pos} {op : BoolOp} {e : Expr} (h : EvE c P ρ st e Q X) : j3x c P ρ st pos op [e] Q X := h
set_option backward.match.sparseCases true in
theorem j9m {pos : Pos} {e e' : Expr} {es : List Expr} (h : EvE c P ρ st e (fun v st₁ => z4c c P ρ st₁ v (fun t st₂ => if t = true then j3x c P ρ st₂ pos .And (e' :: es) Q X else Q v st₂) X) X) : j3x c P ρ st pos .And (e :: e' :: es) Q X :=
 fun W0 W0 W0 W0 W0 W0 W0 W0 W0 W0 a W0 K => by
   show wpAny _ _ (do
     let v <- eval e P.env
     standAt pos
     let t <- holding [v] (truthy v)
     match BoolOp.And, t with
     | .And, false | .Or, true => pure v
     | _, _ => boolOp pos .And (evalEach (e' :: es) P.env)) _ _ _
   exact wpAny_bind (h.use a K fun W0 W0 W0 W0 x W0 W0 W0 a' r q K' => wpAny_bind (wpAny_standAt (wpAny_bind (wpAny_holding (q.use (i := x) a' r K' fun W0 W0 W0 s2 t W0 W0 l2 a2 r2 q2 K2 => by
     cases r2
     induction t using Bool.casesOn with
     | true => exact q2 _ _ _ _ _ _ _ () _ _ a2 trivial K2
     | false => exact wpAny_pure (K2.now (tk := s2.toks) a2 (r.mono l2) q2))))))
set_option backward.match.sparseCases true in
theorem bo_or {pos : Pos} {e e' : Expr} {es : List Expr} (h : EvE c P ρ st e (fun v st₁ => z4c c P ρ st₁ v (fun t st₂ => if t = true then Q v st₂ else j3x c P ρ st₂ pos .Or (e' :: es) Q X) X) X) : j3x c P ρ st pos .Or (e :: e' :: es) Q X :=
 fun W0 W0 W0 W0 W0 W0 W0 W0 W0 W0 a W0 K => by
   show wpAny _ _ (do
     let v <- eval e P.env
     standAt pos
     let t <- holding [v] (truthy v)
     match BoolOp.Or, t with
     | .And, false | .Or, true => pure v
     | _, _ => boolOp pos .Or (evalEach (e' :: es) P.env)) _ _ _
   exact wpAny_bind (h.use a K fun W0 W0 W0 W0 x W0 W0 W0 a' r q K' => wpAny_bind (wpAny_standAt (wpAny_bind (wpAny_holding (q.use (i := x) a' r K' fun W0 W0 W0 s2 t W0 W0 l2 a2 r2 q2 K2 => by
     cases r2
     induction t using Bool.casesOn with
     | false => exact q2 _ _ _ _ _ _ _ () _ _ a2 trivial K2
     | true => exact wpAny_pure (K2.now (tk := s2.toks) a2 (r.mono l2) q2))))))
end
noncomputable def q4d (c : Cx) (f : Value) : Prop := ∀ (M : Model) h, c.K.In h -> ∃ k, (k = Keeper.frame \/ k = Keeper.machine \/ k = Keeper.boundFrame) /\ Looks M h (keeperOf f) k
theorem q0w {c : Cx} {i : String} : q4d c (.builtin i) := fun W0 W0 W0 => ⟨.machine, .inr (.inl rfl), Looks.of_pure rfl⟩
theorem z7f {c : Cx} {i : String} : q4d c (.type i) := fun W0 W0 W0 => ⟨.machine, .inr (.inl rfl), Looks.of_pure rfl⟩
theorem q9a {c : Cx} {f : Value} (h : keepIn c.K f = true) : q4d c f := fun W0 h' X => keeps_K h h' X
noncomputable def q0e : Expr -> Bool
 | .Starred .. => false
 | _ => true
theorem q3y {e : Expr} {rest : List Expr} {env : Env} (h : q0e e = true) : starEach (e :: rest) env = (false, eval e env) :: starEach rest env := by
 induction e using Expr.casesOn <;> first | rfl | exact zft h
theorem q5x {env : Env} {pos : Pos} : ∀ {es : List Expr}, es.all q0e = true -> (backTo pos (starEach es env)).any (·.1) = false := by
 intro es
 induction es with
 | nil => intro _; exact rfl
 | cons e es ih =>
   intro h
   rw [List.all_cons, Bool.and_eq_true] at h
   refine rwm (q3y h.1) ?_
   refine rwm (ih h.2) ?_
   rfl
section
variable {c : Cx} {P : Pt} {ρ : Loc} {st : St} {X : Exc} {Q : V -> St -> Prop} {QL : List V -> St -> Prop}
noncomputable def q22 (c : Cx) (P : Pt) (ρ : Loc) (st : St) (pos : Pos) (es : List Expr) (Q : List V -> St -> Prop) (X : Exc) : Prop := TrG c P ρ st j8d (VRs c) (fun W0 => spliced (backTo pos (starEach es P.env))) Q X
theorem q17 {pos : Pos} (q : QL [] st) : q22 c P ρ st pos [] QL X := fun W0 W0 W0 W0 W0 W0 s W0 W0 W0 a W0 K => wpAny_items_nil (K.now (tk := s.toks) a .nil q)
theorem q02 {pos : Pos} {e : Expr} {es : List Expr} (hs : q0e e = true) (h : EvE c P ρ st e (fun v st₁ => q22 c P ρ st₁ pos es (fun vs st₂ => QL (v :: vs) st₂) X) X) : q22 c P ρ st pos (e :: es) QL X :=
 fun W0 W0 W0 W0 W0 W0 W0 W0 W0 W0 a W0 K => wpAny_items_cons (h.use a K fun W0 W0 W0 W0 x W0 W0 W0 a' r q K' => TrG.use (i := ()) q a' trivial K' fun W0 W0 W0 s2 xs W0 W0 l2 a2 r2 q2 K2 => K2.now (tk := s2.toks) a2 (.cons (r.mono l2) r2) q2) (q3y hs)
theorem q5m {M : Model} {A : Around} {E : Value -> Shared -> Prop} {s : Shared} {f : Value} {Q : Args -> Shared -> Prop} : ∀ {ts : List (Bool × Sem Value)}, ts.any (·.1) = false -> wpAny M A (spliced ts) (fun vs s' => Q ⟨vs, []⟩ s') E s -> wpAny M A (evalArgs f true ts []) Q E s := by
 intro ts hb h
 induction ts using List.casesOn with
 | nil =>
   unfold evalArgs
   refine wpAny_bind (wpAny_mono h (fun vs s' h' => ?_) fun W0 W0 x => x)
   first
     | exact wpAny_holding (wpAny_bind (wpAny_pure (wpAny_bind (wpAny_pure (wpAny_pure h')))))
     | exact wpAny_bind (wpAny_pure (wpAny_bind (wpAny_pure (wpAny_pure h'))))
     | exact wpAny_bind (wpAny_pure (wpAny_pure h'))
 | cons q ts =>
   obtain ⟨b, t⟩ := q
   rw [List.any_cons, Bool.or_eq_false_iff] at hb
   obtain rfl : b = false := hb.1
   exact evalArgs_plain h
theorem q5f {g : Gh} {pv news : List (Addr × Obj)} {m ns : Str -> Option Value} {h0 : Heap} {s : Shared} {Qc Ec : Value -> Shared -> Prop} {f : Value} {first : List Value} {fs : List V} {pos pos' : Pos} {es : List Expr} (hk : q4d c f) (hs : es.all q0e = true)
   (h : q22 c P ρ st pos es (fun vs st₁ => q0i c P ρ st₁ (.prim f) (fs ++ vs) Q X) X) (a : At c P g ρ st pv m ns news h0 s.heap) (hf : VRs c g fs first) (K : KQ c P ρ pv m ns (VR c) Q X Qc Ec g h0 s) :
   wpAny (model c.prog c.w) P.A (callWith pos' f first (backTo pos (starEach es P.env)) []) Qc Ec s :=
 callWith_of (P := c.K.In) (by refine rwm (q5x hs) ?_; rfl) (fun h' X => hk _ _ X) (q5m (q5x hs) (TrG.use (i := ()) h a trivial K fun W0 W0 W0 s1 xs vs W0 l1 a1 r1 q1 K1 => ⟨a1.kinH, q1 _ _ _ _ _ _ _ (f, first ++ xs) _ _ a1 ⟨.prim _, (VRs.mono l1 hf).append r1⟩ K1⟩))
theorem q5k {id : Str} {p pos : Pos} {es : List Expr} {f : Value} (hk : q4d c f) (hs : es.all q0e = true) (hn : EvE c P ρ st (.Name id p) (fun v st₁ => v = .prim f /\ q22 c P ρ st₁ pos es (fun vs st₂ => q0i c P ρ st₂ (.prim f) vs Q X) X) X) : EvE c P ρ st (.Call (.Name id p) es [] pos) Q X :=
 fun W0 W0 W0 W0 W0 W0 W0 W0 W0 W0 a W0 K => wpAny_Call_NameR (hn.use a K fun W0 W0 W0 W0 x W0 W0 W0 a' r q K' => by
   obtain ⟨rfl, q⟩ := q
   cases r
   exact q5f (first := []) (fs := []) hk hs q a' .nil K')
noncomputable def q95 (c : Cx) (P : Pt) (ρ : Loc) (st : St) (name : Str) (v : V) (f : Value) (first : List V) (st' : St) : Prop := ∀ g pv m ns news h0 (s : Shared) x pl (Qc : Value × List Value -> Shared -> Prop) (Ec : Value -> Shared -> Prop), At c P g ρ st pv m ns news h0 s.heap -> VR c g v x ->
 (∀ g' news' h' tk xs, g.le g' -> At c P g' ρ st' pv m ns news' h0 h' -> VRs c g' first xs -> Qc (f, xs) { s with heap := h', toks := tk }) -> wpAny (model c.prog c.w) P.A (getMethod x name pl) Qc Ec s
noncomputable def q2c : Expr -> Bool
 | .Call .. => false
 | _ => true
theorem z1n {o : Expr} {name : Str} {env : Env} (h : q2c o = true) : attributeBase o name env (eval o env) = eval o env := by
 induction o using Expr.casesOn <;> first | rfl | exact zft h
theorem x0s {env : Env} {pos : Pos} {n : Nat} : ∀ {es : List Expr}, es.all q0e = true -> n < 30 -> methodCallForm n (backTo pos (starEach es env)) (backToKw pos (keywordEach [] env)) = true := by
 intro es hs hn
 have : (backTo pos (starEach es env)).all (fun x => !x.1) = true := by
   have := q5x (env := env) (pos := pos) hs
   rw [List.any_eq_false] at this
   rw [List.all_eq_true]
   intro x hx
   have := this x hx
   simpa using this
 unfold methodCallForm
 refine rwm this ?_
 show (true && ([] : List (Option Str × Sem Value)).all _ && decide (n + 0 < 30)) = true
 simp [hn]
theorem z6e {o : Expr} {name : Str} {ap pos : Pos} {es : List Expr} (hb : q2c o = true) (hs : es.all q0e = true) (hl : es.length < 30) (hp : (ap.endLine == pos.line) = true)
   (h : EvE c P ρ st o (fun v st₁ => ∃ f first st₂, q95 c P ρ st₁ name v f first st₂ /\ q4d c f /\ q22 c P ρ st₂ pos es (fun vs st₃ => q0i c P ρ st₃ (.prim f) (first ++ vs) Q X) X) X) : EvE c P ρ st (.Call (.Attribute o name ap) es [] pos) Q X :=
 fun W0 W0 W0 W0 W0 W0 W0 W0 W0 W0 a W0 K => by
   show wpAny _ _ (eval (.Call (.Attribute o name ap) es [] pos) P.env) _ _ _
   (rewrite [arm_eval_Call]; refine rwm (z1n hb) ?_)
   refine wpAny_bind (h.use a K fun g1 W0 W0 s1 x W0 W0 W0 a' r q K' => ?_)
   refine e33 q fun f first st₂ hm hk q => ?_
   have hform := x0s (env := P.env) (pos := pos) (n := es.length + ([] : List Keyword).length) hs hl
   have hpos : methodCallPos true o P.env ap pos = pure pos := by unfold methodCallPos; simp [hp]
   refine wpAny_bind (wpAny_standAt ?_)
   unfold methodCall
   refine rwm hform ?_
   refine wpAny_bind (wpAny_holding ?_)
   unfold calleeOf
   refine rwm (if_pos rfl) ?_
   refine hm _ _ _ _ _ _ _ x _ _ _ a' r fun g2 news2 h2 tk xs l2 a2 r2 => ?_
   refine wpAny_bind (wpAny_of_eq hpos ?_)
   exact q5f hk hs q a2 r2 (K'.step l2 .rfl)
end
section
variable {c : Cx} {g : Gh}
theorem q88 (x y : Str) (t : Tok) : (Value.str x t).isStr y = (x == y) := rfl
theorem z1q (x y : Str) : (x == y) = (y == x) := by
 rw [Bool.eq_iff_iff, beq_iff_eq, beq_iff_eq]
 exact eq_comm
theorem q84 {x n : Str} {k : Int} {t : Tok} {y : Value} {es : List DictEntry} : getL x (⟨k, .str n t, y⟩ :: es) = cond (x == n) (some (some y)) (getL x es) := by
 unfold getL
 (refine rwm (List.find?_cons) ?_; refine rwm List.any_cons ?_)
 (rewrite [q88]; refine rwm (z1q _ _) ?_)
 cases x == n with
 | true => rfl
 | false => rfl
theorem DR.find {fs : List (Str × V)} {es : List DictEntry} {x : Str} {v : V} (h : DR c g fs es) (e : fs.lookup x = some v) : ∃ y, getL x es = some (some y) /\ VR c g v y :=
 DR.ind (C := fun fs es => fs.lookup x = some v -> ∃ y, getL x es = some (some y) /\ VR c g v y) (fun e => zns e) (fun n w t y fs es hv W0 ih h => by
   rw [List.lookup_cons] at h
   refine rwm q84 ?_
   refine q27 (x == n) (fun e => ?_) fun e => ?_
   . rw [e] at h; exact ⟨y, rfl, oi h ▸ hv⟩
   . rw [e] at h; exact ih h) h e
theorem DR.miss {fs : List (Str × V)} {es : List DictEntry} {x : Str} (h : DR c g fs es) (e : fs.lookup x = none) : getL x es = some none :=
 DR.ind (C := fun fs es => fs.lookup x = none -> getL x es = some none) (fun W0 => rfl) (fun n w t y fs es hv W0 ih h => by
   rw [List.lookup_cons] at h
   refine rwm q84 ?_
   refine q27 (x == n) (fun e => ?_) fun e => ?_
   . rw [e] at h; exact zsn h
   . rw [e] at h; exact ih h) h e
theorem DR.put {fs : List (Str × V)} {es : List DictEntry} {x : Str} {v : V} {y : Value} {t : Tok} (h : DR c g fs es) (hy : VR c g v y) : DR c g (q6k x v fs) (PySem.W.putL x (PyData.keyHash c.w.params x) (.str x t) y es) :=
 DR.ind (C := fun fs es => DR c g (q6k x v fs) (PySem.W.putL x (PyData.keyHash c.w.params x) (.str x t) y es)) (.cons hy .nil) (fun n w t' y' fs es hv r ih => by
   unfold q6k PySem.W.putL
   (rewrite [q88]; refine rwm (z1q n x) ?_)
   by_cases e : (x == n) = true
   . (refine rwm (if_pos e) ?_; refine rwm (if_pos e) ?_; refine rwm (eq_of_beq e) ?_)
     exact .cons hy r
   . (refine rwm (if_neg e) ?_; refine rwm (if_neg e) ?_)
     exact .cons hv ih) h
theorem DR.look {fs : List (Str × V)} {es : List DictEntry} {x : Str} (h : DR c g fs es) : (getL x es).isSome = true := by
 refine q1v (fs.lookup x) (fun e => ?_) fun v e => ?_
 . refine rwm (h.miss e) ?_; rfl
 . obtain ⟨y, h1, _⟩ := h.find e; refine rwm h1 ?_; rfl
theorem VR.handed {v : V} {x : Value} (h : VR c g v x) (hc : v.clear = true) : handedIn x = true := by
 cases h <;> first | rfl | exact zft hc
end
noncomputable def q8o (K : Frag) (C : Addr) (x : Str) : Bool := plainGet K C x && hasDictIn K C && (match findIn K (.ref C) x with
 | some a => noGet K a
 | none => false)
noncomputable def q9c (K : Frag) (C : Addr) (x : Str) (f : Addr) : Bool := plainGet K C x && (findIn K (.ref C) x == some (some (.ref f))) && isFn K (.ref f)
noncomputable def z39 (K : Frag) (C : Addr) (x : Str) : Bool := (findIn K (.ref C) "__setattr__" == some (some (.builtin "object.__setattr__"))) && plainOver K C && (takerIn K C x == some none) && hasDictIn K C
section
variable {c : Cx} {P : Pt} {ρ : Loc} {st : St} {X : Exc} {g : Gh} {pv news : List (Addr × Obj)} {m ns : Str -> Option Value} {h0 h : Heap} {C : Addr} {fs : List (Str × V)} {x : Str}
inductive IsOb (c : Cx) (st : St) (C : Addr) (fs : List (Str × V)) : V -> Prop
 | ob : IsOb c st C fs (.ob C fs)
 | ref {n : Nat} : st.get n = some (.inst C fs) -> IsOb c st C fs (.ref n)
theorem At.inst (a : At c P g ρ st pv m ns news h0 h) {v : V} {y : Value} (i : IsOb c st C fs v) (r : VR c g v y) : ∃ b d es k, y = .ref b /\ InstAt h b (instObj C d) C (some (dictOf es k)) /\ DR c g fs es := by
 cases i with
 | ob =>
   (refine e44 r.obI fun b d es k r => ?_; refine rwm r ?_; intro h1 h2 h3)
   exact ⟨b, d, es, k, rfl, ⟨a.get h1, rfl, rfl, a.get h2⟩, h3⟩
 | @ref n e =>
   (refine e22 r.refI fun b d r => ?_; refine rwm r ?_; intro hp)
   refine e22 (a.hk.own n _ e :) fun b1 d1 h1 r1 => ?_
   rw [hp] at h1
   cases h1
   refine e24 r1.instI fun es k had hm hm' hr => ?_
   exact ⟨b, d, es, k, rfl, ⟨(a.nw _ hm).1, rfl, rfl, (a.nw _ hm').1⟩, hr⟩
end
section
variable {c : Cx} {P : Pt} {ρ : Loc} {st : St} {X : Exc} {Q : V -> St -> Prop} {C : Addr} {fs : List (Str × V)}
theorem z0j {o : Expr} {x : Str} {pos : Pos} (hb : q2c o = true) (h : EvE c P ρ st o (fun v st₁ => ∃ C fs w, IsOb c st₁ C fs v /\ q8o c.K C x = true /\ fs.lookup x = some w /\ w.clear = true /\ Q w st₁) X) : EvE c P ρ st (.Attribute o x pos) Q X :=
 fun W0 W0 W0 W0 W0 W0 W0 W0 W0 W0 a W0 K => by
   show wpAny _ _ (eval (.Attribute o x pos) P.env) _ _ _
   (rewrite [arm_eval_Attribute]; refine rwm (z1n hb) ?_)
   refine wpAny_bind (h.use a K fun g1 W0 W0 s1 y W0 W0 W0 a' r q K' => ?_)
   refine e35 q fun C fs w i ok hf hc q => ?_
   (refine e43 (a'.inst i r :) fun b d es k r => ?_; refine rwm r ?_; intro I D)
   refine e12 (D.find hf :) fun z hz hr => ?_
   unfold q8o at ok
   rw [Bool.and_eq_true, Bool.and_eq_true] at ok
   obtain ⟨⟨o1, o2⟩, o3⟩ := ok
   refine z3w (findIn c.K (.ref C) x) (fun at_ hat => ?_) fun hat => ?_
   . rw [hat] at o3
     refine wpAny_bind (wpAny_standAt (wpAny_bind (wpAny_holding (get_own a'.fr a'.kin I o1 o2 hat o3 hz (hr.handed hc) (wpAny_bind (wpAny_letTemporaryGo (wpAny_pure (K'.now (tk := s1.toks + 1) a' hr q))))))))
   . rw [hat] at o3; exact zft o3
theorem z7j {x : Str} {f : Addr} {v : V} (i : IsOb c st C fs v) (ok : q9c c.K C x f = true) (hf : fs.lookup x = none) : q95 c P ρ st x v (.ref f) [v] st :=
 fun g pv m ns news h0 s y pl Qc Ec a r k => by
   (refine e43 (a.inst i r :) fun b d es kk r => ?_; subst r; intro I D)
   unfold q9c at ok
   rw [Bool.and_eq_true, Bool.and_eq_true, beq_iff_eq] at ok
   exact method_inst a.fr a.kin I ok.1.1 ok.1.2 ok.2 (D.miss hf) (k g news s.heap s.toks [.ref b] .rfl a (.cons r .nil))
theorem At.setattr {g : Gh} {pv news : List (Addr × Obj)} {m ns : Str -> Option Value} {h0 : Heap} {s : Shared} {Qm : Unit -> Shared -> Prop} {E : Value -> Shared -> Prop} (a : At c P g ρ st pv m ns news h0 s.heap) {n : Nat} {x : Str} {w : V} {y z : Value} (e : st.get n = some (.inst C fs))
   (ok : z39 c.K C x = true) (hl : fs.length <= 900) (r : VR c g (.ref n) y) (rz : VR c g w z)
   (k : ∀ news' h' tk, At c P g ρ (st.set n (.inst C (q6k x w fs))) pv m ns news' h0 h' -> Qm () { s with heap := h', toks := tk }) : wpAny (model c.prog c.w) P.A (setAttr y x z) Qm E s := by
 (refine e22 r.refI fun b d r => ?_; refine rwm r ?_; intro hp)
 have r := VR.ref hp (c := c)
 refine e22 (a.hk.own n _ e :) fun b1 d1 h1 r1 => ?_
 rw [hp] at h1
 cases h1
 refine e24 r1.instI fun es kk had hm hm' hr => ?_
 unfold z39 at ok
 rw [Bool.and_eq_true, Bool.and_eq_true, Bool.and_eq_true, beq_iff_eq, beq_iff_eq] at ok
 have len : ∀ {fs : List (Str × V)} {es : List DictEntry}, DR c g fs es -> es.length = fs.length := fun {fs es} D => by
   induction es generalizing fs with
   | nil => cases D; rfl
   | cons p l ih => cases D with | cons _ r => (refine rwm List.length_cons ?_; refine rwm List.length_cons ?_; refine rwm (ih r) ?_; rfl)
 have lp : ∀ (es : List DictEntry) (t : Tok), (PySem.W.putL x (PyData.keyHash c.w.params x) (.str x t) z es).length <= es.length + 1 := fun es t => by
   induction es with
   | nil => exact Nat.le_refl _
   | cons p l ih =>
     unfold PySem.W.putL
     split
     . exact Nat.le_succ _
     . exact Nat.succ_le_succ ih
 have N' : News h0 P.L s.heap ((d, dictOf es kk) :: q7i d news) := fun p hp => by
   rcases mc hp with rfl | hp
   . exact a.nw _ hm'
   . exact a.nw _ (q0k.mp hp).1
 refine set_dict (w := c.w) (K := c.K) (x := b) (C := C) (ox := instObj C d) (dx := d) (es := es) (n := kk) (news := (d, dictOf es kk) :: q7i d news) a.fr a.kin N' ⟨(a.nw _ hm).1, rfl, rfl, (a.nw _ hm').1⟩ rfl ok.1.1.1 ok.1.1.2 ok.1.2 ok.2 hr.look rfl (.head q34) ?_ fun h' F N => ?_
 . have := lp es (s.toks + 1)
   have := len hr
   omega
 . refine k _ h' _ (a.renew .rfl F N (a.hk.change e hp (.inr rfl) (.inst had ?_ (.head _) (hr.put rz))))
   exact .tail _ (q0k.mpr ⟨hm, had⟩)
theorem z3f {e o : Expr} {x : Str} {p pos : Pos} {Q : Fl -> Loc -> St -> Prop} (hs : swapsWith e (some (.Attribute o x p)) pos.line P.env = pure false)
   (h : EvE c P ρ st e (fun w st₁ => EvE c P ρ st₁ o (fun v st₂ => ∃ n C fs, v = .ref n /\ st₂.get n = some (.inst C fs) /\ z39 c.K C x = true /\ fs.length <= 900 /\ Q .next ρ (st₂.set n (.inst C (q6k x w fs)))) X) X) :
   Ex1 c P ρ st (.Assign [.Attribute o x p] e pos) Q X :=
 fun g pv m news h0 s Qc Ec a K => plainObj_wpAny_Assign_Attribute (h.useS a K fun W0 W0 W0 s1 z W0 W0 W0 a1 r1 q1 K1 => q1.useS a1 K1 fun W0 W0 W0 s2 y W0 W0 l2 a2 r2 q2 K2 => by
   (refine e35 q2 fun n C fs r => ?_; subst r; intro e ok hl q)
   exact a2.setattr e ok hl r2 (r1.mono l2) fun news' h' tk a3 => K2.here a3 .next q) hs
end
noncomputable def Pt.under (P : Pt) (A : Around) : Pt := { P with A := A, d := P.d - 1 }
section
variable {c : Cx} {P : Pt} {ρ : Loc} {st : St} {X : Exc} {g : Gh} {pv news : List (Addr × Obj)} {m ns : Str -> Option Value} {h0 h : Heap} {A : Around}
theorem POk.under (ok : POk c P) (hd : 0 < P.d) (h1 : A.frames = P.A.frames) (h2 : A.depth <= P.A.depth + 2) (h3 : A.units <= P.A.units + 3) (h4 : A.handled = P.A.handled) : POk c (P.under A) :=
 ⟨h1.trans ok.hA, ok.hf, ok.kf, ok.kt, ok.gl, ok.bl, ok.XB, ok.TB, ok.HB, q3x h2 hd (by decide) ok.depth, q3x h3 hd (by decide) ok.units, fun h => h4.trans (ok.hand h)⟩
theorem At.under (a : At c P g ρ st pv m ns news h0 h) (ok : POk c (P.under A)) : At c (P.under A) g ρ st pv m ns news h0 h :=
 ⟨ok, a.below, a.dicts, a.fr, a.nw, a.hk, a.loc, a.cel, a.nsk⟩
theorem At.over (ok : POk c P) (a : At c (P.under A) g ρ st pv m ns news h0 h) : At c P g ρ st pv m ns news h0 h :=
 ⟨ok, a.below, a.dicts, a.fr, a.nw, a.hk, a.loc, a.cel, a.nsk⟩
end
theorem q6s {c : Cx} {C fI : Addr} (hm : makesIn c.K C = true) (hi : findIn c.K (.ref C) "__init__" = some (some (.ref fI))) (hf : typeIn c.K (.ref fI) = some (.type "function")) {d : Nat} {tn : Bool} {st : St} {vs : List V} {Q : V -> St -> Prop} {X : Exc}
   (hC : q0d c d tn (st.new (.inst C [])) (.prim (.ref fI)) (.ref st.nx :: vs) (fun v st' => v = .none /\ Q (.ref st.nx) st') X) : q0d c (d + 1) tn st (.prim (.ref C)) vs Q X := by
 intro P ρ hPd hPt hPn g pv m ns news h0 s fv xs R a hfv hxs K
 cases hfv
 refine make_K a.fr a.nw a.kinH hm hi hf fun x dx h' F N h1 h2 => ?_
 have ok' : POk c (P.under (P.A.under (.builtin "type.__call__" ⟨.ref C :: xs, []⟩))) := a.ok.under (z73 hPd) rfl (Nat.le_succ _) (Nat.add_le_add_left (by decide : 1 <= 3) _) rfl
 obtain ⟨H, l⟩ := a.hk.nameNew (a := x) (d := dx) (x := .inst C []) (news' := (x, instObj C dx) :: (dx, emptyDict) :: news) (fun p hp => .tail _ (.tail _ hp)) (fun p hp => ⟨Nat.ne_of_lt (Nat.lt_trans (h1 p hp) h2), Nat.ne_of_lt (h1 p hp)⟩) (fun W0 => .inst (es := []) (Nat.ne_of_gt h2) (.head _) (.tail _ (.head _)) .nil)
 have a1 := a.renew l F N H
 have a2 := a1.under ok'
 have hpl : ({ g with pl := fun i => if i = st.nx then some (x, dx) else g.pl i } : Gh).pl st.nx = some (x, dx) := if_pos rfl
 refine hC (P.under (P.A.under (.builtin "type.__call__" ⟨.ref C :: xs, []⟩))) ρ (z06 hPd) hPt hPn _ pv m ns _ h0 { s with heap := h' } (.ref fI) (.ref x :: xs) _ a2 (.prim _) (.cons (.ref hpl) (hxs.mono l)) ⟨fun g' news' h0' h'' tk v b st' l' mv a3 r q => ?_, fun g' st' h0' h'' tk C' e l' mv Z x' => ?_⟩
 . obtain ⟨rfl, q⟩ := q
   cases r
   exact ⟨rfl, K.ok g' news' h0' h'' tk _ _ st' (l.trans l') ⟨mv.turn, mv.same⟩ (a3.over a.ok) (.ref (l'.pl _ _ hpl)) q⟩
 . exact K.ex g' st' h0' h'' tk C' e (l.trans l') ⟨mv.turn, mv.same⟩ Z x'
section
variable {ι : Type} {c : Cx} {P : Pt} {ρ : Loc} {st : St} {X : Exc} {Rel : Gh -> ι -> Prop} {t : ι -> Sem Value} {Q : V -> St -> Prop}
inductive Frz (Q : V -> St -> Prop) : V -> St -> Prop
 | keep {v : V} {st : St} : Q v st -> Frz Q v st
 | inst {n : Nat} {C : Addr} {fs : List (Str × V)} {st : St} : st.get n = some (.inst C fs) -> Frz Q (.ob C fs) (st.del n) -> Frz Q (.ref n) st
 | list {n : Nat} {vs : List V} {st : St} : st.get n = some (.list vs) -> Frz Q (.lst vs) (st.del n) -> Frz Q (.ref n) st
theorem Frz.go {g : Gh} {v : V} {x : Value} {pv news : List (Addr × Obj)} {m ns : Str -> Option Value} {h0 h : Heap} (q : Frz Q v st) (a : At c P g ρ st pv m ns news h0 h) (r : VR c g v x) : ∃ g' v' st', g.le g' /\ At c P g' ρ st' pv m ns news h0 h /\ VR c g' v' x /\ Q v' st' := by
 induction q generalizing g with
 | keep q => exact ⟨g, _, _, .rfl, a, r, q⟩
 | inst e _ ih =>
   refine e34 (a.hk.freezeInst e :) fun g' b d l hp H r' => ?_
   cases r with
   | ref hp' =>
   rw [hp] at hp'
   cases hp'
   refine e34 (ih (a.renew l a.fr a.nw H) r' :) fun g2 v2 st2 l2 a2 r2 q2 => ?_
   exact ⟨g2, v2, st2, l.trans l2, a2, r2, q2⟩
 | list e _ ih =>
   refine e24 (a.hk.freezeList e :) fun g' b l hp H r' => ?_
   cases r with
   | ref hp' =>
   rw [hp] at hp'
   cases hp'
   refine e34 (ih (a.renew l a.fr a.nw H) r' :) fun g2 v2 st2 l2 a2 r2 q2 => ?_
   exact ⟨g2, v2, st2, l.trans l2, a2, r2, q2⟩
theorem TrG.frz (h : TrG c P ρ st Rel (VR c) t (Frz Q) X) : TrG c P ρ st Rel (VR c) t Q X :=
 fun g pv m ns news h0 s i Qc Ec a hi K => h g pv m ns news h0 s i Qc Ec a hi ⟨fun g' news' h0' h' tk x b st' l v a' r q => by
   refine e34 (q.go a' r :) fun g2 v2 st2 l2 a2 r2 q2 => ?_
   exact K.ok g2 news' h0' h' tk x v2 st2 (l.trans l2) v a2 r2 q2, K.ex⟩
theorem q0d.frz {d : Nat} {tn : Bool} {f : V} {vs : List V} (h : q0d c d tn st f vs (Frz Q) X) : q0d c d tn st f vs Q X :=
 fun P ρ h1 h2 h3 g pv m ns news h0 s x xs R a hf hxs K => h P ρ h1 h2 h3 g pv m ns news h0 s x xs R a hf hxs ⟨fun g' news' h0' h' tk x b st' l v a' r q => by
   refine e34 (q.go a' r :) fun g2 v2 st2 l2 a2 r2 q2 => ?_
   exact K.ok g2 news' h0' h' tk x v2 st2 (l.trans l2) v a2 r2 q2, K.ex⟩
theorem q0d.mono {d : Nat} {tn : Bool} {f : V} {vs : List V} {Q' : V -> St -> Prop} (h : q0d c d tn st f vs Q X) (hq : ∀ v st', Q v st' -> Q' v st') : q0d c d tn st f vs Q' X :=
 fun P ρ h1 h2 h3 g pv m ns news h0 s x xs R a hf hxs K => h P ρ h1 h2 h3 g pv m ns news h0 s x xs R a hf hxs ⟨fun g' news' h0' h' tk x b st' l v a' r q => K.ok g' news' h0' h' tk x b st' l v a' r (hq _ _ q), K.ex⟩
end
section
variable {c : Cx} {P : Pt} {ρ : Loc} {st : St} {X : Exc} {g : Gh} {pv news : List (Addr × Obj)} {m ns : Str -> Option Value} {h0 h : Heap}
theorem At.pushed (a : At c P g ρ st pv m ns news h0 h) (o : Obj) (ho : o.isFreed = false) : ∃ g', g.le g' /\ At c P g' ρ st pv m ns ((h.objs.size, o) :: news) h0 (h.push o) /\ Has c g' h.objs.size o :=
 a.pushFrozen (a.fr.push o) (a.nw.push a.fr o ho) fun p hp => Nat.ne_of_lt (a.ltSize p hp)
theorem At.newTuple (a : At c P g ρ st pv m ns news h0 h) {vs : List V} {its : List Value} (r : VRs c g vs its) : ∃ g' news', g.le g' /\ At c P g' ρ st pv m ns news' h0 (h.push { cls := .type "tuple", data := .seq its.toArray }) /\ VR c g' (.tup vs) (.ref h.objs.size) := by
 refine e13 (a.pushed { cls := .type "tuple", data := .seq its.toArray } rfl :) fun g' l a' hh => ?_
 exact ⟨g', _, l, a', .tup hh (r.mono l)⟩
theorem At.newFList (a : At c P g ρ st pv m ns news h0 h) {vs : List V} {its : List Value} (r : VRs c g vs its) : ∃ g' news', g.le g' /\ At c P g' ρ st pv m ns news' h0 (h.push { cls := .type "list", data := .seq its.toArray }) /\ VR c g' (.lst vs) (.ref h.objs.size) := by
 refine e13 (a.pushed { cls := .type "list", data := .seq its.toArray } rfl :) fun g' l a' hh => ?_
 exact ⟨g', _, l, a', .lst hh (r.mono l)⟩
theorem At.newListN (a : At c P g ρ st pv m ns news h0 h) {vs : List V} {its : List Value} (r : VRs c g vs its) {D : Addr} {k : Nat} {h' : Heap} (F : Fr h0 P.L h' m) (N : News h0 P.L h' ((D, PySem.W.listOf its.toArray k) :: news)) (hD : ∀ p ∈ news, p.1 ≠ D) :
   ∃ g', g.le g' /\ At c P g' ρ (st.new (.list vs)) pv m ns ((D, PySem.W.listOf its.toArray k) :: news) h0 h' /\ VR c g' (.ref st.nx) (.ref D) := by
 obtain ⟨H, l⟩ := a.hk.nameNew (a := D) (d := D) (x := .list vs) (news' := (D, PySem.W.listOf its.toArray k) :: news) (fun p hp => .tail _ hp) (fun p hp => ⟨hD p hp, hD p hp⟩) (fun l => .list (.head _) (r.mono l))
 exact ⟨_, l, a.renew l F N H, .ref (if_pos rfl)⟩
inductive IsSeq (st : St) (vs : List V) : V -> Prop
 | tup : IsSeq st vs (.tup vs)
 | lst : IsSeq st vs (.lst vs)
 | ref {n : Nat} : st.get n = some (.list vs) -> IsSeq st vs (.ref n)
theorem At.seq (a : At c P g ρ st pv m ns news h0 h) {v : V} {y : Value} {vs : List V} (i : IsSeq st vs v) (r : VR c g v y) : ∃ b its, y = .ref b /\ (h.IsList b its.toArray \/ IsTup h b its.toArray) /\ VRs c g vs its := by
 cases i with
 | tup => (refine e33 r.tupI fun b its k r => ?_; refine rwm r ?_; intro hh hr); exact ⟨b, its, rfl, .inr ⟨_, a.get hh, rfl, k, rfl⟩, hr⟩
 | lst => (refine e33 r.lstI fun b its k r => ?_; refine rwm r ?_; intro hh hr); exact ⟨b, its, rfl, .inl ⟨_, a.get hh, rfl, k, rfl⟩, hr⟩
 | @ref n e =>
   (refine e22 r.refI fun b d r => ?_; refine rwm r ?_; intro hp)
   refine e22 (a.hk.own n _ e :) fun b1 d1 h1 r1 => ?_
   rw [hp] at h1
   cases h1
   obtain ⟨rfl, its, k, hm, hr⟩ := r1.listI
   exact ⟨b, its, rfl, .inl ⟨_, (a.nw _ hm).1, rfl, k, rfl⟩, hr⟩
end
section
variable {c : Cx} {P : Pt} {ρ : Loc} {st : St} {X : Exc} {Q : V -> St -> Prop}
theorem j0j {es : List Expr} {k : Nat} {pos : Pos} (h : q22 c P ρ st pos es (fun vs st₁ => vs.length <= sizeLine /\ Q (.tup vs) st₁) X) : EvE c P ρ st (.Tuple es k pos) Q X :=
 fun W0 W0 W0 W0 W0 W0 W0 W0 W0 W0 a W0 K => wpAny_Tuple (TrG.use (i := ()) h a trivial K fun W0 W0 W0 s1 xs W0 W0 W0 a1 r1 q1 K1 => ⟨by refine rwm r1.length ?_; exact q1.1, by
   refine e23 (a1.newTuple r1 :) fun g' news' l a2 r2 => ?_
   exact K1.here (tk := s1.toks) l a2 r2 q1.2⟩)
theorem z6d {es : List Expr} {pos : Pos} (h : q22 c P ρ st pos es (fun vs st₁ => vs.length <= sizeLine /\ Q (.ref st₁.nx) (st₁.new (.list vs))) X) : EvE c P ρ st (.List es pos) Q X :=
 fun W0 W0 W0 W0 W0 W0 W0 W0 W0 W0 a W0 K => wpAny_List (TrG.use (i := ()) h a trivial K fun W0 W0 W0 s1 xs W0 W0 W0 a1 r1 q1 K1 => ⟨by refine rwm r1.length ?_; exact q1.1, by
   refine e13 (a1.newListN (k := 0) r1 (a1.fr.push _) (a1.nw.push a1.fr _) fun p hp => Nat.ne_of_lt (a1.ltSize p hp) :) fun g' l a2 r2 => ?_
   exact K1.here (tk := s1.toks) l a2 r2 q1.2⟩)
noncomputable def z9g (c : Cx) (P : Pt) (ρ : Loc) (st : St) (o i : V) (Q : V -> St -> Prop) (X : Exc) : Prop := ∀ g pv m ns news h0 (s : Shared) x y (Qc : Value -> Shared -> Prop) (Ec : Value -> Shared -> Prop), At c P g ρ st pv m ns news h0 s.heap -> VR c g o x -> VR c g i y -> KQ c P ρ pv m ns (VR c) Q X Qc Ec g h0 s ->
 SubscriptOn (model c.prog c.w) P.A x y Qc Ec s
noncomputable def q3u : Expr -> Bool
 | .Slice .. => false
 | _ => true
theorem x2e {e : Expr} {o i : Value} (h : q3u e = true) : subscripted e false o i = operate [o, i] (getItem o i) := by
 induction e using Expr.casesOn <;> first | rfl | exact zft h
theorem q8z {o e : Expr} {pos : Pos} (he : q3u e = true) (h : EvE c P ρ st o (fun v st₁ => EvE c P ρ st₁ e (fun i st₂ => z9g c P ρ st₂ v i Q X) X) X) : EvE c P ρ st (.Subscript o e pos) Q X :=
 fun W0 W0 W0 W0 W0 W0 W0 W0 W0 W0 a W0 K => by
   show wpAny _ _ (eval (.Subscript o e pos) P.env) _ _ _
   rw [eval_Subscript]
   refine wpAny_bind (h.use a K fun W0 W0 W0 W0 x W0 W0 W0 a1 r1 q1 K1 => wpAny_bind (wpAny_holding (q1.use a1 K1 fun W0 W0 W0 s2 y W0 W0 l2 a2 r2 q2 K2 => wpAny_bind (wpAny_standAt ?_))))
   refine e23 (q2 _ _ _ _ _ _ _ x y _ _ a2 (r1.mono l2) r2 K2 :) fun T id hl hT hg => ?_
   refine wpAny_bind ?_
   refine rwm (getitemInPython_of_ne hT.not_modules) ?_
   refine wpAny_bind (wpAny_specialOf hT hl ?_)
   refine wpAny_pure ?_
   refine rwm (x2e he) ?_
   exact wpAny_bind (wpAny_operating (wpAny_mono hg (fun r s₃ h₃ => wpAny_bind (wpAny_letTemporaryGo (wpAny_pure h₃))) fun W0 W0 x => x))
theorem j7x {v : V} {vs : List V} {k : Int} {j : Nat} {w : V} (i : IsSeq st vs v) (h1 : -(2 ^ 62) <= k) (h2 : k < 2 ^ 62) (hj : seqIndex? k vs.length = some j) (hw : vs[j]? = some w) (q : Q w st) : z9g c P ρ st v (.int k) Q X :=
 fun g pv m ns news h0 s x y Qc Ec a rx ry K => by
   (refine e23 (a.seq i rx :) fun b its r => ?_; refine rwm r ?_; intro hb hr)
   refine e11 ry.intI fun ty r => rwm r ?_
   refine e12 (hr.get hw :) fun z hz rz => ?_
   have hlen := hr.length
   have lt : j < its.length := (List.getElem?_eq_some_iff.mp hz).1
   have hj' : (0 <= k /\ j = k.toNat /\ k < vs.length) \/ (k < 0 /\ 0 <= k + vs.length /\ j = (k + vs.length).toNat) := by
     unfold seqIndex? at hj
     by_cases k0 : k < 0
     . simp only [k0, if_true] at hj
       split at hj
       . rename_i q; simp at q; cases hj; exact .inr ⟨k0, q.1, rfl⟩
       . exact zns hj
     . simp only [k0, if_false] at hj
       split at hj
       . rename_i q; simp at q; cases hj; exact .inl ⟨q.1, rfl, q.2⟩
       . exact zns hj
   rcases hb with hb | hb
   . refine ⟨"list", "list.__getitem__", by (refine rwm (typeLookup_type _ _) ?_; refine rwm builtinLookup_eq_fast ?_); kernel_rfl, hb.typeIs, ?_⟩
     rcases hj' with ⟨k0, rfl, _⟩ | ⟨k0, k1, rfl⟩
     . exact wpAny_getItem_list hb k0 (Int.lt_trans h2 (by decide)) (by simpa using hz) (K.now (tk := s.toks) a rz q)
     . exact wpAny_getItem_list_neg hb (by omega) (by simp only [List.size_toArray]; omega) (by omega) (by simp only [List.size_toArray, List.getElem?_toArray]; refine rwm hlen ?_; exact hz) (K.now (tk := s.toks) a rz q)
   . refine ⟨"tuple", "tuple.__getitem__", by (refine rwm (typeLookup_type _ _) ?_; refine rwm builtinLookup_eq_fast ?_); kernel_rfl, hb.typeIs, ?_⟩
     exact getItem_tuple hb (Int.le_trans (by decide) h1) (Int.lt_trans h2 (by decide)) (j := j) (by (refine rwm List.size_toArray ?_; refine rwm hlen ?_); exact hj) (by simpa using hz) (K.now (tk := s.toks) a rz q)
end
section
variable {prog : Program} {w : World} {A : Around} {E : Value -> Shared -> Prop} {s : Shared}
theorem q9e : typeLookup (.type "int") "__bytes__" = pure none := by (refine rwm (typeLookup_type _ _) ?_; refine rwm builtinLookup_eq_fast ?_); kernel_rfl
theorem z0a : typeLookup (.type "bytes") "__bytes__" = pure (some (.builtin "bytes.__bytes__")) := by (refine rwm (typeLookup_type _ _) ?_; refine rwm builtinLookup_eq_fast ?_); kernel_rfl
theorem z45 {v : Value} {Q : Value -> Shared -> Prop} {b : Array UInt8} (hb : codeAny (model prog w) A.in1 (.call (.builtin "bytes.__new__") ⟨[.type "bytes", v], []⟩) (wants (fun obj s₁ => s₁.TypeIs obj "bytes" /\ Q obj s₁) E) s) : wpAny (model prog w) A (call (.type "bytes") [v]) Q E s :=
 callType_codes (Q₁ := fun obj s₁ => s₁.TypeIs obj "bytes" /\ Q obj s₁) F.bm_called (F.bm_typeCall _) F.entry_object_init hb fun obj s₁ h₁ =>
   ⟨h₁.1, F.args_object_init_2 obj _, object_init_meets F.bm_called.init.lookup F.bm_called.made (by decide) prog w A.in1 _ s₁ ⟨h₁.1, rfl, h₁.2⟩⟩
theorem q23 {b : Array UInt8} {t : Tok} {Q : Value -> Shared -> Prop} (hQ : Q (.bytes b t) s) : wpAny (model prog w) A (call (.type "bytes") [.bytes b t]) Q E s := by
 refine z45 (b := b) ?_
 refine codeAny_of_tree ?_
 show wpAny _ A.in1.in1 (do checkBuiltinCall "bytes.__new__" ⟨[.type "bytes", .bytes b t], []⟩; again (.builtin "bytes.__new__" ⟨[.type "bytes", .bytes b t], []⟩)) _ _ s
 refine wpAny_bind (wpAny_of_eq (F.bm_newCall _) (wpAny_pure ⟨plainId_quiet F.bm_plain _, codeAny_builtin F.bm_entry ?_⟩))
 refine rwm (Around.under_plainId F.bm_plain _) ?_
 unfold Builtin.«bytes.__new__»
 refine wpAny_bind (wpAny_of_eq (a := true) rfl ?_)
 refine bm_if_false rfl ?_
 refine wpAny_bind (wpAny_of_eq F.bm_sub ?_)
 refine bm_if_false rfl ?_
 refine wpAny_bind (wpAny_of_eq (F.bm_bind _) ?_)
 refine wpAny_bind (wpAny_of_eq (a := ()) rfl ?_)
 refine wpAny_bind (wpAny_of_eq (a := ()) rfl ?_)
 refine bm_if_false rfl ?_
 refine wpAny_bind (wpAny_specialOf (typeIs_bytes _ b t) z0a ?_)
 refine wpAny_bind (wpAny_rule ?_)
 refine wpAny_bind (wpAny_typeOf (typeIs_bytes _ b t) ?_)
 refine bm_if_true rfl ?_
 exact wpAny_pure ⟨typeIs_bytes _ _ _, hQ⟩
theorem q8q {n : Int} {t : Tok} {Q : Value -> Shared -> Prop} (h0 : 0 <= n) (h1 : n <= 16777216) (hQ : ∀ t k, Q (.bytes (Array.replicate n.toNat 0) t) { s with toks := k }) : wpAny (model prog w) A (call (.type "bytes") [.int n t]) Q E s := by
 refine z45 (b := #[]) ?_
 refine codeAny_of_tree ?_
 show wpAny _ A.in1.in1 (do checkBuiltinCall "bytes.__new__" ⟨[.type "bytes", .int n t], []⟩; again (.builtin "bytes.__new__" ⟨[.type "bytes", .int n t], []⟩)) _ _ s
 refine wpAny_bind (wpAny_of_eq (F.bm_newCall _) (wpAny_pure ⟨plainId_quiet F.bm_plain _, codeAny_builtin F.bm_entry ?_⟩))
 refine rwm (Around.under_plainId F.bm_plain _) ?_
 unfold Builtin.«bytes.__new__»
 refine wpAny_bind (wpAny_of_eq (a := true) rfl ?_)
 refine bm_if_false rfl ?_
 refine wpAny_bind (wpAny_of_eq F.bm_sub ?_)
 refine bm_if_false rfl ?_
 refine wpAny_bind (wpAny_of_eq (F.bm_bind _) ?_)
 refine wpAny_bind (wpAny_of_eq (a := ()) rfl ?_)
 refine wpAny_bind (wpAny_of_eq (a := ()) rfl ?_)
 refine bm_if_false rfl ?_
 refine wpAny_bind (wpAny_specialOf (typeIs_int _ n t) q9e ?_)
 refine wpAny_bind (wpAny_bind ?_)
 refine wpAny_of_eq (a := none) rfl ?_
 refine wpAny_pure ?_
 refine bm_if_false rfl ?_
 refine wpAny_bind (wpAny_specialOf (typeIs_int _ n t) F.slot_int_index.lookup ?_)
 refine bm_if_false rfl ?_
 refine wpAny_bind (wpAny_of_eq (a := Except.ok n) rfl ?_)
 dsimp only
 have h2 : n.toNat <= sizeLine := by refine rwm sizeLine_eq ?_; exact Nat.le_trans (Int.toNat_le.mpr h1) (by decide)
 have hz : ¬ n.toNat > sizeLine := Nat.not_lt.mpr h2
 (refine rwm (if_neg (by unfold Builtin.Bytes.fitsIndex; simp; exact ⟨Int.le_trans (by decide) h0, Int.lt_of_le_of_lt h1 (by decide)⟩)) ?_; refine rwm (if_neg (Int.not_lt.mpr h0)) ?_; refine rwm (if_neg (Int.not_lt.mpr (Int.le_trans h1 (by decide)))) ?_; refine rwm (if_neg (by unfold Builtin.Bytes.tooLong; refine rwm (decide_eq_false hz) ?_; exact Bool.false_ne_true)) ?_)
 refine wpAny_bind (wpAny_rule (wpAny_bind (wpAny_mkBytes ?_ (by refine rwm Array.size_replicate ?_; exact h2))))
 exact wpAny_pure ⟨typeIs_bytes _ _ _, hQ _ _⟩
end
noncomputable def q0t {α : Type} (l : List α) (lo hi : Option Int) : List α := (l.drop (lo.elim 0 (clipAt l.length))).take (hi.elim l.length (clipAt l.length) - lo.elim 0 (clipAt l.length))
theorem VRs.pick {c : Cx} {g : Gh} {vs : List V} {xs : List Value} (h : VRs c g vs xs) (lo hi : Option Int) : VRs c g (q0t vs lo hi) (q0t xs lo hi) := by
 unfold q0t
 refine rwm h.length ?_
 exact (h.drop _).take _
theorem z1c (xs : List Value) (lo hi : Option Int) : slicePick xs.toArray lo hi none = (q0t xs lo hi).toArray := by
 unfold slicePick q0t
 rw [sliceBounds_plain]
 simp only [sliceRange_one, pick_run, List.size_toArray]
section
variable {c : Cx} {P : Pt} {ρ : Loc} {st : St} {X : Exc} {Q : V -> St -> Prop}
theorem q4n {b : List UInt8} (q : Q (.bytes b) st) : q0i c P ρ st (.prim (.type "bytes")) [.bytes b] Q X := fun g W0 W0 W0 W0 W0 s p W0 W0 a hp K => by
 (refine e12 hp.one fun x r => ?_; refine rwm r ?_; intro h1)
 refine e11 h1.bytesI fun t r => rwm r ?_
 exact q23 (K.now (tk := s.toks) a (.bytes b _) q)
theorem q6e {n : Int} (h0 : 0 <= n) (h1 : n <= 16777216) (q : Q (.bytes (List.replicate n.toNat 0)) st) : q0i c P ρ st (.prim (.type "bytes")) [.int n] Q X := fun g W0 W0 W0 W0 W0 s p W0 W0 a hp K => by
 (refine e12 hp.one fun x r => ?_; refine rwm r ?_; intro h1')
 refine e11 h1'.intI fun t r => rwm r ?_
 refine q8q h0 h1 fun t k => ?_
 have := K.now (tk := k) a (.bytes (List.replicate n.toNat 0) t) q
 rwa [List.toArray_replicate] at this
theorem q8p {b d : List UInt8} (hz : b.length + d.length <= 16777216) (q : Q (.bytes (b ++ d)) st) : q4z c P ρ st .Add (.bytes b) (.bytes d) Q X := fun g W0 W0 W0 W0 W0 s p W0 W0 a hp K => by
 obtain ⟨x, y⟩ := p
 obtain ⟨t, rfl⟩ := hp.1.bytesI
 obtain ⟨u, rfl⟩ := hp.2.bytesI
 exact bytes_add_K (by simpa using hz) rfl fun t' k => K.now (tk := k) a (.bytes _ t') q
theorem q9p {b : List UInt8} {k : Int} (h0 : 0 <= k) (h1 : k < b.length) (hz : b.length <= 1099511627776) (q : Q (.int ((b.getD k.toNat 0).toNat : Nat)) st) : z9g c P ρ st (.bytes b) (.int k) Q X :=
 fun g pv m ns news h0' s x y Qc Ec a rx ry K => by
   refine e11 rx.bytesI fun t r => rwm r ?_
   refine e11 ry.intI fun u r => rwm r ?_
   exact ⟨"bytes", _, FB.slot_bytes_getitem.lookup, typeIs_bytes _ _ _, getItem_bytes hz h0 h1 (K.now (tk := s.toks + 1) a (.int _ _) q)⟩
noncomputable def q8j (c : Cx) (P : Pt) (ρ : Loc) (st : St) (e : Option Expr) (Q : Option Int -> St -> Prop) (X : Exc) : Prop := TrG c P ρ st j8d (fun _ (lo : Option Int) x => IsPart x lo) (fun W0 => evalPart e P.env) Q X
theorem z71 {Q : Option Int -> St -> Prop} (q : Q none st) : q8j c P ρ st none Q X := fun g W0 W0 W0 W0 W0 s i W0 W0 a W0 K => by
 refine rwm (evalPart_none _) ?_
 exact wpAny_pure (K.now (tk := s.toks) a .none q)
theorem z72 {e : Expr} {Q : Option Int -> St -> Prop} (h : EvE c P ρ st e (fun v st₁ => ∃ i, v = .int i /\ Q (some i) st₁) X) : q8j c P ρ st (some e) Q X := fun g W0 W0 W0 W0 W0 s i W0 W0 a W0 K => by
 refine rwm (evalPart_some _ _) ?_
 refine h.use a K fun W0 W0 W0 s1 x W0 W0 W0 a1 r1 q1 K1 => ?_
 (refine e12 q1 fun i r => ?_; subst r; intro q)
 refine e11 r1.intI fun t r => rwm r ?_
 exact K1.now (tk := s1.toks) a1 (.int i _) q
noncomputable def SlW (c : Cx) (P : Pt) (ρ : Loc) (st : St) (v : V) (lo hi : Option Int) (Q : V -> St -> Prop) (X : Exc) : Prop := ∀ g pv m ns news h0 (s : Shared) x sl vl vu (Qc : Value -> Shared -> Prop) (Ec : Value -> Shared -> Prop), At c P g ρ st pv m ns news h0 s.heap -> VR c g v x -> KQ c P ρ pv m ns (VR c) Q X Qc Ec g h0 s ->
 s.heap.IsSliceOf sl vl vu .none -> IsPart vl lo -> IsPart vu hi -> ∃ T id, typeLookup (.type T) "__getitem__" = pure (some (.builtin id)) /\ s.TypeIs x T /\ wpAny (model c.prog c.w) P.A (getItem x (.ref sl)) Qc Ec s
theorem j0i {o : Expr} {l u : Option Expr} {p pos : Pos} (h : EvE c P ρ st o (fun v st₁ => q8j c P ρ st₁ l (fun lo st₂ => q8j c P ρ st₂ u (fun hi st₃ => SlW c P ρ st₃ v lo hi Q X) X) X) X) : EvE c P ρ st (.Subscript o (.Slice l u none p) pos) Q X :=
 fun W0 W0 W0 W0 W0 W0 W0 W0 W0 W0 a W0 K => by
   show wpAny _ _ (eval (.Subscript o (.Slice l u none p) pos) P.env) _ _ _
   rw [eval_Subscript]
   refine wpAny_bind (h.use a K fun W0 W0 W0 W0 x W0 W0 W0 a1 r1 q1 K1 => wpAny_bind (wpAny_holding (wpAny_Slice ?_)))
   refine q1.use (i := ()) a1 trivial K1 fun W0 W0 W0 W0 vl lo W0 l2 a2 pl q2 K2 => q2.use (i := ()) a2 trivial K2 fun W0 W0 W0 s3 vu hi W0 l3 a3 pu q3 K3 => ?_
   refine rwm (evalPart_none _) ?_
   refine wpAny_pure (wpAny_bind (wpAny_standAt ?_))
   have a4 := a3.keeps (h' := s3.heap.push { cls := .type "slice", data := .fields #[vl, vu, .none] }) fun b o e => Heap.get?_push_of_some _ e
   refine e23 (q3 _ _ _ _ _ _ { s3 with heap := s3.heap.push { cls := .type "slice", data := .fields #[vl, vu, .none] } } x s3.heap.objs.size vl vu _ _ a4 ((r1.mono l2).mono l3) (K3.step (tk₁ := s3.toks) .rfl .rfl) (Heap.IsSliceOf.new _ _ _ _) pl pu :) fun T id hl hT hg => ?_
   refine wpAny_bind ?_
   refine rwm (getitemInPython_of_ne hT.not_modules) ?_
   refine wpAny_bind (wpAny_specialOf hT hl ?_)
   refine wpAny_pure ?_
   exact wpAny_bind (wpAny_operating (wpAny_mono hg (fun r s₃ h₃ => wpAny_bind (wpAny_letTemporaryGo (wpAny_pure h₃))) fun W0 W0 x => x))
theorem z8p {b : List UInt8} {lo hi : Option Int} (hz : b.length <= 16777216) (q : Q (.bytes (q0t b lo hi)) st) : SlW c P ρ st (.bytes b) lo hi Q X :=
 fun g pv m ns news h0' s x sl vl vu Qc Ec a rx K hs pl pu => by
   refine e11 rx.bytesI fun t r => rwm r ?_
   have e : KBy.picked b.toArray lo hi = (q0t b lo hi).toArray := by rw [KBc.picked_eq]; unfold q0t; simp
   refine ⟨"bytes", _, FB.slot_bytes_getitem.lookup, typeIs_bytes _ _ _, getItem_meets (typeIs_bytes _ _ _) (by decide) FB.slot_bytes_getitem FB.entry_bytes_getitem (FB.args_bytes_getitem_2 _ _) (KBc.meets_slice2 b.toArray _ _ pl pu)
     ⟨hs, Nat.le_trans (KBc.size_picked_le _ lo hi) (by refine rwm sizeLine_eq ?_; simpa using hz), fun t' k => ?_⟩⟩
   refine rwm e ?_
   exact K.now (tk := k) a (.bytes _ t') q
theorem j2a {v : V} {vs : List V} {lo hi : Option Int} (i : v = .lst vs \/ ∃ n, v = .ref n /\ st.get n = some (.list vs)) (hz : vs.length <= sizeLine) (q : Q (.lst (q0t vs lo hi)) st) : SlW c P ρ st v lo hi Q X :=
 fun g pv m ns news h0' s x sl vl vu Qc Ec a rx K hs pl pu => by
   have key : ∃ b its, x = .ref b /\ s.heap.IsList b its.toArray /\ VRs c g vs its := by
     rcases i with rfl | ⟨n, rfl, e⟩
     . (refine e33 rx.lstI fun b its k r => ?_; refine rwm r ?_; intro hh hr)
       exact ⟨b, its, rfl, ⟨_, a.get hh, rfl, k, rfl⟩, hr⟩
     . (refine e22 rx.refI fun b d r => ?_; refine rwm r ?_; intro hp)
       refine e22 (a.hk.own n _ e :) fun b1 d1 h1 r1 => ?_
       rw [hp] at h1
       cases h1
       obtain ⟨rfl, its, k, hm, hr⟩ := r1.listI
       exact ⟨b, its, rfl, ⟨_, (a.nw _ hm).1, rfl, k, rfl⟩, hr⟩
   (refine e23 key fun b its r => ?_; refine rwm r ?_; intro hb hr)
   refine ⟨"list", _, list_getitem_lookup, hb.typeIs, wpAny_getItem_list_slice hb hs pl pu .none (by simp) ?_ (by (refine rwm List.size_toArray ?_; refine rwm hr.length ?_); exact hz)⟩
   rw [z1c]
   refine e23 (a.newFList (hr.pick lo hi) :) fun g' news' l a' r' => ?_
   exact K.here (tk := s.toks) l a' r' q
end
section
variable {c : Cx} {P : Pt} {ρ : Loc} {st : St} {X : Exc} {g : Gh} {pv news : List (Addr × Obj)} {m ns : Str -> Option Value} {h0 h : Heap}
theorem VRs.set {c : Cx} {g : Gh} {w : V} {z : Value} (rz : VR c g w z) {vs : List V} {its : List Value} (j : Nat) (h : VRs c g vs its) : VRs c g (vs.set j w) (its.set j z) :=
 VRs.ind (C := fun vs its => ∀ j, VRs c g (vs.set j w) (its.set j z)) (fun W0 => .nil) (fun W0 W0 W0 W0 h r ih j => by
   induction j using Nat.casesOn with
   | zero => exact .cons rz r
   | succ j => exact .cons h (ih j)) h j
theorem At.listN (a : At c P g ρ st pv m ns news h0 h) {n : Nat} {vs : List V} {y : Value} (e : st.get n = some (.list vs)) (r : VR c g (.ref n) y) : ∃ b its k, y = .ref b /\ (b, PySem.W.listOf its.toArray k) ∈ news /\ VRs c g vs its /\ g.pl n = some (b, b) /\ News h0 P.L h ((b, PySem.W.listOf its.toArray k) :: q7i b news) := by
 (refine e22 r.refI fun b d r => ?_; refine rwm r ?_; intro hp)
 refine e22 (a.hk.own n _ e :) fun b1 d1 h1 r1 => ?_
 rw [hp] at h1
 cases h1
 obtain ⟨rfl, its, k, hm, hr⟩ := r1.listI
 refine ⟨b, its, k, rfl, hm, hr, hp, fun p hp => ?_⟩
 rcases mc hp with rfl | hp
 . exact a.nw _ hm
 . exact a.nw _ (q0k.mp hp).1
theorem At.listSet (a : At c P g ρ st pv m ns news h0 h) {n : Nat} {vs vs' : List V} {b : Addr} {its : List Value} {k : Nat} {h' : Heap} (e : st.get n = some (.list vs)) (hp : g.pl n = some (b, b)) (r : VRs c g vs' its) (F : Fr h0 P.L h' m) (N : News h0 P.L h' ((b, PySem.W.listOf its.toArray k) :: q7i b news)) :
   At c P g ρ (st.set n (.list vs')) pv m ns ((b, PySem.W.listOf its.toArray k) :: q7i b news) h0 h' :=
 a.renew .rfl F N (a.hk.change e hp (.inl rfl) (.list (.head _) r))
end
section
variable {c : Cx} {P : Pt} {ρ : Loc} {st : St} {X : Exc} {Q : V -> St -> Prop}
theorem z0b {n : Nat} {vs : List V} {w : V} (e : st.get n = some (.list vs)) (hz : vs.length <= sizeLine) (q : Q .none (st.set n (.list (vs ++ [w])))) : q0i c P ρ st (.prim (.builtin "list.append")) [.ref n, w] Q X := fun g W0 W0 W0 W0 W0 s p W0 W0 a hp K => by
 (refine e23 hp.two fun x y r => ?_; refine rwm r ?_; intro h1 h2)
 (refine e35 (a.listN e h1 :) fun b its k r => ?_; refine rwm r ?_; intro hm hr hp N)
 refine append_K a.fr N (.head q34) (fun h' F' N' => ?_) (by (refine rwm List.size_toArray ?_; refine rwm hr.length ?_); exact hz)
 rw [List.push_toArray] at N'
 exact K.here (tk := s.toks) .rfl (a.listSet e hp (hr.append (.cons h2 .nil)) F' N') .none q
theorem z5g {n : Nat} {v : V} {vs : List V} (e : st.get n = some (.list (v :: vs))) (hz : (v :: vs).length <= sizeLine) (q : Q v (st.set n (.list vs))) : q0i c P ρ st (.prim (.builtin "list.pop")) [.ref n, .int 0] Q X := fun g W0 W0 W0 W0 W0 s p W0 W0 a hp K => by
 (refine e23 hp.two fun x y r => ?_; refine rwm r ?_; intro h1 h2)
 refine e11 h2.intI fun t r => rwm r ?_
 (refine e35 (a.listN e h1 :) fun b its k r => ?_; refine rwm r ?_; intro hm hr hp N)
 (refine e23 hr.consI fun x xs r => ?_; subst r; intro hv hr)
 refine kl_popAt (its := (x :: xs).toArray) (k := 0) (p := []) (q := xs) (y := x) a.fr N rfl ?_ rfl (.head q34) ?_ fun h' F' N' => ?_
 . unfold seqIndex?
   simp
 . show (x :: xs).length <= sizeLine
   (refine rwm List.length_cons ?_; refine rwm hr.length ?_; refine rwb (List.length_cons (a := v)) ?_)
   exact hz
 . exact K.here (tk := s.toks) .rfl (a.listSet e hp hr F' N') hv q
theorem q6f {b : List UInt8} (hz : b.length <= 1099511627776) (q : Q (.int b.length) st) : q0i c P ρ st (.prim (.builtin "len")) [.bytes b] Q X := fun g W0 W0 W0 W0 W0 s p W0 W0 a hp K => by
 (refine e12 hp.one fun x r => ?_; refine rwm r ?_; intro h1)
 refine e11 h1.bytesI fun t r => rwm r ?_
 exact len_bytes (by simpa using hz) (by simpa using K.now (tk := s.toks + 1 + 1) a (.int (b.length : Nat) _) q)
theorem call_len_list {v : V} {vs : List V} (i : v = .lst vs \/ ∃ n, v = .ref n /\ st.get n = some (.list vs)) (hz : vs.length <= sizeLine) (q : Q (.int vs.length) st) : q0i c P ρ st (.prim (.builtin "len")) [v] Q X := fun g W0 W0 W0 W0 W0 s p W0 W0 a hp K => by
 (refine e12 hp.one fun x0 r => ?_; refine rwm r ?_; intro h1)
 have hz' : (vs.length : Int) < 2 ^ 63 := Int.lt_of_le_of_lt (Int.ofNat_le.mpr (sizeLine_eq ▸ hz)) (by decide)
 have key : ∃ b its, x0 = Value.ref b /\ s.heap.IsList b its.toArray /\ VRs c g vs its := by
   rcases i with rfl | ⟨n, rfl, e⟩
   . (refine e33 h1.lstI fun b its k r => ?_; refine rwm r ?_; intro hh hr)
     exact ⟨b, its, rfl, ⟨_, a.get hh, rfl, k, rfl⟩, hr⟩
   . (refine e35 (a.listN e h1 :) fun b its k r => ?_; refine rwm r ?_; intro hm hr hp N)
     exact ⟨b, its, rfl, ⟨_, (a.nw _ hm).1, rfl, k, rfl⟩, hr⟩
 (refine e23 key fun b its r => ?_; refine rwm r ?_; intro hb hr)
 refine Calls.call_len_list hb (by (refine rwm List.size_toArray ?_; refine rwm hr.length ?_); exact hz') ?_
 (refine rwm List.size_toArray ?_; refine rwm hr.length ?_)
 exact K.now (tk := s.toks + 1 + 1) a (.int _ _) q
theorem z00 {v : V} {vs : List V} {n : Nat} (i : v = .ref n) (e : st.get n = some (.list vs)) : q95 c P ρ st "append" v (.builtin "list.append") [v] st :=
 fun g pv m ns news h0 s y pl Qc Ec a r k => by
   subst i
   (refine e35 (a.listN e r :) fun b its kk r => ?_; subst r; intro hm hr hp N)
   exact getMethod_builtin ⟨_, (a.nw _ hm).1, rfl⟩ PySem.F.plainAttrs_list PySem.F.slot_list_append PySem.F.type_list_append (fun a' e => by cases e; exact ⟨_, (a.nw _ hm).1, rfl⟩) (k g news s.heap s.toks [.ref b] .rfl a (.cons r .nil))
theorem j1g {v : V} {vs : List V} {n : Nat} (i : v = .ref n) (e : st.get n = some (.list vs)) : q95 c P ρ st "pop" v (.builtin "list.pop") [v] st :=
 fun g pv m ns news h0 s y pl Qc Ec a r k => by
   subst i
   (refine e35 (a.listN e r :) fun b its kk r => ?_; subst r; intro hm hr hp N)
   exact getMethod_builtin ⟨_, (a.nw _ hm).1, rfl⟩ PySem.F.plainAttrs_list PySem.F.slot_list_pop PySem.F.type_list_pop (fun a' e => by cases e; exact ⟨_, (a.nw _ hm).1, rfl⟩) (k g news s.heap s.toks [.ref b] .rfl a (.cons r .nil))
theorem At.setitem {g : Gh} {pv news : List (Addr × Obj)} {m ns : Str -> Option Value} {h0 : Heap} {s : Shared} {Qm : Unit -> Shared -> Prop} {E : Value -> Shared -> Prop} (a : At c P g ρ st pv m ns news h0 s.heap) {n : Nat} {vs : List V} {k : Int} {w : V} {y i z : Value} (e : st.get n = some (.list vs))
   (h0k : 0 <= k) (h1 : k < vs.length) (hz : vs.length <= sizeLine) (r : VR c g (.ref n) y) (ri : VR c g (.int k) i) (rz : VR c g w z)
   (kk : ∀ news' h', At c P g ρ (st.set n (.list (vs.set k.toNat w))) pv m ns news' h0 h' -> Qm () { s with heap := h' }) : wpAny (model c.prog c.w) P.A (setItem y i z) Qm E s := by
 obtain ⟨ti, rfl⟩ := ri.intI
 (refine e35 (a.listN e r :) fun b its q r => ?_; refine rwm r ?_; intro hm hr hp N)
 have hb := a.nw _ hm
 have hl := hr.length
 have hset : VRs c g (vs.set k.toNat w) (its.set k.toNat z) := VRs.set rz k.toNat hr
 refine ki_setAt (n := q) hb.1 h0k (by rw [sizeLine_eq] at hz; omega) (by (refine rwm List.size_toArray ?_; refine rwm hl ?_); exact h1) (kk _ _ (a.listSet e hp hset (k := q) (F := a.fr.change (Heap.SameBut.update ..) hb.2.1 hb.2.2) (N := ki_turn (pre := []) (its' := (its.set k.toNat z).toArray) _ N (fun p hp => nomatch hp) q34 ?_ ?_)))
 . show its.toArray.setIfInBounds k.toNat z = _
   simp
 . simp
end
noncomputable def z4f (c : Cx) (P : Pt) (ρ : Loc) (st : St) (tgt : Expr) (v : V) (Q : Loc -> St -> Prop) : Prop := ∀ g pv m news h0 (s : Shared) x (Qm : Unit -> Shared -> Prop) (Em : Value -> Shared -> Prop), At c P g ρ st pv m m news h0 s.heap -> VR c g v x ->
 (∀ g' m' news' h0' h' tk ρ' st', g.le g' -> Mv P h0 h0' -> At c P g' ρ' st' pv m' m' news' h0' h' -> Q ρ' st' -> Qm () { s with heap := h', toks := tk }) -> wpAny (model c.prog c.w) P.A (assign tgt P.env x) Qm Em s
section
variable {c : Cx} {P : Pt} {ρ : Loc} {st : St} {v : V} {Q : Loc -> St -> Prop}
theorem z1m {x : Str} {p : Pos} (hl : P.env.locals = P.L) (hk : P.env.kindOf x = some .local) (q : Q (ρ.put x v) st) : z4f c P ρ st (.Name x p) v Q :=
 fun g pv m news h0 s y Qm Em a r k => wpAny_assign_Name (a.store hl hk r fun m' h' a' => k g m' news h0 h' _ _ st .rfl .rfl a' q)
theorem z9j {x : Str} {p : Pos} {n : Nat} {v0 : Option V} (hk : P.env.kindOf x = some .cell) (hc : P.cn.lookup x = some n) (hs : st.get n = some (.cell v0)) (q : Q ρ (st.set n (.cell (some v)))) : z4f c P ρ st (.Name x p) v Q :=
 fun g pv m news h0 s y Qm Em a r k => wpAny_assign_Name (a.storeC hk hc hs r fun news' h' a' => k g m news' h0 h' s.toks _ _ .rfl .rfl a' q)
end
noncomputable def j23 (c : Cx) (P : Pt) (tgt : Expr) (body : List Stmt) (Q : Fl -> Loc -> St -> Prop) : List V -> Loc -> St -> Prop
 | [], ρ, st => Q .next ρ st
 | v :: vs, ρ, st => z4f c P ρ st tgt v fun ρ₁ st₁ => ExS c P ρ₁ st₁ body (fun fl ρ₂ st₂ => match fl with
   | .next | .cont => j23 c P tgt body Q vs ρ₂ st₂
   | .brk => Q .next ρ₂ st₂
   | .ret v => Q (.ret v) ρ₂ st₂) noX
section
variable {c : Cx} {P : Pt} {ρ : Loc} {st : St} {X : Exc} {g : Gh} {pv news : List (Addr × Obj)} {m ns : Str -> Option Value} {h0 h : Heap}
theorem At.pvPush (a : At c P g ρ st pv m ns news h0 h) {I : Addr} {o : Obj} {h' : Heap} (F : Fr h0 P.L h' m) (N : News h0 P.L h' ((I, o) :: news)) (hf : ∀ p ∈ news, p.1 ≠ I) : At c P g ρ st ((I, o) :: pv) m ns ((I, o) :: news) h0 h' :=
 ⟨a.ok, a.below, a.dicts, F, N, a.hk.pvPush hf, a.loc, a.cel, a.nsk.imp id fun ⟨oC, hm, hn⟩ => ⟨oC, .tail _ hm, hn⟩⟩
theorem At.pvPop {p0 : Addr × Obj} (a : At c P g ρ st (p0 :: pv) m ns news h0 h) (hl : P.env.locals = P.L) : At c P g ρ st pv m ns news h0 h :=
 ⟨a.ok, a.below, a.dicts, a.fr, a.nw, a.hk.pvPop, a.loc, a.cel, .inl ⟨hl, a.nsEq hl⟩⟩
theorem Fr.butI {h' : Heap} {L I : Addr} (F : Fr h0 L h m) (hI : I ≠ L) (hn : h0.get? I = none) (hk : ∀ b ob, b ≠ I -> h.get? b = some ob -> h'.get? b = some ob) : Fr h0 L h' m := by
 refine e34 F.ns fun oL es ep hL hLd hLk hLf => ?_
 refine ⟨⟨oL, es, ep, hk _ _ (Ne.symm hI) hL, hLd, hLk, hLf⟩, fun b ob e => hk b ob (fun q => ?_) (F.keep b ob e), F.above⟩
 rw [q, hn] at e; exact zns e
theorem At.pvDrop {h' : Heap} {I : Addr} {o : Obj} (a : At c P g ρ st ((I, o) :: pv) m ns news h0 h) (hne : P.env.locals ≠ I) (hk : ∀ b ob, b ≠ I -> h.get? b = some ob -> h'.get? b = some ob) (hd : ∀ p ∈ pv, p.1 ≠ I) : At c P g ρ st pv m ns (q7i I news) h0 h' := by
 have hI := a.nw _ (a.hk.pvi _ (.head _))
 have H := a.hk
 refine ⟨a.ok, a.below, a.dicts, Fr.butI a.fr hI.2.1 hI.2.2 hk, fun p hp => ?_, ⟨fun p h => q0k.mpr ⟨H.kni p h, fun z => H.pk _ (.head _) p h z.symm⟩, fun p h => q0k.mpr ⟨H.pvi p (.tail _ h), hd p h⟩, fun n x e => ?_, fun n x b d e k => ⟨(H.off n x b d e k).1, fun p hp => (H.off n x b d e k).2 p (.tail _ hp)⟩, H.apart, H.fin, fun p hp => H.pk p (.tail _ hp)⟩, a.loc, a.cel, a.nsk.imp id fun ⟨oC, hm, hn⟩ => ⟨oC, ?_, hn⟩⟩
 . obtain ⟨h4, h5⟩ := q0k.mp hp
   exact ⟨hk _ _ h5 (a.nw p h4).1, (a.nw p h4).2⟩
 . refine e22 (H.own n x e :) fun b d h r => ?_
   have off := (H.off n x b d e h).2 _ (.head _)
   exact ⟨b, d, h, r.mono .rfl fun p hm hq => q0k.mpr ⟨hm, by rcases hq with hq | hq <;> refine rwm hq ?_ <;> first | exact off.1.symm | exact off.2.symm⟩⟩
 . rcases mc hm with hm | hm
   . exact absurd (congrArg Prod.fst hm) hne
   . exact hm
theorem At.pvSet {I : Addr} {o o' : Obj} {h' : Heap} (a : At c P g ρ st ((I, o) :: pv) m ns news h0 h) (hl : P.env.locals = P.L) (hk : ∀ b ob, b ≠ I -> h.get? b = some ob -> h'.get? b = some ob) (ho : h'.get? I = some o') (hd : ∀ p ∈ pv, p.1 ≠ I) :
   At c P g ρ st ((I, o') :: pv) m ns ((I, o') :: q7i I news) h0 h' := by
 have hI := a.nw _ (a.hk.pvi _ (.head _))
 refine ⟨a.ok, a.below, a.dicts, Fr.butI a.fr hI.2.1 hI.2.2 hk, fun p hp => ?_, a.hk.pvSet hd, a.loc, a.cel, .inl ⟨hl, a.nsEq hl⟩⟩
 rcases mc hp with hp | hp
 . exact hp ▸ ⟨ho, hI.2⟩
 . obtain ⟨h4, h5⟩ := q0k.mp hp
   exact ⟨hk _ _ h5 (a.nw p h4).1, (a.nw p h4).2⟩
end
structure ItIs (c : Cx) (P : Pt) (g : Gh) (I : Addr) (vs : List V) (n : Nat) (fp : List Addr) (Pv : Nat -> Value -> Prop) (S : Nat -> Heap -> Prop) : Prop where
 W : Walks c.prog c.w P.A I fp [I] n Pv S
 len : n = vs.length
 val : ∀ i v x, vs[i]? = some v -> Pv i x -> VR c g v x
 foot : ∀ b ∈ fp, b = I \/ ∃ o, Has c g b o
 live : ∀ i h, S i h -> ∃ o, h.get? I = some o
 go : ∀ i (s' : Shared) tgt v (Q' : Unit -> Shared -> Prop) (E : Value -> Shared -> Prop), S i s'.heap -> Q' () s' -> wpAny (model c.prog c.w) P.A (letOwnedTupleGo tgt (.ref I) v) Q' E s'
noncomputable def q4l (c : Cx) (P : Pt) (v : V) (vs : List V) : Prop := ∀ g ρ st pv m ns news h0 (s : Shared) x (Qm : Value -> Shared -> Prop) (Em : Value -> Shared -> Prop), At c P g ρ st pv m ns news h0 s.heap -> VR c g v x ->
 (∀ I n fp Pv S o h' tk, ItIs c P g I vs n fp Pv S -> S 0 h' -> Fr h0 P.L h' m -> News h0 P.L h' ((I, o) :: news) -> (∀ p ∈ news, p.1 ≠ I) -> Qm (.ref I) { s with heap := h', toks := tk }) -> wpAny (model c.prog c.w) P.A (pyIter x) Qm Em s
section
variable {c : Cx} {P : Pt} {ρ : Loc} {st : St} {X : Exc} {Q : Fl -> Loc -> St -> Prop}
theorem z60 {P1 P2 : Pt} {ρ1 ρ2 : Loc} {st1 st2 : St} {g₀ g1 g2 : Gh} {pv1 pv2 news1 news2 : List (Addr × Obj)} {m1 m2 ns1 ns2 : Str -> Option Value} {h01 h02 hA hB : Heap} {I b : Addr} {oI ob : Obj} (a1 : At c P1 g1 ρ1 st1 pv1 m1 ns1 news1 h01 hA) (a2 : At c P2 g2 ρ2 st2 pv2 m2 ns2 news2 h02 hB) (i1 : (I, oI) ∈ pv1) (i2 : (I, oI) ∈ pv2) (l1 : g₀.le g1) (l2 : g₀.le g2)
   (hf : b = I \/ ∃ o, Has c g₀ b o) (e : hA.get? b = some ob) : hB.get? b = some ob := by
 rcases hf with h | ⟨ob', hh⟩
 . rw [h] at e ⊢
   exact ((a2.nw _ (a2.hk.pvi _ i2)).1.trans (a1.nw _ (a1.hk.pvi _ i1)).1.symm).trans e
 . exact ((a2.get (hh.mono l2)).trans (a1.get (hh.mono l1)).symm).trans e
inductive ForInv (c : Cx) (P : Pt) (tgt : Expr) (body : List Stmt) (Q : Fl -> Loc -> St -> Prop) (X : Exc) (pv : List (Addr × Obj)) (Qc : Flow -> Shared -> Prop) (Ec : Value -> Shared -> Prop) (I : Addr) (vs : List V) (g₀ : Gh) (S : Nat -> Heap -> Prop) (k : Nat) (s : Shared) : Prop
 | mk (i : Nat) (g : Gh) (ρ : Loc) (st : St) (m : Str -> Option Value) (news : List (Addr × Obj)) (h0 : Heap) (o : Obj) (hi : i + k = vs.length) (lg : g₀.le g) (a : At c P g ρ st ((I, o) :: pv) m m news h0 s.heap) (S0 : S i s.heap) (K : KS c P pv Q X Qc Ec g h0 s) (hq : j23 c P tgt body Q (vs.drop i) ρ st)
section
variable {tgt : Expr} {body : List Stmt} {R : Result -> Shared -> Prop} {Qc : Flow -> Shared -> Prop} {Ec : Value -> Shared -> Prop} {g₀ : Gh} {pv : List (Addr × Obj)} {I : Addr} {vs : List V} {n : Nat} {fp : List Addr} {Pv : Nat -> Value -> Prop} {S : Nat -> Heap -> Prop}
theorem j52 (hl : P.env.locals = P.L) (It : ItIs c P g₀ I vs n fp Pv S) (hd : ∀ p ∈ pv, p.1 ≠ I) {s : Shared} (hI : ForInv c P tgt body Q X pv Qc Ec I vs g₀ S 0 s) {F : Option Value -> Shared -> Prop} (hF : ∀ s', Qc .next s' -> F none s') {E : Value -> Shared -> Prop} : wpAny (model c.prog c.w) P.A (pyNext (.ref I)) F E s := by
 obtain ⟨i, g, ρ, st, m, news, h0, o, hi, lg, a, S0, K, hq⟩ := hI
 rw [show i = vs.length from hi] at hq S0
 rw [List.drop_length] at hq
 rw [<- It.len] at S0
 refine It.W.done s _ _ S0 fun h' tk hk => hF _ ?_
 have hI := a.nw _ (a.hk.pvi _ (.head _))
 have a1 := a.pvDrop (by refine rwm hl ?_; exact Ne.symm hI.2.1) (fun b ob hb e => hk b ob (fun x => hb (List.mem_singleton.mp x)) e) hd
 exact K.here (tk := tk) a1 .next hq
theorem j6j (hl : P.env.locals = P.L) (It : ItIs c P g₀ I vs n fp Pv S)
   (hd : ∀ p ∈ pv, p.1 ≠ I) (hR : ∀ f s, Qc f s -> R (.ok f) s) {g : Gh} {m : Str -> Option Value} {news : List (Addr × Obj)} {h0 : Heap} {s : Shared} {o : Obj} (lg : g₀.le g) (a : At c P g ρ st ((I, o) :: pv) m m news h0 s.heap) (S0 : S 0 s.heap) (K : KS c P pv Q X Qc Ec g h0 s) (hq : j23 c P tgt body Q vs ρ st) :
   codeAny (model c.prog c.w) P.A (.forLoop tgt (.ref I) body [] P.env) R s := by
 refine codeAny_forLoop_any (ForInv c P tgt body Q X pv Qc Ec I vs g₀ S) (fun k s hT => ?_) vs.length ⟨0, g, ρ, st, m, news, h0, o, Nat.zero_add _, lg, a, S0, K, hq⟩
 clear a S0 K hq lg
 induction k using Nat.casesOn with
 | zero => exact j52 hl It hd hT fun s' h => wpAny_execs_nil (hR _ _ h)
 | succ k =>
   obtain ⟨i, g, ρ, st, m, news, h0, o, hi, lg, a, S0, K, hq⟩ := hT
   have hlt : i < vs.length := hi ▸ Nat.lt_add_of_pos_right (Nat.succ_pos k)
   rw [List.drop_eq_getElem_cons hlt] at hq
   refine It.W.item i s _ _ (by refine rwm It.len ?_; exact hlt) S0 fun x h' tk hx S1 hk => ?_
   obtain ⟨o', ho'⟩ := It.live _ _ S1
   have a1 := a.pvSet hl (fun b ob hb e => hk b ob (fun x => hb (List.mem_singleton.mp x)) e) ho' hd
   refine It.go (i + 1) _ _ _ _ _ S1 ?_
   refine hq g _ m _ h0 { s with heap := h', toks := tk } x _ _ a1 ((It.val i _ x (List.getElem?_eq_getElem hlt) hx).mono lg) fun g2 m2 news2 h02 h2 tk2 ρ2 st2 l2 v2 a2 q2 => ?_
   have S2 : S (i + 1) h2 := It.W.frame _ _ _ S1 fun b hb ob e => z60 a1 a2 (.head _) (.head _) lg (lg.trans l2) (It.foot b hb) e
   refine q2 g2 _ m2 news2 h02 { s with heap := h2, toks := tk2 } _ _ a2 ⟨fun g3 m3 news3 h03 h3 tk3 x3 b3 ρ3 st3 l3 v3 a3 r3 q3 => ?_, fun W0 W0 W0 W0 W0 W0 W0 W0 W0 W0 W0 x => x.elim⟩
   have l23 := (lg.trans l2).trans l3
   have S3 : S (i + 1) h3 := It.W.frame _ _ _ S2 fun b hb ob e => z60 a2 a3 (.head _) (.head _) (lg.trans l2) l23 (It.foot b hb) e
   have K3 : KS c P pv Q X Qc Ec g3 h03 { s with heap := h3, toks := tk3 } := K.step (l2.trans l3) (v2.trans v3)
   have go : j23 c P tgt body Q (vs.drop (i + 1)) ρ3 st3 -> ∃ m, m < k + 1 /\ ForInv c P tgt body Q X pv Qc Ec I vs g₀ S m { s with heap := h3, toks := tk3 } := fun q3 =>
     ⟨k, Nat.lt_succ_self _, ⟨i + 1, g3, ρ3, st3, m3, news3, h03, _, (Nat.succ_add i k).trans hi, l23, a3, S3, K3, q3⟩⟩
   cases r3 with
   | next => exact go q3
   | cont => exact go q3
   | brk => exact hR _ _ (K3.here (tk := tk3) (a3.pvPop hl) .next q3)
   | ret hr => exact hR _ _ (K3.here (tk := tk3) (a3.pvPop hl) (.ret hr) q3)
end
theorem j3f {tgt e : Expr} {body : List Stmt} {pos : Pos} (hl : P.env.locals = P.L) (hs : ∀ x, foldedSetIterable e P.env x = pure x) (h : EvE c P ρ st e (fun v st₁ => ∃ vs, q4l c P v vs /\ j23 c P tgt body Q vs ρ st₁) X) : Ex1 c P ρ st (.For tgt e body [] pos) Q X :=
 fun g pv m news h0 s Qc Ec a K => wpAny_For (h.useS a K fun g1 news1 h01 s1 x W0 W0 l1 a1 r1 q1 K1 => by
   refine e12 q1 fun vs hi hq => ?_
   refine hi _ _ _ _ _ _ _ _ s1 x _ _ a1 r1 fun I n fp Pv S o h' tk It S0 F N hf => ?_
   exact j6j hl It (fun p hp => hf p (a1.hk.pvi p hp)) (fun f s h => h) .rfl (a1.pvPush F N hf) S0 (K1.step .rfl .rfl) hq) hs
theorem q89 {vs : List V} (hn : P.nh = true) : q4l c P (.lst vs) vs := fun g ρ st pv m ns news h0 s x Qm Em a r k => by
 (refine e33 r.lstI fun b its kk r => ?_; refine rwm r ?_; intro hh hr)
 have hb : s.heap.IsList b its.toArray := ⟨_, a.get hh, rfl, kk, rfl⟩
 have hlt : b ≠ s.heap.objs.size := Nat.ne_of_lt (Heap.lt_size (a.get hh))
 refine wpAny_pyIter_list hb (k s.heap.objs.size its.toArray.size [s.heap.objs.size, b] _ _ { cls := .type "list_iterator", data := .fields #[.ref b, .int 0 0] } _ s.toks ⟨Walks.list (a.ok.hand hn) _ b hlt its.toArray, by (refine rwm List.size_toArray ?_; refine rwm hr.length ?_; rfl), fun i v x hv hx => ?_, fun q hq => ?_, fun i h hS => ?_, fun i s' tgt v Q' E hS h => letGo_listiter hS.1 h⟩
   ⟨⟨_, Heap.get?_push_size _ rfl, rfl, rfl⟩, hb.push _⟩ (a.fr.push _) (a.nw.push a.fr _) fun p hp => Nat.ne_of_lt (a.ltSize p hp))
 . refine e12 (hr.get hv :) fun z hz rz => ?_
   simp only [List.getElem?_toArray] at hx
   rw [hz] at hx
   cases hx
   exact rz
 . rcases mc hq with rfl | hq
   . exact .inl rfl
   . rcases mc hq with rfl | hq
     . exact .inr ⟨_, hh⟩
     . cases hq
 . obtain ⟨⟨o, ho, _⟩, _⟩ := hS
   exact ⟨o, ho⟩
theorem j06 {vs : List V} (hn : P.nh = true) : q4l c P (.tup vs) vs := fun g ρ st pv m ns news h0 s x Qm Em a r k => by
 (refine e33 r.tupI fun b its kk r => ?_; refine rwm r ?_; intro hh hr)
 have hb : s.heap.IsTuple b its.toArray := ⟨_, a.get hh, rfl, kk, rfl⟩
 have hlt : b ≠ s.heap.objs.size := Nat.ne_of_lt (Heap.lt_size (a.get hh))
 refine wpAny_pyIter_tuple hb (k s.heap.objs.size its.toArray.size [s.heap.objs.size, b] _ _ { cls := .type "tuple_iterator", data := .fields #[.ref b, .int 0 0] } _ s.toks ⟨Walks.tuple (a.ok.hand hn) _ b hlt its.toArray, by (refine rwm List.size_toArray ?_; refine rwm hr.length ?_; rfl), fun i v x hv hx => ?_, fun q hq => ?_, fun i h hS => ?_, fun i s' tgt v Q' E hS h => letGo_tupleiter hS.1 h⟩
   ⟨⟨_, Heap.get?_push_size _ rfl, rfl, rfl⟩, hb.at fun o e => Heap.get?_push_of_some _ e⟩ (a.fr.push _) (a.nw.push a.fr _) fun p hp => Nat.ne_of_lt (a.ltSize p hp))
 . refine e12 (hr.get hv :) fun z hz rz => ?_
   simp only [List.getElem?_toArray] at hx
   rw [hz] at hx
   cases hx
   exact rz
 . rcases mc hq with rfl | hq
   . exact .inl rfl
   . rcases mc hq with rfl | hq
     . exact .inr ⟨_, hh⟩
     . cases hq
 . obtain ⟨⟨o, ho, _⟩, _⟩ := hS
   exact ⟨o, ho⟩
noncomputable def q64 (a c : Int) (n : Nat) : List V := (List.range n).map fun i => .int (a + (i : Nat) * c)
theorem q5u {prog : Program} {w : World} {A : Around} {E : Value -> Shared -> Prop} {target : Expr} {I : Addr} {x l d : Int} {v : Value} {Q' : Unit -> Shared -> Prop} {s' : Shared} (hit : IsRangeIter s'.heap I x l d) (h : Q' () s') : wpAny (model prog w) A (letOwnedTupleGo target (.ref I) v) Q' E s' := by
 unfold letOwnedTupleGo
 induction target using Expr.casesOn <;> first
   | exact wpAny_pure h
   | (cases v <;> first
       | exact wpAny_pure h
       | (refine wpAny_bind (wpAny_load hit ?_)
          exact wpAny_pure h))
theorem z3m {a b d : Int} {n : Nat} (hn : P.nh = true) (hs : Builtin.Range.small a b d = true) (hl : Builtin.Range.rangeSize a b d = (n : Int)) : q4l c P (.rng a b d) (q64 a d n) := fun g ρ st pv m ns news h0 s x Qm Em at_ r k => by
 (refine e42 r.rngI fun rr t u v r => ?_; refine rwm r ?_; intro hh)
 refine wpAny_pyIter_range (at_.get hh) hs (k s.heap.objs.size n [s.heap.objs.size] _ _ { cls := .type "range_iterator", data := .fields #[rawInt a, rawInt (Builtin.Range.rangeSize a b d), rawInt d] } _ s.toks ⟨Walks.range (at_.ok.hand hn) _ a d n, by simp [q64], fun i v x hv hx => ?_, fun q hq => ?_, fun i h hS => ⟨_, hS⟩, fun i s' tgt v Q' E hS h => q5u hS h⟩
   ?_ (at_.fr.push _) (at_.nw.push at_.fr _) fun p hp => Nat.ne_of_lt (at_.ltSize p hp))
 . refine e11 hx fun tk r => rwm r ?_
   unfold q64 at hv
   rw [List.getElem?_map] at hv
   have : i < n := by
     by_cases q : i < n
     . exact q
     . rw [List.getElem?_eq_none (by simpa using q)] at hv; exact zns hv
   rw [List.getElem?_range this] at hv
   cases hv
   exact .int _ _
 . rcases mc hq with rfl | hq
   . exact .inl rfl
   . cases hq
 . have e1 : (a + ((0 : Nat) : Int) * d) = a := by simp
   have e2 : ((n : Int) - ((0 : Nat) : Int)) = Builtin.Range.rangeSize a b d := by refine rwm hl ?_; simp
   (refine rwm e1 ?_; refine rwm e2 ?_)
   exact Heap.get?_push_size _ rfl
end
noncomputable def WhP (c : Cx) (P : Pt) (test : Expr) (body : List Stmt) (Q : Fl -> Loc -> St -> Prop) : Nat -> Loc -> St -> Prop
 | 0, _, _ => False
 | n + 1, ρ, st => EvT c P ρ st test (fun b st₁ => if b = true then ExS c P ρ st₁ body (fun fl ρ₂ st₂ => match fl with
     | .next | .cont => WhP c P test body Q n ρ₂ st₂
     | .brk => Q .next ρ₂ st₂
     | .ret v => Q (.ret v) ρ₂ st₂) noX else Q .next ρ st₁) noX
section
variable {c : Cx} {P : Pt} {ρ : Loc} {st : St} {X : Exc} {Q : Fl -> Loc -> St -> Prop}
theorem j0t {test : Expr} {body : List Stmt} {pos : Pos} (n : Nat) (h : WhP c P test body Q n ρ st) : Ex1 c P ρ st (.While test body [] pos) Q X :=
 fun g pv m news h0 s Qc Ec a K => by
   refine wpAny_While (codeAny_whileLoop (fun k s => ∃ g ρ st m news h0, At c P g ρ st pv m m news h0 s.heap /\ KS c P pv Q X Qc Ec g h0 s /\ WhP c P test body Q k ρ st) (fun k s hI => ?_) n ⟨g, ρ, st, m, news, h0, a, K, h⟩)
   refine e63 hI fun g ρ st m news h0 a K hq => ?_
   induction k using Nat.casesOn with
   | zero => exact hq.elim
   | succ k =>
     refine hq g pv m m news h0 s () _ _ a trivial ⟨fun g1 news1 h01 h1 tk1 b b' st1 l1 v1 a1 r1 q1 => ?_, fun W0 W0 W0 W0 W0 W0 W0 W0 W0 W0 x => x.elim⟩
     cases r1
     have K1 : KS c P pv Q X Qc Ec g1 h01 { s with heap := h1, toks := tk1 } := K.step l1 v1
     induction b using Bool.casesOn with
     | false => exact wpAny_execs_nil (K1.here (tk := tk1) a1 .next q1)
     | true =>
       refine q1 g1 pv m news1 h01 { s with heap := h1, toks := tk1 } _ _ a1 ⟨fun g2 m2 news2 h02 h2 tk2 x b ρ2 st2 l2 v2 a2 r2 q2 => ?_, fun W0 W0 W0 W0 W0 W0 W0 W0 W0 W0 W0 x => x.elim⟩
       have K2 : KS c P pv Q X Qc Ec g2 h02 { s with heap := h2, toks := tk2 } := K1.step l2 v2
       cases r2 with
       | next => exact ⟨k, Nat.lt_succ_self _, g2, ρ2, st2, m2, news2, h02, a2, K2, q2⟩
       | cont => exact ⟨k, Nat.lt_succ_self _, g2, ρ2, st2, m2, news2, h02, a2, K2, q2⟩
       | brk => exact K2.here (tk := tk2) a2 .next q2
       | ret hr => exact K2.here (tk := tk2) a2 (.ret hr) q2
end
section
variable {prog : Program} {w : World} {A : Around} {E : Value -> Shared -> Prop} {s : Shared}
theorem z50 {it t : Addr} {items : Array Value} (hne : t ≠ it) : ∀ (n i : Nat) (s : Shared) (Q : List Value -> Shared -> Prop), s.heap.IsListIter it t i -> s.heap.IsList t items -> i + n <= items.size ->
   (∀ h', h'.IsListIter it t (i + n) -> Heap.SameBut it s.heap h' -> Q ((items.toList.drop i).take n) { s with heap := h' }) -> wpAny (model prog w) A (draw (.ref it) n) Q E s := by
 intro n
 induction n with
 | zero =>
   intro i s Q hit _ _ hQ
   exact wpAny_pure (by simpa using hQ s.heap hit (Heap.SameBut.refl ..))
 | succ n ih =>
   intro i s Q hit ht hle hQ
   have hlt : i < items.size := Nat.lt_of_lt_of_le (Nat.lt_add_of_pos_right (Nat.succ_pos n)) hle
   refine wpAny_bind (wpAny_pyNext_list_item hit ht (x := items[i]) (by simp [hlt]) fun h₁ hit₁ hs₁ => ?_)
   refine wpAny_bind (wpAny_holding (ih (i + 1) _ _ hit₁ (ht.extBut hs₁.extBut hne) (Nat.le_trans (Nat.le_of_eq (Nat.succ_add_eq_add_succ i n)) hle) fun h₂ hit₂ hs₂ => wpAny_pure ?_))
   have hd : items.toList.drop i = items[i] :: items.toList.drop (i + 1) := by simp [List.drop_eq_getElem_cons, hlt]
   have := hQ h₂ (by refine rwm (Nat.succ_add_eq_add_succ i n).symm ?_; exact hit₂) (hs₁.trans hs₂)
   rw [hd, List.take_succ_cons] at this
   exact this
theorem q4w {t : Addr} {items : Array Value} {Q : List Value -> Shared -> Prop} (hh : A.handled = none) (ht : s.heap.IsList t items)
   (hQ : ∀ h', Heap.ExtBut s.heap.objs.size s.heap h' -> Q items.toList { s with heap := h' }) : wpAny (model prog w) A (unpackItems (.ref t) items.size none) Q E s := by
 have hlt : t ≠ s.heap.objs.size := by obtain ⟨o, ho, _⟩ := ht; exact Nat.ne_of_lt (Heap.lt_size ho)
 unfold unpackItems
 refine wpAny_bind ?_
 . unfold notIterableAtAll
   refine wpAny_bind (wpAny_specialOf ht.typeIs slot_list_iter.lookup ?_)
   refine wpAny_pure ?_
   simp only [Bool.false_eq_true, if_false]
   refine wpAny_bind (wpAny_holding (wpAny_pyIter_list ht ?_))
   refine wpAny_bind (wpAny_holding (z50 hlt items.size 0 _ _ ⟨_, Heap.get?_push_size _ rfl, rfl, rfl⟩ (ht.push _) (Nat.le_of_eq (Nat.zero_add _)) fun h₁ hit₁ hs₁ => ?_))
   have hall : List.take items.size (List.drop 0 items.toList) = items.toList := by
     refine rwm List.drop_zero ?_; exact List.take_of_length_le (by simp)
   refine rwm hall ?_
   refine rwm (if_neg (by simp)) ?_
   have ht₁ : h₁.IsList t items := (ht.push _).extBut hs₁.extBut hlt
   refine wpAny_bind (wpAny_holding (wpAny_pyNext_list_end hh hit₁ ht₁ (by simp) fun h₂ he₂ => ?_))
   simp only [Option.isSome_none, Bool.false_eq_true, if_false]
   refine wpAny_pure (hQ h₂ fun b o hb e => he₂ b o hb (hs₁.extBut b o hb (Heap.get?_push_of_some _ e)))
end
noncomputable def j81 (c : Cx) (P : Pt) (ts : List Expr) : List V -> (Loc -> St -> Prop) -> Loc -> St -> Prop :=
 List.rec (motive := fun W0 => List V -> (Loc -> St -> Prop) -> Loc -> St -> Prop) (fun vs Q ρ st => List.casesOn (motive := fun W0 => Prop) vs (Q ρ st) fun W0 W0 => False) (fun t W0 ih vs Q ρ st => List.casesOn (motive := fun W0 => Prop) vs False fun v vs => z4f c P ρ st t v fun ρ₁ st₁ => ih vs Q ρ₁ st₁) ts
theorem j81.length {c : Cx} {P : Pt} : ∀ {ts : List Expr} {vs : List V} {Q : Loc -> St -> Prop} {ρ : Loc} {st : St} {pv : List (Addr × Obj)} {g : Gh} {m : Str -> Option Value} {news : List (Addr × Obj)} {h0 : Heap} {s : Shared} {xs : List Value} {Qm : Unit -> Shared -> Prop} {Em : Value -> Shared -> Prop}, j81 c P ts vs Q ρ st -> At c P g ρ st pv m m news h0 s.heap -> VRs c g vs xs -> ts.all q0e = true ->
   (∀ g' m' news' h0' h' tk ρ' st', g.le g' -> Mv P h0 h0' -> At c P g' ρ' st' pv m' m' news' h0' h' -> Q ρ' st' -> Qm () { s with heap := h', toks := tk }) -> wpAny (model c.prog c.w) P.A (assignInOrder ((assignEach ts P.env).map (·.2)) xs) Qm Em s := by
 intro ts
 induction ts with
 | nil =>
   intro vs Q ρ st pv g m news h0 s xs Qm Em q a r hs k
   induction vs using List.casesOn with
   | nil => refine rwm r.nilI ?_; exact assignInOrder_nil (k g m news h0 s.heap s.toks ρ st .rfl .rfl a q)
   | cons => exact q.elim
 | cons t ts ih =>
   intro vs Q ρ st pv g m news h0 s xs Qm Em q a r hs k
   induction vs using List.casesOn with
   | nil => exact q.elim
   | cons v vs =>
   (refine e23 r.consI fun y ys r hv hr => ?_; refine rwm r ?_)
   rw [List.all_cons, Bool.and_eq_true] at hs
   have e : (assignEach (t :: ts) P.env).map (·.2) = assign t P.env :: (assignEach ts P.env).map (·.2) := by
     induction t using Expr.casesOn <;> first | rfl | exact nomatch hs.1
   refine rwm e ?_
   refine assignInOrder_cons (q g pv m news h0 s _ _ _ a hv fun g' m' news' h0' h' tk ρ' st' l v' a' q' => ?_)
   exact ih (s := { s with heap := h', toks := tk }) q' a' (hr.mono l) hs.2 fun g2 m2 news2 h02 h2 tk2 ρ2 st2 l2 v2 a2 q2 => k g2 m2 news2 h02 h2 tk2 ρ2 st2 (l.trans l2) (v'.trans v2) a2 q2
theorem q6d {env : Env} : ∀ {ts : List Expr}, ts.all q0e = true -> (assignEach ts env).length = ts.length /\ (assignEach ts env).findIdx? (·.1) = none := by
 intro ts
 induction ts with
 | nil => intro _; exact ⟨rfl, rfl⟩
 | cons t ts ih =>
   intro hs
   rw [List.all_cons, Bool.and_eq_true] at hs
   have e : assignEach (t :: ts) env = (false, assign t env) :: assignEach ts env := by
     induction t using Expr.casesOn <;> first | rfl | exact nomatch hs.1
   obtain ⟨h1, h2⟩ := ih hs.2
   refine rwm e ?_
   refine ⟨by (refine rwm List.length_cons ?_; refine rwm List.length_cons ?_; refine rwm h1 ?_; rfl), ?_⟩
   refine rwm (List.findIdx?_cons) ?_
   simp [h2]
section
variable {c : Cx} {P : Pt} {ρ : Loc} {st : St} {X : Exc} {g : Gh} {pv news : List (Addr × Obj)} {m ns : Str -> Option Value} {h0 h : Heap}
theorem At.extBut (a : At c P g ρ st pv m ns news h0 h) {h' : Heap} (he : Heap.ExtBut h.objs.size h h') : At c P g ρ st pv m ns news h0 h' :=
 a.keeps fun b o e => he b o (Nat.ne_of_lt (Heap.lt_size e)) e
theorem z4s {ts : List Expr} {k : Nat} {p : Pos} {v : V} {vs : List V} {Q : Loc -> St -> Prop} (hn : P.nh = true) (hs : ts.all q0e = true) (hv : v = .tup vs \/ v = .lst vs \/ ∃ n, v = .ref n /\ st.get n = some (.list vs)) (hlen : ts.length = vs.length) (q : j81 c P ts vs Q ρ st) : z4f c P ρ st (.Tuple ts k p) v Q :=
 fun g pv m news h0 s x Qm Em a r kk => by
   obtain ⟨e1, e2⟩ := q6d (env := P.env) hs
   have key : ∃ b its, x = .ref b /\ (IsTup s.heap b its.toArray \/ s.heap.IsList b its.toArray) /\ VRs c g vs its := by
     rcases hv with rfl | rfl | ⟨n, rfl, e⟩
     . (refine e33 r.tupI fun b its k r => ?_; refine rwm r ?_; intro hh hr)
       exact ⟨b, its, rfl, .inl ⟨_, a.get hh, rfl, k, rfl⟩, hr⟩
     . (refine e33 r.lstI fun b its k r => ?_; refine rwm r ?_; intro hh hr)
       exact ⟨b, its, rfl, .inr ⟨_, a.get hh, rfl, k, rfl⟩, hr⟩
     . obtain ⟨b, its, k, rfl, hm, hr, _, _⟩ := a.listN e r
       exact ⟨b, its, rfl, .inr ⟨_, (a.nw _ hm).1, rfl, k, rfl⟩, hr⟩
   (refine e23 key fun b its r => ?_; refine rwm r ?_; intro hb hr)
   have hsz : (assignEach ts P.env).length = its.toArray.size := by (refine rwm e1 ?_; refine rwm hlen ?_; refine rwm List.size_toArray ?_; refine rwm hr.length ?_; rfl)
   have fin : ∀ h', Heap.ExtBut s.heap.objs.size s.heap h' -> wpAny (model c.prog c.w) P.A (assignInOrder ((assignEach ts P.env).map (·.2)) its.toArray.toList) Qm Em { s with heap := h' } := fun h' he =>
     j81.length (s := { s with heap := h' }) q (a.extBut he) hr hs fun g2 m2 news2 h02 h2 tk2 ρ2 st2 l2 v2 a2 q2 => kk g2 m2 news2 h02 h2 tk2 ρ2 st2 l2 v2 a2 q2
   rcases hb with hb | hb
   . exact assign_Tuple_tuple (a.ok.hand hn) hb hsz e2 fin
   . rw [assign_Tuple]
     refine wpAny_bind (wpAny_standAt ?_)
     unfold unpack
     (refine rwm hsz ?_; refine rwm e2 ?_)
     exact wpAny_bind (wpAny_holding (q4w (a.ok.hand hn) hb fin))
end
section
variable {c : Cx} {P : Pt} {ρ : Loc} {st : St} {X : Exc} {Q : Fl -> Loc -> St -> Prop}
theorem q5o {ts : List Expr} {k : Nat} {e : Expr} {p pos : Pos} (hs : swapsWithSole [.Tuple ts k p] e pos.line P.env = pure false) (hw : swappedStores [.Tuple ts k p] e P.env = pure none)
   (h : EvE c P ρ st e (fun v st₁ => z4f c P ρ st₁ (.Tuple ts k p) v (fun ρ₂ st₂ => Q .next ρ₂ st₂)) X) : Ex1 c P ρ st (.Assign [.Tuple ts k p] e pos) Q X :=
 fun g pv m news h0 s Qc Ec a K => wpAny_Assign_stores (h.useS a K fun g1 W0 W0 s1 x W0 W0 W0 a1 r1 q1 K1 => by
   exact q1 _ _ _ _ _ _ _ _ _ a1 r1 fun g2 m2 news2 h02 h2 tk2 ρ2 st2 l2 v2 a2 q2 => (K1.step (h₁ := h2) (tk₁ := tk2) l2 v2).here (tk := tk2) a2 .next q2) hs hw
noncomputable def InpW (c : Cx) (P : Pt) (ρ : Loc) (st : St) (op : Operator) (a b : V) (Q : V -> St -> Prop) (X : Exc) : Prop := TrG c P ρ st (x10 c a b) (VR c) (fun p => inplaceOp op p.1 p.2) Q X
theorem j6a {a b : Int} {Q : V -> St -> Prop} (q : Q (.int (a + b)) st) : InpW c P ρ st .Add (.int a) (.int b) Q X := fun g W0 W0 W0 W0 W0 s p W0 W0 at_ hx K => by
 obtain ⟨_, _, rfl⟩ := hx.ints
 exact PySem.P.iadd_int (K.now at_ (.int _ _) q)
theorem x0k {x : Str} {op : Operator} {e : Expr} {p pos : Pos} {v : V} (hl : P.env.locals = P.L) (hk : P.env.kindOf x = some .local) (hv : ρ.lookup x = some v) (h : EvE c P ρ st e (fun w st₁ => InpW c P ρ st₁ op v w (fun z st₂ => Q .next (ρ.put x z) st₂) X) X) :
   Ex1 c P ρ st (.AugAssign (.Name x p) op e pos) Q X :=
 fun g pv m news h0 s Qc Ec a K => by
   refine e12 (a.loc x v hv :) fun y h1 h2 => ?_
   refine wpAny_AugAssign_Name (wpAny_loadName_local a.ok.kf hk (hl ▸ a.fr.ns) h1 (h.useS a K fun W0 W0 W0 s1 z W0 W0 l1 a1 r1 q1 K1 => TrG.useS (i := (y, z)) q1 a1 ⟨h2.mono l1, r1⟩ K1 fun W0 W0 W0 s2 z2 W0 W0 W0 a2 r2 q2 K2 => a2.store hl hk r2 fun m' h' a3 => K2.here a3 .next q2))
theorem x0m {body : List Stmt} {hd : ExceptHandler} {hs : List ExceptHandler} {pos : Pos} (h : ExS c P ρ st body Q noX) : Ex1 c P ρ st (.Try body (hd :: hs) [] [] pos) Q X :=
 fun g pv m news h0 s Qc Ec a K => wpAny_Try_except (h g pv m news h0 s _ _ a ⟨fun g' m' news' h0' h' tk x b ρ' st' l v a' r q => by
   have := K.ok g' m' news' h0' h' tk x b ρ' st' l v a' r q
   cases r with
   | next => exact wpAny_execs_nil this
   | brk => exact this
   | cont => exact this
   | ret _ => exact this, fun W0 W0 W0 W0 W0 W0 W0 W0 W0 W0 W0 x => x.elim⟩)
end
noncomputable def q4k (st : St) (vs : List V) (v : V) : Prop := v = .lst vs \/ ∃ n, v = .ref n /\ st.get n = some (.list vs)
section
variable {c : Cx} {P : Pt} {ρ : Loc} {st : St} {X : Exc} {Q : V -> St -> Prop} {g : Gh} {pv news : List (Addr × Obj)} {m ns : Str -> Option Value} {h0 h : Heap}
theorem At.lst (a : At c P g ρ st pv m ns news h0 h) {v : V} {vs : List V} {y : Value} (i : q4k st vs v) (r : VR c g v y) : ∃ b its, y = .ref b /\ h.IsList b its.toArray /\ VRs c g vs its := by
 rcases i with rfl | ⟨n, rfl, e⟩
 . (refine e33 r.lstI fun b its k r => ?_; subst r; intro hh hr)
   exact ⟨b, its, rfl, ⟨_, a.get hh, rfl, k, rfl⟩, hr⟩
 . (refine e35 (a.listN e r :) fun b its k r => ?_; subst r; intro hm hr hp N)
   exact ⟨b, its, rfl, ⟨_, (a.nw _ hm).1, rfl, k, rfl⟩, hr⟩
theorem z9s {v w : V} {vs ws : List V} (hv : q4k st vs v) (hw : q4k st ws w) (hz : vs.length + ws.length <= sizeLine) (q : Q (.lst (vs ++ ws)) st) : q4z c P ρ st .Add v w Q X := fun g _ _ _ _ _ s ⟨x, y⟩ _ _ a ⟨hx, hy⟩ K => by
 (refine e23 (a.lst hv hx :) fun b its r => ?_; subst r; intro hb hr)
 (refine e23 (a.lst hw hy :) fun b' its' r => ?_; subst r; intro hb' hr')
 refine kmk_add_lit a.fr a.nw hb hb' (by (refine rwm List.toList_toArray ?_; refine rwm List.toList_toArray ?_; rfl)) (fun D h' F N l => ?_) (by (refine rwm List.toList_toArray ?_; refine rwm List.toList_toArray ?_; refine rwm hr.length ?_; refine rwm hr'.length ?_); exact hz)
 refine e13 (a.pushFrozen F N fun p hp => Nat.ne_of_lt (l p hp) :) fun g' l' a' hh => ?_
 exact K.here (tk := s.toks) l' a' (.lst hh ((hr.append hr').mono l')) q
theorem q5v {prog : Program} {w : World} {A : Around} {E : Value -> Shared -> Prop} {s : Shared} {op : CmpOp} (hop : op = .Eq \/ op = .NotEq) {x y : Addr} {xs ys : Array Value} {Q : Value -> Shared -> Prop} (hu : A.units < cLine) (hx : s.heap.IsList x xs) (hy : s.heap.IsList y ys) (hne : xs.size ≠ ys.size) (h : Q (.bool (op == .NotEq)) s) :
   wpAny (model prog w) A (compareOp op (.ref x) (.ref y)) Q E s := by
 refine hid fun hG => ?_
 obtain ⟨ox, hox, hcx, nx, hdx⟩ := id hx
 obtain ⟨oy, hoy, hcy, ny, hdy⟩ := id hy
 refine hG ?_
 have hsub : isSubtype (.type "list") (.type "list") = pure true := F.bm_sub_list
 have go : ∀ (t : Sem Fin) (op : CmpOp), (op == .Eq || op == .NotEq) = true -> Q (.bool (op == .NotEq)) s -> wpAny (model prog w) A.in1 (do
     if !(<- isInstance (.ref y) (.type "list")) then return <- ret .notImplemented
     if op == .Eq || op == .NotEq then
       if (<- Builtin.List.listItems (.ref x)).size != (<- Builtin.List.listItems (.ref y)).size then rule "list.compare.lengths-differ"; return <- ret (.bool (op == .NotEq))
     t) (fun fin s' => ∃ v, fin = .done (.ret v) /\ v ≠ .notImplemented /\ Q v s') E s := fun t op ho hq => by
   refine wpAny_bind (wpAny_isInstance hy.typeIs hsub ?_)
   refine bm_if_false rfl ?_
   refine bm_if_true ho ?_
   refine wpAny_bind ?_
   unfold Builtin.List.listItems
   refine wpAny_bind (wpAny_seqItems hox hdx (wpAny_pure ?_))
   refine wpAny_bind (wpAny_bind (wpAny_seqItems hoy hdy (wpAny_pure ?_)))
   refine bm_if_true (by simpa using hne) ?_
   exact wpAny_bind (wpAny_rule (wpAny_bind (wpAny_pure (wpAny_pure ⟨_, rfl, (fun z => by cases z), hq⟩))))
 rcases hop with rfl | rfl
 . show wpAny _ _ (richCompare .Eq (.ref x) (.ref y)) _ _ _
   exact wpAny_richCompare_same_or hx.typeIs hy.typeIs F.slot_list_eq (wpAny_call_entry F.slot_list_eq hx.typeIs F.entry_list_eq (go _ .Eq rfl h) (F.args_list_eq_2 _ _)) (.inr hu)
 . show wpAny _ _ (richCompare .NotEq (.ref x) (.ref y)) _ _ _
   exact wpAny_richCompare_same_or hx.typeIs hy.typeIs F.slot_list_ne (wpAny_call_entry F.slot_list_ne hx.typeIs F.entry_list_ne (go _ .NotEq rfl h) (F.args_list_ne_2 _ _)) (.inr hu)
theorem j5b {v w : V} {vs : List V} (hv : q4k st vs v) (hw : q4k st [] w) (q : Q (.bool vs.isEmpty) st) : q1o c P ρ st .Eq v w Q X := fun g _ _ _ _ _ s ⟨x, y⟩ _ _ a ⟨hx, hy⟩ K => by
 (refine e23 (a.lst hv hx :) fun b its r => ?_; subst r; intro hb hr)
 (refine e23 (a.lst hw hy :) fun b' its' r => ?_; subst r; intro hb' hr')
 obtain rfl := hr'.nilI
 cases hr with
 | nil => exact eq_intsK (ns := []) (ms := []) hb .nil hb' .nil (a.ok.lowU (by decide)) (K.now (tk := s.toks) a (.bool _) q)
 | cons h1 h2 => exact q5v (.inl rfl) (a.ok.lowU (k := 0) (by decide)) hb hb' (by simp) (K.now (tk := s.toks) a (.bool _) q)
theorem z3d {v w : V} {vs : List V} (hv : q4k st vs v) (hw : q4k st [] w) (q : Q (.bool (!vs.isEmpty)) st) : q1o c P ρ st .NotEq v w Q X := fun g _ _ _ _ _ s ⟨x, y⟩ _ _ a ⟨hx, hy⟩ K => by
 (refine e23 (a.lst hv hx :) fun b its r => ?_; subst r; intro hb hr)
 (refine e23 (a.lst hw hy :) fun b' its' r => ?_; subst r; intro hb' hr')
 obtain rfl := hr'.nilI
 cases hr with
 | nil => exact ne_intsK (ns := []) (ms := []) hb .nil hb' .nil (a.ok.lowU (by decide)) (K.now (tk := s.toks) a (.bool _) q)
 | cons h1 h2 => exact q5v (.inr rfl) (a.ok.lowU (k := 0) (by decide)) hb hb' (by simp) (K.now (tk := s.toks) a (.bool _) q)
theorem j48 {x y : List UInt8} (q : Q (.bool (x == y)) st) : q1o c P ρ st .Eq (.bytes x) (.bytes y) Q X := fun g W0 W0 W0 W0 W0 s p W0 W0 a hp K => by
 obtain ⟨x', y'⟩ := p
 obtain ⟨t, rfl⟩ := hp.1.bytesI
 obtain ⟨u, rfl⟩ := hp.2.bytesI
 exact eq_bytes (by simpa using K.now (tk := s.toks) a (.bool _) q)
theorem j5a {x y : List UInt8} (q : Q (.bool (x != y)) st) : q1o c P ρ st .NotEq (.bytes x) (.bytes y) Q X := fun g W0 W0 W0 W0 W0 s p W0 W0 a hp K => by
 obtain ⟨x', y'⟩ := p
 obtain ⟨t, rfl⟩ := hp.1.bytesI
 obtain ⟨u, rfl⟩ := hp.2.bytesI
 exact ne_bytes (by simpa using K.now (tk := s.toks) a (.bool _) q)
theorem z0d {n : Int} (q : Q (.rng 0 n 1) st) : q0i c P ρ st (.prim (.type "range")) [.int n] Q X := fun g W0 W0 W0 W0 W0 s p W0 W0 a hp K => by
 (refine e12 hp.one fun x r => ?_; subst r; intro h1)
 obtain ⟨t, rfl⟩ := h1.intI
 refine call_range_1 ?_
 obtain ⟨g', l, a', hh⟩ := a.pushed { cls := .type "range", data := .fields #[.int 0 s.toks, .int n _, .int 1 (s.toks + 1)] } rfl
 exact K.here (tk := s.toks + 1 + 1) l a' (.rng hh) q
theorem z0e {x y z : Int} (hz : z ≠ 0) (hp : Builtin.divisionGoesByPylong (y - x) z = false) (q : Q (.rng x y z) st) : q0i c P ρ st (.prim (.type "range")) [.int x, .int y, .int z] Q X := fun g _ _ _ _ _ s ⟨f, xs⟩ _ _ a ⟨hf, hx⟩ K => by
 obtain rfl := hf.primI
 (refine e23 hx.consI fun x1 xs1 r => ?_; subst r; intro h1 h2)
 (refine e23 h2.twoI fun x2 x3 r => ?_; subst r; intro h2 h3)
 obtain ⟨t1, rfl⟩ := h1.intI
 obtain ⟨t2, rfl⟩ := h2.intI
 obtain ⟨t3, rfl⟩ := h3.intI
 refine call_range_3 hz ?_ (.inl hp)
 obtain ⟨g', l, a', hh⟩ := a.pushed { cls := .type "range", data := .fields #[.int x _, .int y _, .int z _] } rfl
 exact K.here (tk := s.toks) l a' (.rng hh) q
end
section
open PySem PySem.W PySem.Calls PyProof.Rows PySem.SeqAt
section
variable {c : Cx} {P : Pt} {ρ : Loc} {st : St} {X : Exc} {Q : V -> St -> Prop} {g : Gh} {pv news : List (Addr × Obj)} {m ns : Str -> Option Value} {h0 h : Heap}
theorem z27 {n : Int} (q : Q (.int n) st) : q0i c P ρ st (.prim (.type "int")) [.int n] Q X := fun g W0 W0 W0 W0 W0 s p W0 W0 a hp K => by
 (refine e12 hp.one fun x r => ?_; subst r; intro h1)
 obtain ⟨t, rfl⟩ := h1.intI
 exact call_int_int (K.now (tk := s.toks) a (.int n t) q)
theorem z26 {b : Bool} (q : Q (.int (if b then 1 else 0)) st) : q0i c P ρ st (.prim (.type "int")) [.bool b] Q X := fun g W0 W0 W0 W0 W0 s p W0 W0 a hp K => by
 (refine e12 hp.one fun x r => ?_; subst r; intro h1)
 obtain rfl := h1.boolI
 exact call_int_bool (K.now a (.int _ _) q)
theorem z5e {a b : Int} (hn : P.nh = true) (q : Q (.int (if b > a then b else a)) st) : q0i c P ρ st (.prim (.builtin "max")) [.int a, .int b] Q X := fun g W0 W0 W0 W0 W0 s p W0 W0 at_ hp K => by
 (refine e23 hp.two fun x y r => ?_; subst r; intro h1 h2)
 obtain ⟨t, rfl⟩ := h1.intI
 obtain ⟨u, rfl⟩ := h2.intI
 refine max_two_ints (at_.ok.hand hn) fun h' tk hk => ?_
 have a1 := at_.keeps hk
 by_cases e : b > a
 . rw [if_pos e] at q ⊢
   exact K.here (tk := tk) .rfl a1 (.int b u) q
 . rw [if_neg e] at q ⊢
   exact K.here (tk := tk) .rfl a1 (.int a t) q
theorem z5f {a b : Int} (hn : P.nh = true) (q : Q (.int (if b < a then b else a)) st) : q0i c P ρ st (.prim (.builtin "min")) [.int a, .int b] Q X := fun g W0 W0 W0 W0 W0 s p W0 W0 at_ hp K => by
 (refine e23 hp.two fun x y r => ?_; subst r; intro h1 h2)
 obtain ⟨t, rfl⟩ := h1.intI
 obtain ⟨u, rfl⟩ := h2.intI
 refine min_two_ints (at_.ok.hand hn) fun h' tk hk => ?_
 have a1 := at_.keeps hk
 by_cases e : b < a
 . rw [if_pos e] at q ⊢
   exact K.here (tk := tk) .rfl a1 (.int b u) q
 . rw [if_neg e] at q ⊢
   exact K.here (tk := tk) .rfl a1 (.int a t) q
noncomputable def eqV (v w : V) : Option Bool := match v with
 | .int a => (vInt w).map fun b => a == b
 | .bytes a => (q2q w).map fun b => a == b
 | .str a => (vStr w).map fun b => a == b
 | .bool a => (z1e w).map fun b => a == b
 | .none => (j8g w).map fun W0 => true
 | .sint a k _ => (q8e w).bind fun q => cond (a == q.1 && k == q.2.1) (some true) none
 | .sb a => Option.casesOn (vSb w) ((q2q w).bind fun b => cond b.isEmpty (some (a.len == 0)) none) fun b => if a = b then some true else none
 | _ => none
noncomputable def eqVs (l : List V) : List V -> Option Bool := List.rec (fun ws => cond ws.isEmpty (some true) none) (fun v W0 ih ws => List.casesOn ws none fun w ws => (eqV v w).bind fun a => (ih ws).map fun b => a && b) l
theorem z0h {A : Around} {s : Shared} (a : List UInt8) (t : Tok) (b : List UInt8) (u : Tok) : EqAt A s (.bytes a.toArray t) (.bytes b.toArray u) (a == b) := fun prog w E Q h => by
 unfold eqBool
 refine wpAny_holding ?_
 by_cases e : (Value.bytes a.toArray t == Value.bytes b.toArray u) = true
 . have : a = b := by
     have := eq_of_beq e
     cases this
     first | rfl | assumption | (injections; first | assumption | simp_all)
   subst this
   refine rwm (if_pos e) ?_
   refine wpAny_bind (wpAny_rule (wpAny_pure ?_))
   simpa using h
 . refine rwm (if_neg e) ?_
   refine wpAny_bind ?_
   refine eq_bytes ?_
   simp only [List.toList_toArray]
   exact wpAny_truthy_bool h
theorem EqAt.of {A : Around} {s : Shared} {v w : V} {b : Bool} {x y : Value} (e : eqV v w = some b) (h1 : VR c g v x) (h2 : VR c g w y) : EqAt A s x y b := by
 induction v using V.casesOn with
 | int a =>
   (refine e12 (omi e :) fun d hd r => ?_; subst r)
   rw [q0p hd] at h2
   obtain ⟨t, rfl⟩ := h1.intI; obtain ⟨u, rfl⟩ := h2.intI; exact .int_int _ _ _ _
 | bytes a =>
   (refine e12 (omi e :) fun d hd r => ?_; subst r)
   rw [q1i hd] at h2
   obtain ⟨t, rfl⟩ := h1.bytesI; obtain ⟨u, rfl⟩ := h2.bytesI; exact z0h _ _ _ _
 | str a =>
   (refine e12 (omi e :) fun d hd r => ?_; subst r)
   rw [z1f hd] at h2
   obtain ⟨t, rfl⟩ := h1.strI; obtain ⟨u, rfl⟩ := h2.strI; exact .str_str _ _ _ _
 | bool a =>
   (refine e12 (omi e :) fun d hd r => ?_; subst r)
   rw [q48 hd] at h2
   obtain rfl := h1.boolI; obtain rfl := h2.boolI; exact .bool_bool _ _
 | none =>
   (refine e12 (omi e :) fun d hd r => ?_; subst r)
   rw [z2r hd] at h2
   obtain rfl := h1.noneI; obtain rfl := h2.noneI; exact .same _
 | sint a k dm =>
   refine e12 (obi e :) fun q hd e => ?_
   rw [q2z hd] at h2
   obtain ⟨hc, e⟩ := q0c e
   obtain ⟨c1, c2⟩ := q0m hc
   rw [<- eq_of_beq c1, <- eq_of_beq c2] at h2
   obtain ⟨i, t, rfl, j1, z1, e1, _⟩ := h1.sintI
   obtain ⟨j, u, rfl, j2, z2, e2, _⟩ := h2.sintI
   have hij : i = j := by (refine rwm e1 ?_; refine rwm e2 ?_; refine rwm (oi (z1.symm.trans z2)) ?_; rfl)
   have := EqAt.int_int (A := A) (s := s) i t j u
   rw [hij, beq_self_eq_true] at this
   (refine rwm hij ?_; refine rwb (oi e) ?_)
   exact this
 | sb a =>
   (refine e22 h1.sbI fun l t r => ?_; subst r; intro z1)
   refine z3w (vSb w) (fun d hs => ?_) fun hs => ?_
   .
     change Option.casesOn (motive := fun W0 => Option Bool) (vSb w) _ _ = some b at e
     rw [hs] at e
     obtain ⟨hd, e⟩ := q0u e
     rw [q7a hs, <- hd] at h2
     (refine e22 h2.sbI fun l' u r => ?_; subst r; intro z2)
     have := z0h (A := A) (s := s) l t l' u
     rw [<- z1.det z2, beq_self_eq_true, e] at this
     refine rwb (z1.det z2) ?_
     exact this
   .
     change Option.casesOn (motive := fun W0 => Option Bool) (vSb w) _ _ = some b at e
     rw [hs] at e
     refine e12 (obi e :) fun d hd e => ?_
     obtain ⟨hc, e⟩ := q0c e
     rw [q1i hd, List.isEmpty_iff.mp hc] at h2
     obtain ⟨u, rfl⟩ := h2.bytesI
     have := z0h (A := A) (s := s) l t [] u
     (refine rwb (oi e) ?_; refine rwb z1.length ?_)
     induction l using List.casesOn with
     | nil => exact this
     | cons x l => exact this
 | _ => exact zns e
theorem eqVs_all {vs : List V} : ∀ {ws : List V} {b : Bool}, eqVs vs ws = some b -> vs.length = ws.length /\ (List.range vs.length).all (fun j => (eqV (vs.getD j .none) (ws.getD j .none)).getD false) = b /\ ∀ j, j < vs.length -> ∃ r, eqV (vs.getD j .none) (ws.getD j .none) = some r := by
 induction vs with
 | nil =>
   intro ws b h
   obtain ⟨h1, h2⟩ := q0c h
   refine rwm (List.isEmpty_iff.mp h1) ?_
   exact ⟨rfl, oi h2, fun j hj => absurd hj (Nat.not_lt_zero j)⟩
 | cons v vs ih =>
   intro ws b h
   induction ws using List.casesOn with
   | nil => exact zns h
   | cons w ws =>
     refine hid fun hG => ?_
     refine e12 (obi h :) fun r1 e1 h => ?_
     refine e12 (omi h :) fun r2 e2 h => ?_
     refine e03 (ih e2 :) fun h1 h2 h3 => ?_
     refine hG ?_
     refine ⟨congrArg (· + 1) h1, ?_, fun j hj => ?_⟩
     . (refine rwm List.length_cons ?_; refine rwm List.range_succ_eq_map ?_; refine rwm List.all_cons ?_; refine rwm List.all_map ?_; refine rwb h ?_; refine rwb h2 ?_)
       refine rwm e1 ?_
       rfl
     . induction j using Nat.casesOn with
       | zero => exact ⟨r1, e1⟩
       | succ j => exact h3 j (Nat.lt_of_succ_lt_succ hj)
theorem VRs.at_ {vs : List V} {xs : List Value} (h : VRs c g vs xs) {j : Nat} (hj : j < xs.length) : VR c g (vs.getD j .none) xs[j] := by
 have hj' : j < vs.length := by refine rwb h.length ?_; exact hj
 refine e12 (h.get (List.getElem?_eq_getElem hj') :) fun x h1 h2 => ?_
 rw [List.getElem?_eq_getElem hj] at h1
 cases h1
 (refine rwm (List.getD_eq_getElem?_getD) ?_; refine rwm (List.getElem?_eq_getElem hj') ?_)
 exact h2
theorem z5q {op : CmpOp} (hop : op = .Eq \/ op = .NotEq) {vs ws : List V} {b : Bool} (e : eqVs vs ws = some b) (q : Q (.bool (if op = .Eq then b else !b)) st) : q1o c P ρ st op (.tup vs) (.tup ws) Q X := fun g W0 W0 W0 W0 W0 s p Qc Ec a hp K => by
 obtain ⟨x, y⟩ := p
 (refine e33 hp.1.tupI fun l xs k r => ?_; subst r; intro hx hr)
 (refine e33 hp.2.tupI fun l' ys k' r => ?_; subst r; intro hy hr')
 refine e03 (eqVs_all e :) fun h1 h2 h3 => ?_
 have hu : P.A.units < cLine := a.ok.lowU (k := 0) (by decide)
 have L1 : s.heap.IsTuple l xs.toArray := ⟨_, a.get hx, rfl, k, rfl⟩
 have L2 : s.heap.IsTuple l' ys.toArray := ⟨_, a.get hy, rfl, k', rfl⟩
 have he : ∀ j (h1 : j < xs.toArray.size) (h2 : j < ys.toArray.size), EqAt P.A.in1 s xs.toArray[j] ys.toArray[j] ((eqV (vs.getD j .none) (ws.getD j .none)).getD false) := fun j q1 q2 => by
   obtain ⟨r, e⟩ := h3 j (by rw [List.size_toArray, hr.length] at q1; exact q1)
   refine rwm e ?_
   exact EqAt.of e (hr.at_ (by simpa using q1)) (hr'.at_ (by simpa using q2))
 have hb : ((List.range (min xs.toArray.size ys.toArray.size)).all (fun j => (eqV (vs.getD j .none) (ws.getD j .none)).getD false) && xs.toArray.size == ys.toArray.size) = b := by
   (refine rwm List.size_toArray ?_; refine rwm List.size_toArray ?_; refine rwm hr.length ?_; refine rwm hr'.length ?_; refine rwb h1 ?_; refine rwm (Nat.min_self _) ?_; refine rwm h2 ?_; refine rwm (beq_self_eq_true _) ?_; refine rwm (Bool.and_true _) ?_; rfl)
 rcases hop with rfl | rfl
 . have := RcAt.tuples L1 L2 hu he c.prog c.w Ec Qc
   rw [hb] at this
   exact this (K.now (tk := s.toks) a (.bool _) q)
 . have := RcNeAt.tuples L1 L2 hu he c.prog c.w Ec Qc
   rw [hb] at this
   exact this (K.now (tk := s.toks) a (.bool _) q)
theorem VRs.ints : ∀ {ns : List Int} {xs : List Value}, VRs c g (ns.map .int) xs -> IntsAre xs ns := by
 intro ns
 induction ns with
 | nil => intro _ h; refine rwm h.nilI ?_; exact .nil
 | cons n ns ih =>
   intro _ h
   (refine e23 h.consI fun y ys r => ?_; subst r; intro h1 h2)
   obtain ⟨t, rfl⟩ := h1.intI
   exact .cons _ _ (ih h2)
theorem z3c {ns' : List Int} {k : Int} (q : Q (.bool (ns'.any (· == k))) st) : q1o c P ρ st .In (.int k) (.tup (ns'.map .int)) Q X := fun g W0 W0 W0 W0 W0 s p Qc Ec a hp K => by
 obtain ⟨x, y⟩ := p
 obtain ⟨t, rfl⟩ := hp.1.intI
 (refine e33 hp.2.tupI fun l xs kk r => ?_; subst r; intro hx hr)
 have hi := VRs.ints hr
 refine in_tupleAt (isInt k) (items := xs.toArray) ⟨_, a.get hx, rfl, kk, rfl⟩ (fun y hy => (eq_isInt k t hi y (by simpa using hy)).at _ _) ?_
 (refine rwb Array.any_toList ?_; refine rwm (show xs.toArray.toList = xs from rfl) ?_; refine rwm (any_isInt k hi) ?_)
 exact K.now (tk := s.toks) a (.bool _) q
theorem q5h {v : V} {ns' : List Int} {k : Int} (hv : q4k st (ns'.map .int) v) (q : Q (.bool (ns'.any (· == k))) st) : q1o c P ρ st .In (.int k) v Q X := fun g W0 W0 W0 W0 W0 s p Qc Ec a hp K => by
 obtain ⟨x, y⟩ := p
 obtain ⟨t, rfl⟩ := hp.1.intI
 (refine e23 (a.lst hv hp.2 :) fun b its r => ?_; subst r; intro hb hr)
 exact in_list_ints hb (VRs.ints hr) (K.now (tk := s.toks) a (.bool _) q)
theorem q24 {v : V} {ns' : List Int} {k : Int} (hv : q4k st (ns'.map .int) v) (q : Q (.bool (!ns'.any (· == k))) st) : q1o c P ρ st .NotIn (.int k) v Q X := fun g W0 W0 W0 W0 W0 s p Qc Ec a hp K => by
 obtain ⟨x, y⟩ := p
 obtain ⟨t, rfl⟩ := hp.1.intI
 (refine e23 (a.lst hv hp.2 :) fun b its r => ?_; subst r; intro hb hr)
 exact notin_list_ints hb (VRs.ints hr) (K.now (tk := s.toks) a (.bool _) q)
end
end
section
variable {c : Cx} {P : Pt} {ρ : Loc} {st : St} {X : Exc} {Q : V -> St -> Prop} {g : Gh} {pv news : List (Addr × Obj)} {m ns : Str -> Option Value} {h0 h : Heap}
theorem q2k {v : V} {ns' : List Int} (hn : P.nh = true) (hv : q4k st (ns'.map .int) v) (hr : ∀ n ∈ ns', 0 <= n /\ n < 256) (hz : ns'.length <= sizeLine) (q : Q (.bytes (ns'.map fun n => n.toNat.toUInt8)) st) : q0i c P ρ st (.prim (.type "bytes")) [v] Q X := fun g W0 W0 W0 W0 W0 s p W0 W0 a hp K => by
 (refine e12 hp.one fun x r => ?_; subst r; intro h1)
 (refine e23 (a.lst hv h1 :) fun b its r => ?_; subst r; intro hb hr')
 have hi := VRs.ints hr'
 refine call_bytes_ints hb hi hr (by refine rwm hi.length ?_; exact hz) (a.ok.hand hn) fun h' t k hk => ?_
 exact K.here (tk := k) .rfl (a.keeps hk) (.bytes (ns'.map fun n => n.toNat.toUInt8) t) q
noncomputable def q5a (c : Cx) (P : Pt) (ρ : Loc) (st : St) (pos : Pos) (keys : List (Option Expr)) (values : List Expr) (ks : List Str) (Q : List V -> St -> Prop) (X : Exc) : Prop :=
 TrG c P ρ st j8d (fun g vs ps => allStrKeys ps = true /\ (strPairs ps).map (·.1) = ks /\ VRs c g vs ((strPairs ps).map (·.2))) (fun W0 => evalPairs (pairTrees keys values P.env pos)) Q X
theorem z70 {pos : Pos} {QL : List V -> St -> Prop} (q : QL [] st) : q5a c P ρ st pos [] [] [] QL X := fun W0 W0 W0 W0 W0 W0 s W0 W0 W0 a W0 K => by
 exact wpAny_pure (K.now (tk := s.toks) a ⟨rfl, rfl, .nil⟩ q)
theorem z32 {pos kp : Pos} {k : Str} {kd : Nat} {keys : List (Option Expr)} {e : Expr} {values : List Expr} {ks : List Str} {QL : List V -> St -> Prop} (h : EvE c P ρ st e (fun v st₁ => q5a c P ρ st₁ pos keys values ks (fun vs st₂ => QL (v :: vs) st₂) X) X) :
   q5a c P ρ st pos (some (.Constant (.str k) kd kp) :: keys) (e :: values) (k :: ks) QL X := fun W0 W0 W0 W0 W0 W0 s W0 W0 W0 a W0 K => by
 show wpAny _ _ (do
   let kv <- eval (.Constant (.str k) kd kp) P.env
   let vv <- holding [kv] (do let x <- eval e P.env; standAt pos; pure x)
   return (kv, vv) :: (<- holding [kv, vv] (evalPairs (pairTrees keys values P.env pos)))) _ _ _
 refine wpAny_bind (wpAny_Constant_str (wpAny_bind (wpAny_holding (wpAny_bind (h.use (s := { s with toks := s.toks + 1 }) a (K.step .rfl .rfl) fun W0 W0 W0 W0 x W0 W0 W0 a1 r1 q1 K1 => wpAny_bind (wpAny_standAt (wpAny_pure ?_)))))))
 refine wpAny_bind (wpAny_holding (q1.use (i := ()) a1 trivial K1 fun W0 W0 W0 s2 ps vs W0 l2 a2 r2 q2 K2 => wpAny_pure ?_))
 obtain ⟨e2, e3, e4⟩ := r2
 exact K2.now (x := (Value.str k s.toks, x) :: ps) (tk := s2.toks) a2 ⟨e2, by show k :: _ = _; (refine rwm e3 ?_; rfl), .cons (r1.mono l2) e4⟩ q2
theorem z1j : ∀ {l : List (Str × Value)}, (l.map (·.1)).zip (l.map (·.2)) = l := by
 intro l
 induction l with
 | nil => exact rfl
 | cons p l ih => (refine rwm List.map_cons ?_; refine rwm List.map_cons ?_; refine rwm List.zip_cons_cons ?_; refine rwm ih ?_; rfl)
theorem j5p {keys : List (Option Expr)} {values : List Expr} {ks : List Str} {pos : Pos} (hl : P.env.locals = P.L) (hall : keys.all (·.isSome) = true) (hlen : keys.length = values.length) (h0 : keys ≠ []) (h15 : keys.length <= 15) (hnd : ks.Nodup)
   (h : q5a c P ρ st pos keys values ks (fun vs st₁ => Q (.dct ks vs) st₁) noX) : EvE c P ρ st (.Dict keys values pos) Q X := fun g pv m ns news h00 s W0 Qc Ec a W0 K => by
 refine kdn_eval (knd := PySem.strKind c.prog c.w) a.fr a.nw a.tr.nolimit hall hlen h0 h15 fun d h' o F N hf W0 hd => ?_
 have a1 := a.pvPush F N fun p hp => Nat.ne_of_lt (hf p hp)
 refine h g _ m ns _ h00 { s with heap := h' } () _ _ a1 trivial ⟨fun g2 news2 h02 h2 tk2 ps vs st2 l2 v2 a2 r2 q2 => ?_, fun W0 W0 W0 W0 W0 W0 W0 W0 W0 W0 x => x.elim⟩
 refine e03 r2 fun e2 e3 e4 => ?_
 have hd' : ∀ p ∈ pv, p.1 ≠ d := fun p hp => Nat.ne_of_lt (hf p (a.hk.pvi p hp))
 have hm := a2.hk.pvi _ (.head _)
 have N' : News h02 P.L h2 ((d, o) :: q7i d news2) := fun p hp => by
   rcases mc hp with rfl | hp
   . exact a2.nw _ hm
   . exact a2.nw _ (q0k.mp hp).1
 refine kdn_made_str (s := { s with heap := h2, toks := tk2 }) a2.fr N' (.head q34) hd e2 (by refine rwm e3 ?_; exact hnd) fun h3 o' F3 N3 ho' => ?_
 obtain ⟨H, l3⟩ := (a2.hk.pvSet (o' := o') hd').pvFreeze hd'
 have a3 : At c P _ ρ st2 pv m ns ((d, o') :: q7i d news2) h02 h3 := ⟨a2.ok, a2.below, a2.dicts, F3, N3, H, fun x v e => by refine e12 (a2.loc x v e :) fun y h1 h2 => ?_; exact ⟨y, h1, h2.mono l3⟩, fun x n e => by refine e12 (a2.cel x n e :) fun b h1 h2 => ?_; exact ⟨b, h1, l3.pl _ _ h2⟩, .inl ⟨hl, a.nsEq hl⟩⟩
 refine K.ok _ _ h02 h3 _ _ (.dct ks vs) st2 (l2.trans l3) v2 a3 (.dct (.head _) ?_ (VRs.mono l3 e4)) q2
 (refine rwb e3 ?_; refine rwm z1j ?_)
 exact ho'
theorem z0n (k : Str) : ∀ l : List (Str × Value), (l.find? fun kv => kv.1 = k).map (·.2) = l.lookup k := by
 intro l
 induction l with
 | nil => exact rfl
 | cons p l ih =>
   (refine rwm List.lookup_cons ?_; refine rwm (List.find?_cons) ?_)
   by_cases e : p.1 = k
   . subst e; simp
   . have : (k == p.1) = false := by rw [beq_eq_false_iff_ne]; exact fun z => e z.symm
     simp [this, e, ih]
theorem j2g {ks : List Str} {vs : List V} {k : Str} {w : V} (hw : (ks.zip vs).lookup k = some w) (q : Q w st) : z9g c P ρ st (.dct ks vs) (.str k) Q X :=
 fun g pv m ns news h0 s x y Qc Ec a rx ry K => by
   obtain ⟨t, rfl⟩ := ry.strI
   cases rx with
   | @dct _ _ xs b o hm ho hr =>
   have hb := a.get (.inl hm)
   have hd : s.heap.DictOf (PySem.strKind c.prog c.w) b (ks.zip xs) := Heap.dictOf_iff.mpr ⟨o, hb, ho⟩
   refine e12 (zip_rel hr hw :) fun z hz rz => ?_
   have hmo := hd.mapOf
   refine ⟨"dict", "dict.__getitem__", by (refine rwm (typeLookup_type _ _) ?_; refine rwm builtinLookup_eq_fast ?_); kernel_rfl, hmo.typeIs, wpAny_getItem_of (k := k) (PySem.strKind_is c.prog c.w k t) hmo (v := z) ?_ (K.now (tk := s.toks + 1) a rz q)⟩
   obtain ⟨_, _, _, _, _, _, _, _, hnd⟩ := hd
   exact (z0n k _).trans (q4g hnd hz)
end
theorem z42 (kd : Str -> Option NameKind) {y : Str} (hy : kd y = some .local) : ∀ (l : List (Str × Value)) (m : Str -> Option Value), bindL kd l m y = (l.reverse.lookup y).or (m y) := by
 intro l
 induction l with
 | nil => intro m; simp [bindL]
 | cons q0 r ih =>
   obtain ⟨n, v⟩ := q0; intro m
   unfold bindL
   (refine rwm (ih _) ?_; refine rwm List.reverse_cons ?_; refine rwm List.lookup_append ?_; refine rwm List.lookup_cons ?_)
   cases r.reverse.lookup y with
   | some z => rfl
   | none =>
     by_cases e : y = n
     . subst e; simp [hy]
     . have : (y == n) = false := by simpa using e
       refine rwm this ?_
       by_cases q : kd n = some .local <;> simp [q, e]
theorem z41 (kd : Str -> Option NameKind) {y : Str} (hy : kd y = some .cell) : ∀ (l : List (Str × Value)) (m : Str -> Option Value), bindC kd l m y = (l.reverse.lookup y).or (m y) := by
 intro l
 induction l with
 | nil => intro m; simp [bindC]
 | cons q0 r ih =>
   intro m
   obtain ⟨n, v⟩ := q0
   unfold bindC
   (refine rwm (ih _) ?_; refine rwm List.reverse_cons ?_; refine rwm List.lookup_append ?_; refine rwm List.lookup_cons ?_)
   cases r.reverse.lookup y with
   | some z => rfl
   | none =>
     by_cases e : y = n
     . subst e; simp [hy]
     . have : (y == n) = false := by simpa using e
       refine rwm this ?_
       by_cases q : kd n = some .local <;> simp [q, e]
theorem z5i {cm : Str -> Option Value} : ∀ {cs : List (Str × Addr)} {cells : List (Addr × Obj)}, CellsAre cm cs cells -> ∀ p ∈ cells, ∃ x ∈ cs, x.2 = p.1 := by
 intro cs cells r
 induction r with
 | nil => intro p hp; exact nomatch hp
 | cons _ _ ih =>
   intro p hp
   rcases mc hp with rfl | hp
   . exact ⟨_, .head _, rfl⟩
   . refine e12 (ih p hp :) fun x hx e => ?_
     exact ⟨x, .tail _ hx, e⟩
noncomputable def q5g (cv : Str -> Option V) : List Str -> St -> St
 | [], st => st
 | n :: r, st => (q5g cv r st).new (.cell (cv n))
noncomputable def q6t (cv : Str -> Option V) : List Str -> St -> List (Str × Nat)
 | [], _ => []
 | n :: r, st => (n, (q5g cv r st).nx) :: q6t cv r st
theorem z7m {c : Cx} {cm : Str -> Option Value} {cv : Str -> Option V} {st : St} {pv news : List (Addr × Obj)} {g : Gh} (H : HK c g st pv news) : ∀ {cs : List (Str × Addr)} {cells : List (Addr × Obj)}, CellsAre cm cs cells -> (∀ p ∈ cells, ∀ q ∈ news, q.1 ≠ p.1) -> cs.Pairwise (fun x y => x.2 ≠ y.2) ->
   (∀ n ∈ cs.map (·.1), match cv n with | some v => ∃ x, cm n = some x /\ VR c g v x | none => cm n = none) ->
   ∃ g', g.le g' /\ HK c g' (q5g cv (cs.map (·.1)) st) pv (cells ++ news) /\ ∀ x n, (q6t cv (cs.map (·.1)) st).lookup x = some n -> ∃ a, cs.lookup x = some a /\ g'.pl n = some (a, a) := by
 intro cs cells r
 induction r with
 | nil => intro _ _ _; exact ⟨g, .rfl, H, fun x n e => nomatch e⟩
 | @cons n b o cs cells hd r ih =>
   intro hf hp hv
   refine hid fun hG => ?_
   obtain ⟨hp1, hp2⟩ := List.pairwise_cons.mp hp
   obtain ⟨g1, l1, H1, h1⟩ := ih (fun p hp => hf p (.tail _ hp)) hp2 fun n hn => hv n (.tail _ hn)
   refine hG ?_
   have fresh : ∀ p ∈ cells ++ news, p.1 ≠ b := fun p hp => by
     rcases List.mem_append.mp hp with hp | hp
     . obtain ⟨x, hx, e⟩ := z5i r p hp
       exact fun z => hp1 x hx (by (refine rwm e ?_; refine rwm z ?_; rfl))
     . exact hf _ (.head _) p hp
   have hn := hv n (.head _)
   obtain ⟨H2, l2⟩ := H1.nameNew (a := b) (d := b) (x := .cell (cv n)) (news' := (b, o) :: (cells ++ news)) (fun p hp => .tail _ hp) (fun p hp => ⟨fresh p hp, fresh p hp⟩) (fun l2 => by
     refine q1v (cv n) (fun hc => ?_) fun v hc => ?_
     . rw [hc] at hn; exact .cell0 (.head _) (hd.trans (by (refine rwm hn ?_; rfl)))
     .
       rw [hc] at hn
       obtain ⟨x, h2, h3⟩ := hn
       exact .cell (.head _) (hd.trans (by (refine rwm h2 ?_; rfl))) ((h3.mono l1).mono l2))
   refine ⟨_, l1.trans l2, H2, fun x k e => ?_⟩
   rw [List.map_cons, q6t, List.lookup_cons] at e
   refine rwm List.lookup_cons ?_
   by_cases q : (x == n) = true
   . rw [q] at e
     cases e
     refine rwm q ?_
     exact ⟨b, rfl, if_pos rfl⟩
   . rw [Bool.not_eq_true] at q
     rw [q] at e ⊢
     obtain ⟨a, e1, e2⟩ := h1 x k e
     exact ⟨a, e1, l2.pl _ _ e2⟩
theorem q7y {α : Type} (q : Str -> Bool) (x : Str) : ∀ l : List (Str × α), (l.filter fun p => q p.1).lookup x = if q x then l.lookup x else none := by
 intro l
 induction l with
 | nil => simp
 | cons q0 l ih =>
   obtain ⟨k, v⟩ := q0
   refine rwm List.filter_cons ?_
   by_cases hq : q k = true
   . (refine rwm (if_pos hq) ?_; refine rwm List.lookup_cons ?_; refine rwm List.lookup_cons ?_; refine rwm (ih) ?_)
     by_cases e : x = k
     . subst e; simp [hq]
     . have : (x == k) = false := by simpa using e
       simp [this]
   . (refine rwm (if_neg hq) ?_; refine rwm (ih) ?_; refine rwm List.lookup_cons ?_)
     by_cases e : x = k
     . subst e; simp [hq]
     . have : (x == k) = false := by simpa using e
       simp [this]
theorem j22 {ns : List Str} {ys : List Value} {zs : List V} (hl : ys.length = zs.length) {x : Str} (h : (ns.zip zs).lookup x = none) : (ns.zip ys).reverse.lookup x = none := by
 refine q1v ((ns.zip ys).reverse.lookup x) (fun q => ?_) fun y q => ?_
 . rfl
 .
   exfalso
   have hm : ∀ {l : List (Str × Value)} {x : Str} {y : Value}, l.lookup x = some y -> (x, y) ∈ l := fun {l x y} h => by
     induction l with
     | nil => exact zns h
     | cons p l ih =>
       rw [List.lookup_cons] at h
       by_cases e : (x == p.1) = true
       . rw [e] at h; cases h; refine rwm (eq_of_beq e) ?_; exact .head _
       . rw [Bool.not_eq_true] at e; rw [e] at h; exact .tail _ (ih h)
   have h1 := List.mem_reverse.mp (hm q)
   clear hm q
   induction ns generalizing ys zs with
   | nil => cases h1
   | cons n ns ih =>
     induction ys using List.casesOn with
     | nil => cases h1
     | cons y' ys =>
       induction zs using List.casesOn with
       | nil => cases hl
       | cons z zs =>
         rw [List.zip_cons_cons, List.lookup_cons] at h
         by_cases e : (x == n) = true
         . rw [e] at h; exact zsn h
         . rw [Bool.not_eq_true] at e
           rw [e] at h
           rw [List.zip_cons_cons] at h1
           rcases mc h1 with h1 | h1
           . cases h1; simp at e
           . exact ih (by simpa using hl) h h1
theorem q8r {c : Cx} {f : Addr} {ns : List Str} {body : List Stmt} {sc : Scope} {ds : List Value} {qual : Str} {cdv : Value} (I : FnIs c.K f ns body sc ds qual cdv)
   {d : Nat} {tn : Bool} {st : St} {vs dvs : List V} {Q : V -> St -> Prop} {X : Exc} (hdv : ∀ g, VRs c g dvs ds) {names : List Str}
   (hn : ns.Nodup) (hl : vs.length <= ns.length) (hm : ns.length <= vs.length + dvs.length) (hdn : dvs.length <= ns.length)
   (hcn : (cellsFrom 0 sc.names []).map (·.1) = names) (hcd : names.Nodup) (hck : ∀ x ∈ names, sc.names.lookup x = some .cell)
   (hloc : ∀ y ∈ ns, sc.names.lookup y = some .local \/ (sc.names.lookup y = some .cell /\ y ∈ names)) (hco : sc.isCoroutine = false) (hgen : sc.isGenerator = false) (hk : sc.kind = .function)
   (hb : ∀ P : Pt, P.d = d -> P.tn = tn -> P.nh = true -> P.cn = q6t ((ns.zip (q6j ns.length vs dvs)).lookup ·) names st -> P.env.scope = sc -> P.env.locals = P.L -> P.env = P.top ->
     ExS c P ((ns.zip (q6j ns.length vs dvs)).filter fun p => sc.names.lookup p.1 == some .local) (q5g ((ns.zip (q6j ns.length vs dvs)).lookup ·) names st) body (fun fl W0 st' => Q fl.val st') noX) : q0d c (d + 1) tn st (.prim (.ref f)) vs Q X := by
 intro P ρ hPd hPt hPn g pv m ns₀ news h0 s fv xs R a hfv hxs K
 refine rwm (hfv.primI) ?_
 obtain @⟨oc, od, name, params, dV, kV, doc, pm, an, ct, osl, ho, h1, h2, h3, h4, h5, hd, hcr⟩ := I
 have hlx := hxs.length
 have hld := (hdv g).length
 have En := z51 (news := news) a.ok a.below a.dicts a.fr a.nw
 have hnm : ∀ n, (cellsFrom n sc.names []).map (·.1) = names := fun n => (cellsFrom_names sc.names 0 n [] [] rfl).symm.trans hcn
 refine codeAny_call_function (fd := { name, qualname := qual, params, body := .stmts body, scope := sc, globals := mainGlobals, closure := [], defaults := dV, kwdefaults := kV, doc, pyModule := pm, annotations := an, code := cdv, closureTuple := ct, builtins := builtinsNs }) a.ok.lowD (a.kinH _ _ ho) rfl hco hgen rfl (codeRec_of a.kinH hcr)
   (q7g h1 h2 h3 h4 h5 (j5e a.kinH hd) hn (by refine rwm hlx ?_; exact hl) (by (refine rwm hlx ?_; refine rwm hld ?_); exact hm) (by refine rwm hld ?_; exact hdn) _ _ _ _ ?_)
 refine wpAny_newFunctionEnv_cells hk (fun y hy => ?_) fun env' he s' x => ?_
 . rcases hloc _ (q49.subset (List.mem_map_of_mem hy)) with h | ⟨h, hm⟩
   . exact .inl h
   . refine .inr ⟨h, ?_⟩
     rw [<- hnm (s.heap.objs.size + 1)] at hm
     refine ep2 (List.mem_map.mp hm :) fun k b hb e => ?_
     subst e
     refine rwm (lookup_of_mem_nodup (by refine rwm (hnm _) ?_; exact hcd) hb) ?_
     rfl
 subst he
 have x : InCallC s s.heap.objs.size (bindL (envOfC qual sc s.heap.objs.size f cdv).kindOf (q0z ns xs ds) fun W0 => none) (cellsFrom (s.heap.objs.size + 1) sc.names []) (bindC (envOfC qual sc s.heap.objs.size f cdv).kindOf (q0z ns xs ds) fun W0 => none) s' := x
 refine ⟨(a.tr.nolimit.keeps a.fr.keep).keeps x.toInCall.keep, codeAny_func ?_⟩
 obtain ⟨h₁, tk, rfl, _⟩ := x.done
 have hk₁ := x.toInCall.keep
 (refine e12 (Cl.news (h₀ := s.heap) (Nat.le_refl _) fun n b hm => ⟨x.cell n b (lookup_of_mem_nodup (by refine rwm (hnm _) ?_; exact hcd) hm), x.above n b hm⟩ :) fun cells NC Y => ?_)
 have hr : VRs c g (q6j ns.length vs dvs) (xs ++ ds.drop (ds.length - (ns.length - xs.length))) := by
   unfold q6j
   (refine rwm hlx ?_; refine rwm hld ?_)
   exact hxs.append ((hdv g).drop _)
 obtain ⟨g1, l1, H1, hcel⟩ := z7m (cv := ((ns.zip (q6j ns.length vs dvs)).lookup ·)) a.hk Y (fun p hp q hq z => by
   have := (NC p hp).2.2
   rw [<- z, (a.nw q hq).1] at this
   exact zsn this) x.apart fun n hnn => by
     rw [hnm] at hnn
     have e : bindC (envOfC qual sc s.heap.objs.size f cdv).kindOf (q0z ns xs ds) (fun W0 => none) n = (q0z ns xs ds).reverse.lookup n := by
       refine rwm (z41 _ (hck n hnn) _ _) ?_; simp
     refine q1v ((ns.zip (q6j ns.length vs dvs)).lookup n) (fun q => ?_) fun v q => ?_
     . exact e.trans (j22 hr.length q)
     .
       refine e12 (zip_rel hr q :) fun y hy hv => ?_
       exact ⟨y, e.trans (q4c hn hy), hv⟩
 rw [hnm] at H1 hcel
 have a' : At c (P.inner (envOfC qual sc s.heap.objs.size f cdv) s.heap.objs.size (q6t ((ns.zip (q6j ns.length vs dvs)).lookup ·) names st)) g1 ((ns.zip (q6j ns.length vs dvs)).filter fun p => sc.names.lookup p.1 == some .local) (q5g ((ns.zip (q6j ns.length vs dvs)).lookup ·) names st) pv
     (bindL (envOfC qual sc s.heap.objs.size f cdv).kindOf (q0z ns xs ds) fun W0 => none) (bindL (envOfC qual sc s.heap.objs.size f cdv).kindOf (q0z ns xs ds) fun W0 => none) (cells ++ news) (hideAll s.heap (news.map (·.1))) h₁ := by
   refine ⟨a.ok.inner (z73 hPd) rfl hk rfl rfl, En.below, En.dicts, ⟨x.toInCall.ns, fun b o e => hk₁ b o (En.of b o e), Nat.le_of_eq En.size⟩, fun p hp => ?_, H1, fun y v e => ?_, hcel, .inl ⟨rfl, rfl⟩⟩
   . rcases List.mem_append.mp hp with hp | hp
     . refine ⟨(NC p hp).1, (NC p hp).2.1, ?_⟩
       cases q : (hideAll s.heap (news.map (·.1))).get? p.1 with
       | none => rfl
       | some o => have := of_hideAll _ q; rw [(NC p hp).2.2] at this; exact zns this
     . exact ⟨hk₁ _ _ (a.nw p hp).1, Nat.ne_of_lt (a.ltSize p hp), En.out p hp⟩
   . rw [q7y (fun k => sc.names.lookup k == some .local)] at e
     by_cases q : (sc.names.lookup y == some .local) = true
     . rw [if_pos q] at e
       refine e12 (zip_rel hr e :) fun z hz hv => ?_
       refine ⟨z, ?_, hv.mono l1⟩
       refine rwm (z42 _ (eq_of_beq q) _ _) ?_
       have := q4c hn hz
       unfold q0z
       refine rwm this ?_
       rfl
     . rw [if_neg q] at e; exact zns e
 refine hb (P.inner (envOfC qual sc s.heap.objs.size f cdv) s.heap.objs.size _) (z06 hPd) hPt hPn rfl rfl rfl rfl g1 pv _ _ _ { s with heap := h₁, toks := tk } _ _ a' ⟨fun g' m' news' h0' h' tk x b ρ' st' l v a₁ r q => ?_, fun W0 W0 W0 W0 W0 W0 W0 W0 W0 W0 W0 x => x.elim⟩
 refine e16 (En.leave h0' h' _ m' news' v.turn a₁.fr a₁.nw :) fun h0'' T1 T2 F N B D => ?_
 have l' := l1.trans l
 have a₂ := a.after B D F N a₁.hk l'
 have mv : Mv P h0 h0'' := ⟨T1, fun e => T2 (v.same e)⟩
 cases r with
 | ret hr => exact K.ok g' news' h0'' h' tk _ _ st' l' mv a₂ hr q
 | next => exact K.ok g' news' h0'' h' tk _ _ st' l' mv a₂ .none q
 | brk => exact K.ok g' news' h0'' h' tk _ _ st' l' mv a₂ .none q
 | cont => exact K.ok g' news' h0'' h' tk _ _ st' l' mv a₂ .none q
theorem q8w {prog : Program} {w : World} {A : Around} {s : Shared} {elt iter tgt : Expr} {ifs : List Expr} {scope : Scope} {pos : Pos} {it acc : Value} {env : Env} {R : Result -> Shared -> Prop} (I : Nat -> Shared -> Prop)
   (turn : ∀ n s, I n s -> wpAny (model prog w) A (pyNext it) (fun r s₁ => match r with
     | none => R (.ok .next) s₁
     | some v => ifs = [] /\ wpAny (model prog w) A (letOwnedTupleGo tgt it v) (fun W0 s₁' => wpAny (model prog w) A (assign tgt env v) (fun W0 s₂ =>
         wpAny (model prog w) A (eval elt env) (fun x s₄ =>
             wpAny (model prog w) A (call (.builtin "list.append") [acc, x]) (fun W0 s₅ => ∃ m, m < n /\ I m s₅) (notedBy (model prog w) A env fun e s' => R (.error e) s') s₄) (notedBy (model prog w) A env fun e s' => R (.error e) s') s₂)
         (notedBy (model prog w) A env fun e s' => R (.error e) s') s₁') (notedBy (model prog w) A env fun e s' => R (.error e) s') s₁) (notedBy (model prog w) A env fun e s' => R (.error e) s') s)
   (n : Nat) (h : I n s) : codeAny (model prog w) A (.compLoop (.ListComp elt [⟨tgt, iter, ifs, 0⟩] scope pos) 0 it acc env) R s := by
 refine codeAny_loop rfl I (fun n s hI => ?_) n h
 show wpAny _ A ((compTurn (.ListComp elt [⟨tgt, iter, ifs, 0⟩] scope pos) 0 it acc env).onRaise (fun x => do noteFrame x env; theTreesLotGoes x)) _ _ s
 refine wpAny_noted ?_
 rw [compTurn_list]
 refine wpAny_bind (wpAny_standAt (wpAny_bind (wpAny_mono (turn n s hI) (fun r s₁ h₁ => ?_) fun W0 W0 h' => h')))
 induction r using Option.casesOn with
 | none => exact wpAny_pure h₁
 | some v =>
   obtain ⟨rfl, h₁⟩ := h₁
   refine wpAny_bind (wpAny_mono h₁ (fun W0 s₁' h₁' => ?_) fun W0 W0 h' => h')
   refine wpAny_bind (wpAny_mono h₁' (fun W0 s₂ h₂ => wpAny_bind (wpAny_mono (wpAny_tests_nil (Q := fun ok s₃ => ok = true /\ s₃ = s₂) ⟨rfl, rfl⟩) (fun ok s₃ h₃ => ?_) fun W0 W0 h' => h')) fun W0 W0 h' => h')
   refine rwm h₃.1 (rwm h₃.2 ?_)
   exact wpAny_bind (wpAny_bind (wpAny_mono h₂ (fun x s₄ h₄ => wpAny_bind (wpAny_mono h₄ (fun W0 s₅ h₅ => wpAny_pure (wpAny_pure ⟨rfl, h₅⟩)) fun W0 W0 h' => h')) fun W0 W0 h' => h'))
section
variable {c : Cx} {P : Pt} {ρ : Loc} {st : St} {g : Gh} {pv pv' news : List (Addr × Obj)} {m ns : Str -> Option Value} {h0 h h' : Heap}
theorem At.pvEqv (a : At c P g ρ st pv m ns news h0 h) (e : ∀ p, p ∈ pv' ↔ p ∈ pv) : At c P g ρ st pv' m ns news h0 h :=
 have H := a.hk
 ⟨a.ok, a.below, a.dicts, a.fr, a.nw, ⟨H.kni, fun p hp => H.pvi p ((e p).mp hp), H.own, fun n o x d h1 h2 => ⟨(H.off n o x d h1 h2).1, fun p hp => (H.off n o x d h1 h2).2 p ((e p).mp hp)⟩, H.apart, H.fin, fun p hp => H.pk p ((e p).mp hp)⟩,
   a.loc, a.cel, a.nsk.imp id fun ⟨oC, hm, hn⟩ => ⟨oC, (e _).mpr hm, hn⟩⟩
theorem At.forget (a : At c P g ρ st pv m ns news h0 h) : At c P g [] st pv m ns news h0 h := ⟨a.ok, a.below, a.dicts, a.fr, a.nw, a.hk, fun x v e => (nomatch e), a.cel, a.nsk⟩
theorem At.pvTurn {I : Addr} {o o' : Obj} (a : At c P g ρ st ((I, o) :: pv) m ns news h0 h) (hne : P.env.locals ≠ I) (hk : ∀ b ob, b ≠ I -> h.get? b = some ob -> h'.get? b = some ob) (ho : h'.get? I = some o') (hd : ∀ p ∈ pv, p.1 ≠ I) :
   At c P g ρ st ((I, o') :: pv) m ns ((I, o') :: q7i I news) h0 h' := by
 have hI := a.nw _ (a.hk.pvi _ (.head _))
 refine ⟨a.ok, a.below, a.dicts, Fr.butI a.fr hI.2.1 hI.2.2 hk, fun p hp => ?_, a.hk.pvSet hd, a.loc, a.cel, a.nsk.imp id fun ⟨oC, hm, hn⟩ => ⟨oC, ?_, hn⟩⟩
 . rcases mc hp with rfl | hp
   . exact ⟨ho, hI.2⟩
   . obtain ⟨h4, h5⟩ := q0k.mp hp
     exact ⟨hk _ _ h5 (a.nw p h4).1, (a.nw p h4).2⟩
 . rcases mc hm with hm | hm
   . exact absurd (congrArg Prod.fst hm) hne
   . exact .tail _ hm
theorem At.storeK {C : Addr} {oC : Obj} {s : Shared} {x : Str} {v : V} {y : Value} {Qm : Unit -> Shared -> Prop} {E : Value -> Shared -> Prop} (a : At c P g ρ st ((C, oC) :: pv) m ns news h0 s.heap) (hC : P.env.locals = C) (hn : LCg.NsObj oC ns) (hd : ∀ p ∈ pv, p.1 ≠ C) (hk : P.env.kindOf x = some .local) (hv : VR c g v y)
   (k : ∀ oC' ns' news' h', At c P g (ρ.put x v) st ((C, oC') :: pv) m ns' news' h0 h' -> LCg.NsObj oC' ns' -> Qm () { s with heap := h', toks := s.toks + 1 }) : wpAny (model c.prog c.w) P.A (storeName P.env x y) Qm E s := by
 have hCn := a.nw _ (a.hk.pvi _ (.head _))
 subst hC
 refine wpAny_storeName_local hk (hn.ns hCn.1) (fun h' hn' hs => ?_) (by refine rwm a.ok.kf ?_; rfl)
 refine e12 (LCg.ns_obj hn' :) fun oC' heC hoC => ?_
 have hk' : ∀ b ob, b ≠ P.env.locals -> s.heap.get? b = some ob -> h'.get? b = some ob := fun b ob hb e => (hs.2 b hb).trans e
 refine k oC' _ _ h' ⟨a.ok, a.below, a.dicts, Fr.butI a.fr hCn.2.1 hCn.2.2 hk', fun p hp => ?_, a.hk.pvSet hd, fun z w e => ?_, a.cel, .inr ⟨oC', .head _, hoC⟩⟩ hoC
 . rcases mc hp with rfl | hp
   . exact ⟨heC, hCn.2⟩
   . obtain ⟨h4, h5⟩ := q0k.mp hp
     exact ⟨hk' _ _ h5 (a.nw p h4).1, (a.nw p h4).2⟩
 . unfold Loc.put at e
   rw [q1b] at e
   by_cases q : z = x
   . subst q
     simp only [beq_self_eq_true, if_true, Option.some.injEq] at e
     subst e
     exact ⟨y, if_pos rfl, hv⟩
   . have q' : (z == x) = false := by simpa using q
     rw [q'] at e
     refine e12 (a.loc z w e :) fun y' h1 h2 => ?_
     refine ⟨y', ?_, h2⟩
     have : ns = ns := rfl
     refine rwm (if_neg q) ?_
     exact h1
end
noncomputable def Pt.comp (P : Pt) (scope : Scope) (cl : List (Str × Addr)) (C : Addr) (cn : List (Str × Nat)) : Pt := { P with env := compEnvC scope cl C P.env, cn := cn, tn := false }
theorem POk.comp {c : Cx} {P : Pt} (ok : POk c P) {scope : Scope} {cl : List (Str × Addr)} {C : Addr} {cn : List (Str × Nat)} (hk : scope.kind = .function) : POk c (P.comp scope cl C cn) :=
 ⟨ok.hA, ok.hf, hk, ok.kt, ok.gl, ok.bl, ok.XB, ok.TB, ok.HB, ok.depth, ok.units, ok.hand⟩
inductive TgtK (scope : Scope) : Expr -> V -> Loc -> Prop
 | name {x : Str} {p : Pos} {v : V} : scope.names.lookup x = some .local -> TgtK scope (.Name x p) v [(x, v)]
 | pair {x y : Str} {p q r : Pos} {k : Nat} {v w : V} : scope.names.lookup x = some .local -> scope.names.lookup y = some .local -> TgtK scope (.Tuple [.Name x p, .Name y q] k r) (.tup [v, w]) (Loc.put [(x, v)] y w)
section
variable {c : Cx} {P : Pt} {st : St} {g : Gh} {pv news : List (Addr × Obj)} {m ns : Str -> Option Value} {h0 : Heap} {s : Shared}
theorem x2h {scope : Scope} {cl : List (Str × Addr)} {C : Addr} {cn : List (Str × Nat)} {tgt : Expr} {v : V} {ρ₁ : Loc} {x : Value} {oC : Obj} {Qm : Unit -> Shared -> Prop} {E : Value -> Shared -> Prop} (T : TgtK scope tgt v ρ₁) (hn : P.nh = true)
   (a : At c (P.comp scope cl C cn) g [] st ((C, oC) :: pv) m ns news h0 s.heap) (hN : LCg.NsObj oC ns) (hd : ∀ p ∈ pv, p.1 ≠ C) (hv : VR c g v x)
   (k : ∀ oC' ns' news' h' tk, At c (P.comp scope cl C cn) g ρ₁ st ((C, oC') :: pv) m ns' news' h0 h' -> LCg.NsObj oC' ns' -> Qm () { s with heap := h', toks := tk }) : wpAny (model c.prog c.w) (P.comp scope cl C cn).A (assign tgt (compEnvC scope cl C P.env) x) Qm E s := by
 cases T with
 | name hx => exact wpAny_assign_Name (a.storeK rfl hN hd (lookup_relabel_local hx) hv fun oC' ns' news' h' a' hN' => k oC' ns' news' h' _ a' hN')
 | pair hx hy =>
   (refine e33 hv.tupI fun b its kk r => ?_; refine rwm r ?_; intro hh hr)
   (refine e23 hr.twoI fun x1 x2 r => ?_; subst r; intro r1 r2)
   refine assign_Tuple_tuple (a.ok.hand hn) (items := #[x1, x2]) ⟨_, a.get hh, rfl, kk, rfl⟩ rfl rfl fun h' he => ?_
   have a1 := a.extBut he
   refine assignInOrder_cons (wpAny_assign_Name (At.storeK (s := { s with heap := h' }) a1 rfl hN hd (lookup_relabel_local hx) r1 fun oC1 ns1 news1 h1 a2 hN1 => ?_))
   exact assignInOrder_cons (wpAny_assign_Name (At.storeK (s := { s with heap := h1, toks := s.toks + 1 }) a2 rfl hN1 hd (lookup_relabel_local hy) r2 fun oC2 ns2 news2 h2 a3 hN2 => assignInOrder_nil (k oC2 ns2 news2 h2 _ a3 hN2)))
end
noncomputable def LcP (c : Cx) (P : Pt) (scope : Scope) (cn : List (Str × Nat)) (elt tgt : Expr) (Q : V -> St -> Prop) (vs : List V) : List V -> St -> Prop :=
 List.rec (motive := fun W0 => List V -> St -> Prop) (fun ys st => Q (.lst ys) st) (fun v W0 ih ys st => ∃ ρ₁, TgtK scope tgt v ρ₁ /\ ∀ cl C, EvE c (P.comp scope cl C cn) ρ₁ st elt (fun y st₁ => ih (ys ++ [y]) st₁) noX) vs
noncomputable abbrev Pin := Option (Nat × List (List Z × V) × List DictEntry × Nat)
noncomputable def z2w (st : St) : Pin -> Prop
 | none => True
 | some (n, xs, es, k) => st.get n = some (.tab xs (some (es, k)))
theorem At.pinned {c : Cx} {P : Pt} {ρ : Loc} {st : St} {g : Gh} {pv news : List (Addr × Obj)} {m ns : Str -> Option Value} {h0 h : Heap} (a : At c P g ρ st pv m ns news h0 h) {n : Nat} {xs : List (List Z × V)} {es : List DictEntry} {k : Nat} {b : Addr} (e : st.get n = some (.tab xs (some (es, k)))) (hp : g.pl n = some (b, b)) : h.get? b = some (dictOf es k) := by
 refine e22 (a.hk.own n _ e :) fun b1 d1 h1 r1 => ?_
 rw [hp] at h1
 cases h1
 obtain ⟨_, es', k', hm, hr, hq⟩ := r1.tabI
 cases hq _ rfl
 exact (a.nw _ hm).1
structure ItIx (c : Cx) (P : Pt) (g : Gh) (I : Addr) (vs : List V) (n : Nat) (fp : List Addr) (Pv : Nat -> Value -> Prop) (S : Nat -> Heap -> Prop) (pn : Pin) : Prop where
 W : Walks c.prog c.w P.A I fp [I] n Pv S
 len : n = vs.length
 val : ∀ i v x, vs[i]? = some v -> Pv i x -> VR c g v x
 foot : ∀ b ∈ fp, b = I \/ (∃ o, Has c g b o) \/ ∃ n xs es k, pn = some (n, xs, es, k) /\ g.pl n = some (b, b)
 live : ∀ i h, S i h -> ∃ o, h.get? I = some o
 go : ∀ i (s' : Shared) tgt v (Q' : Unit -> Shared -> Prop) (E : Value -> Shared -> Prop), S i s'.heap -> Q' () s' -> wpAny (model c.prog c.w) P.A (letOwnedTupleGo tgt (.ref I) v) Q' E s'
theorem ItIs.ix {c : Cx} {P : Pt} {g : Gh} {I : Addr} {vs : List V} {n : Nat} {fp : List Addr} {Pv : Nat -> Value -> Prop} {S : Nat -> Heap -> Prop} (x : ItIs c P g I vs n fp Pv S) : ItIx c P g I vs n fp Pv S none :=
 ⟨x.W, x.len, x.val, fun b hb => (x.foot b hb).imp id .inl, x.live, x.go⟩
noncomputable def LcQ (c : Cx) (P : Pt) (scope : Scope) (cn : List (Str × Nat)) (elt tgt : Expr) (Q : V -> St -> Prop) (pn : Pin) (vs : List V) : List V -> St -> Prop :=
 List.rec (motive := fun W0 => List V -> St -> Prop) (fun ys st => Q (.lst ys) st) (fun v W0 ih ys st => ∃ ρ₁, TgtK scope tgt v ρ₁ /\ ∀ cl C, EvE c (P.comp scope cl C cn) ρ₁ st elt (fun y st₁ => z2w st₁ pn /\ ih (ys ++ [y]) st₁) noX) vs
theorem LcP.q {c : Cx} {P : Pt} {scope : Scope} {cn : List (Str × Nat)} {elt tgt : Expr} {Q : V -> St -> Prop} : ∀ {vs ys : List V} {st : St}, LcP c P scope cn elt tgt Q vs ys st -> LcQ c P scope cn elt tgt Q none vs ys st := by
 intro vs
 induction vs with
 | nil => intro _ _ h; exact h
 | cons v vs ih => intro _ _ h; exact e12 (h :) fun ρ t h => ⟨ρ, t, fun cl C => (h cl C).mono fun W0 W0 q => ⟨trivial, ih q⟩⟩
section
variable {c : Cx} {P : Pt} {ρ : Loc} {st : St} {X : Exc}
theorem z0y (A : Str -> Addr) {x : Str} {n : Nat} {cn : List (Str × Nat)} (h : cn.lookup x = some n) : (cn.map fun p => (p.1, A p.1)).lookup x = some (A x) := by
 induction cn with
 | nil => exact zns h
 | cons p cn ih =>
   change (match x == p.1 with | true => some p.2 | false => cn.lookup x) = some n at h
   show (match x == p.1 with | true => some (A p.1) | false => (cn.map fun p => (p.1, A p.1)).lookup x) = some (A x)
   refine q27 (x == p.1) (fun e => ?_) fun e => ?_
   . refine rwm e ?_; refine rwm (eq_of_beq e) ?_; rfl
   . rw [e] at h; refine rwm e ?_; exact ih h
theorem z3r {x : Str} {n : Nat} {cn : List (Str × Nat)} (h : cn.lookup x = some n) : (x, n) ∈ cn := q0l h
theorem At.butC {g : Gh} {pv news : List (Addr × Obj)} {m ns : Str -> Option Value} {h0 h h' : Heap} {C : Addr} (a : At c P g ρ st pv m ns news h0 h) (hC : ∀ p ∈ news, p.1 ≠ C) (hL : C ≠ P.L) (h0C : h0.get? C = none) (hk : ∀ b ob, b ≠ C -> h.get? b = some ob -> h'.get? b = some ob) : At c P g ρ st pv m ns news h0 h' :=
 ⟨a.ok, a.below, a.dicts, Fr.butI a.fr hL h0C hk, fun p hp => ⟨hk _ _ (hC p hp) (a.nw p hp).1, (a.nw p hp).2⟩, a.hk, a.loc, a.cel, a.nsk⟩
theorem rot3 {α : Type} {x y z : α} {l : List α} (p : α) : p ∈ z :: x :: y :: l ↔ p ∈ x :: y :: z :: l := by
 rw [List.mem_cons, List.mem_cons, List.mem_cons, List.mem_cons, List.mem_cons, List.mem_cons]
 exact ⟨fun h => h.elim (fun h => .inr (.inr (.inl h))) (fun h => h.elim .inl fun h => h.elim (fun h => .inr (.inl h)) fun h => .inr (.inr (.inr h))), fun h => h.elim (fun h => .inr (.inl h)) fun h => h.elim (fun h => .inr (.inr (.inl h))) fun h => h.elim .inl fun h => .inr (.inr (.inr h))⟩
theorem rot2 {α : Type} {x y : α} {l : List α} (p : α) : p ∈ y :: x :: l ↔ p ∈ x :: y :: l := by
 rw [List.mem_cons, List.mem_cons, List.mem_cons, List.mem_cons]
 exact or_left_comm
theorem q2a {Y : Addr} {p : Addr × Obj} {l : List (Addr × Obj)} (h1 : p.1 ≠ Y) (h2 : ∀ q ∈ l, q.1 ≠ Y) : ∀ q ∈ p :: l, q.1 ≠ Y := fun q hq => (mc hq).elim (fun e => e ▸ h1) (h2 q)
theorem At.back {ρ' : Loc} {g g1 g' : Gh} {pv pv1 pv' news news' : List (Addr × Obj)} {m ns ns' : Str -> Option Value} {h0 h h2 : Heap} {st1 st' : St} {scope : Scope} {cl : List (Str × Addr)} {C : Addr} {cn : List (Str × Nat)} (a : At c P g ρ st pv m ns news h0 h) (b : At c (P.comp scope cl C cn) g1 ρ' st1 pv1 m ns' news' h0 h2) (H : HK c g' st' pv' news') (l : g.le g') (sub : ∀ o, (P.env.locals, o) ∈ pv -> (P.env.locals, o) ∈ pv') : At c P g' ρ st' pv' m ns news' h0 h2 :=
 ⟨a.ok, b.below, b.dicts, b.fr, b.nw, H, fun x v e => (a.loc x v e).imp fun y q => ⟨q.1, q.2.mono l⟩, fun x n e => (a.cel x n e).imp fun b q => ⟨q.1, l.pl _ _ q.2⟩, a.nsk.imp id fun q => q.imp fun oX q => ⟨sub _ q.1, q.2⟩⟩
theorem q83 {P1 P2 : Pt} {ρ1 ρ2 : Loc} {st1 st2 : St} {g₀ g1 g2 : Gh} {pv1 pv2 news1 news2 : List (Addr × Obj)} {m1 m2 ns1 ns2 : Str -> Option Value} {h01 h02 hA hB : Heap} {I b : Addr} {oI ob : Obj} {pn : Pin} (a1 : At c P1 g1 ρ1 st1 pv1 m1 ns1 news1 h01 hA) (a2 : At c P2 g2 ρ2 st2 pv2 m2 ns2 news2 h02 hB) (i1 : (I, oI) ∈ pv1) (i2 : (I, oI) ∈ pv2) (l1 : g₀.le g1) (l2 : g₀.le g2) (p1 : z2w st1 pn) (p2 : z2w st2 pn)
   (hf : b = I \/ (∃ o, Has c g₀ b o) \/ ∃ n xs es k, pn = some (n, xs, es, k) /\ g₀.pl n = some (b, b)) (e : hA.get? b = some ob) : hB.get? b = some ob := by
 rcases hf with h | ⟨ob', hh⟩ | ⟨nn, xs', es', k', hpe, hpl⟩
 . rw [h] at e ⊢
   exact ((a2.nw _ (a2.hk.pvi _ i2)).1.trans (a1.nw _ (a1.hk.pvi _ i1)).1.symm).trans e
 . exact ((a2.get (hh.mono l2)).trans (a1.get (hh.mono l1)).symm).trans e
 . rw [hpe] at p1 p2
   exact ((a2.pinned p2 (l2.pl _ _ hpl)).trans (a1.pinned p1 (l1.pl _ _ hpl)).symm).trans e
inductive LcInv (c : Cx) (P : Pt) (scope : Scope) (cl : List (Str × Addr)) (C D I : Addr) (cn : List (Str × Nat)) (elt tgt : Expr) (QV : V -> St -> Prop) (pn : Pin) (vs : List V) (g : Gh) (S : Nat -> Heap -> Prop) (s : Shared) (pv : List (Addr × Obj)) (m : Str -> Option Value) (h0 : Heap) (k : Nat) (s' : Shared) : Prop
 | mk (h' : Heap) (tk i : Nat) (g' : Gh) (st' : St) (news' : List (Addr × Obj)) (oI oC : Obj) (ns' : Str -> Option Value) (ys : List Value) (ysV : List V) (e : s' = { s with heap := h', toks := tk }) (hi : i + k = vs.length) (lg : g.le g') (a : At c (P.comp scope cl C cn) g' [] st' ((C, oC) :: (D, LCg.lst ys) :: (I, oI) :: pv) m ns' news' h0 h') (hN : LCg.NsObj oC ns') (Si : S i h') (hys : VRs c g' ysV ys) (hlen : ys.length = i) (hp : z2w st' pn) (hq : LcQ c P scope cn elt tgt QV pn (vs.drop i) ysV st')
section
variable {elt tgt iter : Expr} {ifs : List Expr} {scope : Scope} {pos : Pos} {cn : List (Str × Nat)} {cl : List (Str × Addr)} {vs : List V} {I C D : Addr} {n : Nat} {fp : List Addr} {Pv : Nat -> Value -> Prop} {S : Nat -> Heap -> Prop} {g₀ : Gh} {QV : V -> St -> Prop} {RR : Value -> Addr -> Result -> Shared -> Prop}
   {g : Gh} {pn : Pin} {pv news : List (Addr × Obj)} {m ns : Str -> Option Value} {h0 : Heap} {s s' : Shared} {o : Obj} {k : Nat}
theorem x1b (It : ItIx c P g₀ I vs n fp Pv S pn) (a : At c P g ρ st ((I, o) :: pv) m ns news h0 s.heap) (hne : P.env.locals ≠ I) (hdI : ∀ p ∈ pv, p.1 ≠ I) (hDC : D ≠ C) (hIC : I ≠ C) (hID : I ≠ D) (pvC : ∀ p ∈ pv, p.1 ≠ C) (pvD : ∀ p ∈ pv, p.1 ≠ D) (hCL : C ≠ P.L) (h0C : h0.get? C = none)
   (hRR : ∀ g' D C mC news' h' tk ys st', g.le g' -> At c P g' ρ st' pv m ns news' h0 h' -> VR c g' (.lst ys) (.ref D) -> QV (.lst ys) st' -> h'.Ns C mC -> (∀ p ∈ news', p.1 ≠ C) -> C ≠ P.L -> h0.get? C = none -> RR (.ref D) C (.ok .next) { s with heap := h', toks := tk })
   (hI : LcInv c P scope cl C D I cn elt tgt QV pn vs g S s pv m h0 0 s') {F : Option Value -> Shared -> Prop} (hF : ∀ s'', RR (.ref D) C (.ok .next) s'' -> F none s'') {E : Value -> Shared -> Prop} : wpAny (model c.prog c.w) P.A (pyNext (.ref I)) F E s' := by
 obtain ⟨h', tk, i, g', st', news', oI, oC, ns', ys, ysV, rfl, hi, lg, a4, hN, Si, hys, hlen, hpn', hq⟩ := hI
 rw [show i = vs.length from hi] at hq Si
 rw [List.drop_length] at hq
 rw [<- It.len] at Si
 refine It.W.done _ _ _ Si fun h2 tk2 hk2 => hF _ ?_
 have hk2' : ∀ b ob, b ≠ I -> h'.get? b = some ob -> h2.get? b = some ob := fun b ob hb e => hk2 b ob (fun x => hb (List.mem_singleton.mp x)) e
 have b1 := (a4.pvEqv (pv' := (I, oI) :: (C, oC) :: (D, LCg.lst ys) :: pv) rot3).pvDrop (Ne.symm hIC) hk2' (q2a (Ne.symm hIC) (q2a (Ne.symm hID) hdI))
 have b3 := b1.pvEqv (pv' := (D, LCg.lst ys) :: (C, oC) :: pv) rot2
 obtain ⟨H, l5⟩ := b3.hk.pvFreeze (q2a (Ne.symm hDC) pvD)
 have hpv : ∀ o', (P.env.locals, o') ∈ (I, o) :: pv -> (P.env.locals, o') ∈ pv := fun o' hm => (mc hm).elim (fun e => absurd (congrArg Prod.fst e) hne) id
 have hlC : P.env.locals ≠ C := by
   rcases a.nsk with ⟨e, _⟩ | ⟨oX, hm, _⟩
   . refine rwm e ?_; exact Ne.symm hCL
   . exact pvC _ (hpv _ hm)
 have b4 := a.back b3 H (lg.trans l5) fun o' hm => .tail _ (hpv _ hm)
 have hCm := (b4.nw _ (b4.hk.pvi _ (.head _))).1
 exact hRR _ _ C ns' _ h2 tk2 ysV st' (lg.trans l5) (b4.pvDrop hlC (fun W0 W0 W0 e => e) pvC) (.lst (.inl (.head _)) (hys.mono l5)) hq (hN.ns hCm) q34 hCL h0C
theorem j6i (It : ItIx c P g₀ I vs n fp Pv S pn) (hpn : z2w st pn) (hif : ifs = [] \/ vs = []) (hnh : P.nh = true) (hsz : vs.length <= sizeLine) (l0 : g₀.le g) (a : At c P g ρ st ((I, o) :: pv) m ns news h0 s.heap) (hne : P.env.locals ≠ I) (hdI : ∀ p ∈ pv, p.1 ≠ I) (hDC : D ≠ C) (hIC : I ≠ C) (hID : I ≠ D) (pvC : ∀ p ∈ pv, p.1 ≠ C) (pvD : ∀ p ∈ pv, p.1 ≠ D) (hCL : C ≠ P.L) (h0C : h0.get? C = none) (hD : s.heap.get? D = none) (hDn : ∀ p ∈ news, p.1 ≠ D)
   (hRR : ∀ g' D C mC news' h' tk ys st', g.le g' -> At c P g' ρ st' pv m ns news' h0 h' -> VR c g' (.lst ys) (.ref D) -> QV (.lst ys) st' -> h'.Ns C mC -> (∀ p ∈ news', p.1 ≠ C) -> C ≠ P.L -> h0.get? C = none -> RR (.ref D) C (.ok .next) { s with heap := h', toks := tk })
   (hI : LcInv c P scope cl C D I cn elt tgt QV pn vs g S s pv m h0 vs.length s') :
   codeAny (model c.prog c.w) P.A (.compLoop (.ListComp elt [⟨tgt, iter, ifs, 0⟩] scope pos) 0 (.ref I) (.ref D) (compEnvC scope cl C P.env)) (RR (.ref D) C) s' := by
 refine q8w (LcInv c P scope cl C D I cn elt tgt QV pn vs g S s pv m h0) (fun k s1 hT => ?_) vs.length hI
 induction k using Nat.casesOn with
 | zero => exact x1b It a hne hdI hDC hIC hID pvC pvD hCL h0C hRR hT (fun W0 h => h)
 | succ k =>
   obtain ⟨h', tk, i, g', st', news', oI, oC, ns', ys, ysV, rfl, hi, lg', a4, hN, Si, hys, hlen, hpn', hq⟩ := hT
   have hlt : i < vs.length := hi ▸ Nat.lt_add_of_pos_right (Nat.succ_pos k)
   rw [List.drop_eq_getElem_cons hlt] at hq
   refine e12 hq fun ρ₁ T hE => ?_
   refine It.W.item i _ _ _ (by refine rwm It.len ?_; exact hlt) Si fun x h2 tk2 hx S2 hk2 => ?_
   obtain ⟨o2, ho2⟩ := It.live _ _ S2
   have hk2' : ∀ b ob, b ≠ I -> h'.get? b = some ob -> h2.get? b = some ob := fun b ob hb e => hk2 b ob (fun x => hb (List.mem_singleton.mp x)) e
   have b2 := ((a4.pvEqv (pv' := (I, oI) :: (C, oC) :: (D, LCg.lst ys) :: pv) rot3).pvTurn (Ne.symm hIC) hk2' ho2 (q2a (Ne.symm hIC) (q2a (Ne.symm hID) hdI))).pvEqv (pv' := (C, oC) :: (D, LCg.lst ys) :: (I, o2) :: pv) fun p => (rot3 p).symm
   have l1 := l0.trans lg'
   refine ⟨hif.elim id fun e => (by rw [e] at hlt; exact absurd hlt (Nat.not_lt_zero _)), It.go (i + 1) _ _ _ _ _ S2 ?_⟩
   refine x2h (s := { s with heap := h2, toks := tk2 }) T hnh b2 hN (q2a hDC (q2a hIC pvC)) ((It.val i _ x (List.getElem?_eq_getElem hlt) hx).mono l1) fun oC3 ns3 news3 h3 tk3 b3 hN3 => ?_
   have S3 : S (i + 1) h3 := It.W.frame _ _ _ S2 fun b hb ob e => q83 b2 b3 (.tail _ (.tail _ (.head _))) (.tail _ (.tail _ (.head _))) l1 l1 hpn' hpn' (It.foot b hb) e
   refine hE cl C g' _ m ns3 news3 h0 { s with heap := h3, toks := tk3 } () _ _ b3 trivial ⟨fun g4 news4 h04 h4 tk4 y yV st4 l4 v4 b4 r4 q4 => ?_, fun W0 W0 W0 W0 W0 W0 W0 W0 W0 W0 x => x.elim⟩
   obtain rfl : h04 = h0 := v4.same rfl
   have S4 : S (i + 1) h4 := It.W.frame _ _ _ S3 fun b hb ob e => q83 b3 b4 (.tail _ (.tail _ (.head _))) (.tail _ (.tail _ (.head _))) l1 (l1.trans l4) hpn' q4.1 (It.foot b hb) e
   have zD := (b4.nw _ (b4.hk.pvi (D, LCg.lst ys) (.tail _ (.head _)))).1
   refine append_at (hsz := by show ys.toArray.size <= sizeLine; (refine rwm List.size_toArray ?_; refine rwm hlen ?_); exact Nat.le_trans (Nat.le_of_lt hlt) hsz) zD fun h5 hs5 hD5 => ?_
   have hk5 : ∀ b ob, b ≠ D -> h4.get? b = some ob -> h5.get? b = some ob := fun b ob hb e => (hs5.2 b hb).trans e
   have b6 := ((b4.pvEqv (pv' := (D, LCg.lst ys) :: (C, oC3) :: (I, o2) :: pv) rot2).pvTurn (o' := LCg.lst (ys ++ [y])) (h' := h5) (Ne.symm hDC) hk5 (hD5.trans (congrArg some (LCg.lst_snoc ys y))) (q2a (Ne.symm hDC) (q2a hID pvD))).pvEqv (pv' := (C, oC3) :: (D, LCg.lst (ys ++ [y])) :: (I, o2) :: pv) rot2
   have S5 : S (i + 1) h5 := It.W.frame _ _ _ S4 fun b hb ob e => hk5 b ob (fun q => by
     rw [q] at hb
     rcases It.foot _ hb with q | ⟨ob', hh | hh⟩ | ⟨nn, xs', es', k', hpe, hpl⟩
     . exact hID q.symm
     . exact hDn _ (a.hk.kni _ (l0.kn _ hh)) rfl
     . exact zns (hD.symm.trans (a.fr.keep _ _ (a.below.stays _ _ (a.ok.HB _ _ hh))))
     . rw [hpe] at hpn
       exact zns (hD.symm.trans (a.pinned hpn (l0.pl _ _ hpl)))) e
   exact ⟨k, Nat.lt_succ_self _, ⟨h5, _, i + 1, g4, st4, _, o2, oC3, ns3, ys ++ [y], ysV ++ [yV], rfl, (Nat.succ_add i k).trans hi, lg'.trans l4, b6.forget, hN3, S5, (hys.mono l4).append (.cons r4 .nil), by (refine rwm List.length_append ?_; refine rwm hlen ?_); rfl, q4.1, q4.2⟩⟩
end
theorem q44 {elt tgt iter : Expr} {ifs : List Expr} {scope : Scope} {pos : Pos} {cn : List (Str × Nat)} {cl : List (Str × Addr)} {vs : List V} {I : Addr} {n : Nat} {fp : List Addr} {Pv : Nat -> Value -> Prop} {S : Nat -> Heap -> Prop} {g₀ : Gh} {QV : V -> St -> Prop} {RR : Value -> Addr -> Result -> Shared -> Prop} {E1 E2 : Value -> Shared -> Prop}
   {g : Gh} {pn : Pin} {pv news : List (Addr × Obj)} {m ns : Str -> Option Value} {h0 : Heap} {s : Shared} {o : Obj} (It : ItIx c P g₀ I vs n fp Pv S pn) (hpn : z2w st pn) (hif : ifs = [] \/ vs = []) (hnh : P.nh = true) (hsz : vs.length <= sizeLine) (hcell : ∀ y ∈ scope.names, y.2 ≠ .cell) (hkind : scope.kind = .function)
   (hcel : ∀ x k, cn.lookup x = some k -> ∃ a, cl.lookup x = some a /\ g.pl k = some (a, a)) (lg : g₀.le g) (a : At c P g ρ st ((I, o) :: pv) m ns news h0 s.heap) (hne : P.env.locals ≠ I) (S0 : S 0 s.heap) (hdI : ∀ p ∈ pv, p.1 ≠ I) (hq : LcQ c P scope cn elt tgt QV pn vs [] st)
   (hRR : ∀ g' D C mC news' h' tk ys st', g.le g' -> At c P g' ρ st' pv m ns news' h0 h' -> VR c g' (.lst ys) (.ref D) -> QV (.lst ys) st' -> h'.Ns C mC -> (∀ p ∈ news', p.1 ≠ C) -> C ≠ P.L -> h0.get? C = none -> RR (.ref D) C (.ok .next) { s with heap := h', toks := tk }) :
   wpAny (model c.prog c.w) P.A (newList []) (fun acc s₃ => wpAny (model c.prog c.w) P.A (newFunctionEnv scope P.env.globals cl [] P.env.qual none .none (some P.env)) (fun cenv s₄ =>
     codeAny (model c.prog c.w) P.A (.compStart (.ListComp elt [⟨tgt, iter, ifs, 0⟩] scope pos) 0 (.ref I) acc { cenv with scope := relabel scope P.env }) (RR acc cenv.locals) s₄) E1 s₃) E2 s := by
 refine wpAny_newObj_type (wpAny_newFunctionEnv hcell (fun y hy => absurd hy (List.not_mem_nil)) (fun h₁ hns₁ hsb₁ => ?_) hkind)
 generalize hH2 : s.heap.push { cls := .type "list", dict := none, data := .seq ([] : List Value).toArray } = H2 at hns₁ hsb₁ ⊢
 have hDC : s.heap.objs.size ≠ H2.objs.size := by (refine rwb hH2 ?_; refine rwm (Heap.size_push _ _) ?_); exact Nat.ne_of_lt (Nat.lt_succ_self _)
 have fresh : ∀ p ∈ news, p.1 ≠ s.heap.objs.size := fun p hp => Nat.ne_of_lt (a.ltSize p hp)
 have a1 : At c P g ρ st ((s.heap.objs.size, LCg.lst []) :: (I, o) :: pv) m ns ((s.heap.objs.size, LCg.lst []) :: news) h0 H2 := hH2 ▸ a.pvPush (a.fr.push _) (a.nw.push a.fr _) fresh
 have hD : s.heap.get? s.heap.objs.size = none := Heap.get?_none_of_le (Nat.le_refl _)
 have old1 : ∀ b ob, H2.get? b = some ob -> h₁.get? b = some ob := fun b ob e => hsb₁.extBut b ob (Nat.ne_of_lt (Heap.lt_size e)) (Heap.get?_push_of_some _ e)
 refine e12 (LCg.ns_obj hns₁ :) fun oC heC hoC => ?_
 have hCL : H2.objs.size ≠ P.L := Nat.ne_of_gt a1.fr.ns.lt
 have h0C : h0.get? H2.objs.size = none := by
   refine q1v (h0.get? H2.objs.size) (fun q => ?_) fun ob q => ?_
   . rfl
   . exact absurd (Heap.lt_size (a1.fr.keep _ _ q)) (Nat.lt_irrefl _)
 have fresh1 : ∀ p ∈ (s.heap.objs.size, LCg.lst []) :: news, p.1 ≠ H2.objs.size := fun p hp => Nat.ne_of_lt (a1.ltSize p hp)
 have S1 : S 0 h₁ := It.W.frame _ _ _ S0 fun b W0 ob e => old1 b ob (hH2 ▸ Heap.get?_push_of_some _ e)
 generalize H2.objs.size = C at *
 have a2 := a1.pvPush (I := C) (o := oC) (a1.fr.keeps old1) (fun p hp => (mc hp).elim (fun e => e ▸ ⟨heC, hCL, h0C⟩) fun hp => ⟨old1 _ _ (a1.nw p hp).1, (a1.nw p hp).2⟩) fresh1
 have hIn : (I, o) ∈ news := a.hk.pvi _ (.head _)
 have loop := j6i (elt := elt) (tgt := tgt) (iter := iter) (pos := pos) (scope := scope) (cl := cl) (cn := cn) (D := s.heap.objs.size) It hpn hif hnh hsz lg a hne hdI hDC (fresh1 _ (.tail _ hIn)) (fresh _ hIn) (fun p hp => fresh1 _ (.tail _ (a.hk.pvi _ (.tail _ hp)))) (fun p hp => fresh _ (a.hk.pvi _ (.tail _ hp))) hCL h0C hD fresh hRR
   ⟨h₁, s.toks + ([] : List (Str × Value)).length, 0, g, st, _, o, oC, _, [], [], rfl, Nat.zero_add _, .rfl, ⟨a.ok.comp hkind, a2.below, a2.dicts, a2.fr, a2.nw, a2.hk, fun x v e => (nomatch e), hcel, .inr ⟨oC, .head _, hoC⟩⟩, hoC, S1, .nil, rfl, hpn, hq⟩
 exact codeAny_compStart_list loop (It.W.self 0 _ _ _ S1 loop)
end
section
variable {c : Cx} {P : Pt} {ρ : Loc} {st : St} {X : Exc}
structure LcOk (P : Pt) (scope : Scope) (iter : Expr) (cn : List (Str × Nat)) : Prop where
 hs : ∀ x, foldedSetIterable iter P.env x = pure x
 cell : ∀ y ∈ scope.names, y.2 ≠ .cell
 kind : scope.kind = .function
 names : ∀ x ∈ scope.names, x.2 = .local -> scope.names.lookup x.1 = some .local
 nh : P.nh = true
 up : ∀ p ∈ cn, P.cn.lookup p.1 = some p.2
 nd : ∀ p ∈ cn, cn.lookup p.1 = some p.2
 cl : ∀ A : Str -> Addr, (∀ p ∈ cn, P.env.cells.lookup p.1 = some (A p.1)) -> closureFor scope P.env = pure (cn.map fun p => (p.1, A p.1))
theorem LcOk.clos {scope : Scope} {iter : Expr} {cn : List (Str × Nat)} {g : Gh} {pv news : List (Addr × Obj)} {m ns : Str -> Option Value} {h0 h : Heap} (k : LcOk P scope iter cn) (a : At c P g ρ st pv m ns news h0 h) :
   ∃ cl, closureFor scope P.env = pure cl /\ ∀ x n, cn.lookup x = some n -> ∃ b, cl.lookup x = some b /\ g.pl n = some (b, b) := by
 have hb : ∀ p ∈ cn, ∃ b, P.env.cells.lookup p.1 = some b /\ g.pl p.2 = some (b, b) := fun p hp => a.cel p.1 p.2 (k.up p hp)
 refine ⟨_, k.cl (fun x => (P.env.cells.lookup x).getD 0) fun p hp => ?_, fun x n e => ?_⟩
 . obtain ⟨b, e, _⟩ := hb p hp
   refine rwm e ?_; rfl
 . refine e12 (hb _ (z3r e) :) fun b e1 e2 => ?_
   refine ⟨b, ?_, e2⟩
   refine (z0y (fun x => (P.env.cells.lookup x).getD 0) e).trans ?_
   dsimp only at e1 ⊢
   refine rwm e1 ?_; rfl
theorem ev_lc {elt tgt iter : Expr} {scope : Scope} {pos : Pos} {cn : List (Str × Nat)} {Q : V -> St -> Prop} (k : LcOk P scope iter cn)
   (h : EvE c P ρ st iter (fun v st₁ => ∃ vs, vs.length <= sizeLine /\ q4l c P v vs /\ LcP c P scope cn elt tgt Q vs [] st₁) X) : EvE c P ρ st (.ListComp elt [⟨tgt, iter, [], 0⟩] scope pos) Q X :=
 fun g pv m ns news h0 s W0 Qc Ec a W0 K => by
   refine e12 (k.clos a :) fun cl hclos hcel => ?_
   show wpAny _ _ (eval (.ListComp elt [⟨tgt, iter, [], 0⟩] scope pos) P.env) _ _ _
   rw [eval_ListComp]
   refine wpAny_comprehension_free (use := none) rfl k.hs hclos k.kind k.names (h.use a K fun g1 news1 h01 s1 x W0 st1 l1 a1 r1 q1 K1 => ?_)
   refine e13 q1 fun vs hsz hi hq => ?_
   refine hi _ _ _ _ _ _ _ _ s1 x _ _ a1 r1 fun I n fp Pv S o h' tk It S0 F N hf => ?_
   have hne : P.env.locals ≠ I := by
     rcases a1.nsk with ⟨e, _⟩ | ⟨oX, hm, _⟩
     . refine rwm e ?_; exact Ne.symm (N _ (.head _)).2.1
     . exact hf _ (a1.hk.pvi _ hm)
   refine q44 (s := { s1 with heap := h', toks := tk }) (g := g1) It.ix trivial (.inl rfl) k.nh hsz k.cell k.kind (fun x n e => by refine e12 (hcel x n e :) fun b e1 e2 => ?_; exact ⟨b, e1, l1.pl _ _ e2⟩) .rfl (a1.pvPush F N hf) hne S0 (fun p hp => hf p (a1.hk.pvi p hp)) hq.q fun g' D C mC news' h2 tk2 ys st' l' a2 r2 q2 hN hC hL h0C => ?_
   exact ⟨mC, hN, fun h3 hs3 => K1.ok g' _ h01 h3 tk2 _ _ st' l' .rfl (a2.butC hC hL h0C fun b ob hb e => (hs3.2 b hb).trans e) r2 q2⟩
theorem x0d {elt tgt iter : Expr} {ifs : List Expr} {scope : Scope} {pos : Pos} {cn : List (Str × Nat)} {Q : V -> St -> Prop} (k : LcOk P scope iter cn)
   (h : EvE c P ρ st iter (fun v st₁ => q4l c P v [] /\ Q (.lst []) st₁) X) : EvE c P ρ st (.ListComp elt [⟨tgt, iter, ifs, 0⟩] scope pos) Q X :=
 fun g pv m ns news h0 s W0 Qc Ec a W0 K => by
   refine e12 (k.clos a :) fun cl hclos hcel => ?_
   show wpAny _ _ (eval (.ListComp elt [⟨tgt, iter, ifs, 0⟩] scope pos) P.env) _ _ _
   rw [eval_ListComp]
   refine wpAny_comprehension_free (use := none) rfl k.hs hclos k.kind k.names (h.use a K fun g1 news1 h01 s1 x W0 st1 l1 a1 r1 q1 K1 => ?_)
   have hi := q1.1
   have hq := q1.2
   have hsz : ([] : List V).length <= sizeLine := Nat.zero_le _
   have hq : LcP c P scope cn elt tgt Q [] [] st1 := hq
   refine hi _ _ _ _ _ _ _ _ s1 x _ _ a1 r1 fun I n fp Pv S o h' tk It S0 F N hf => ?_
   have hne : P.env.locals ≠ I := by
     rcases a1.nsk with ⟨e, _⟩ | ⟨oX, hm, _⟩
     . refine rwm e ?_; exact Ne.symm (N _ (.head _)).2.1
     . exact hf _ (a1.hk.pvi _ hm)
   refine q44 (s := { s1 with heap := h', toks := tk }) (g := g1) It.ix trivial (.inr rfl) k.nh hsz k.cell k.kind (fun x n e => by refine e12 (hcel x n e :) fun b e1 e2 => ?_; exact ⟨b, e1, l1.pl _ _ e2⟩) .rfl (a1.pvPush F N hf) hne S0 (fun p hp => hf p (a1.hk.pvi p hp)) hq.q fun g' D C mC news' h2 tk2 ys st' l' a2 r2 q2 hN hC hL h0C => ?_
   exact ⟨mC, hN, fun h3 hs3 => K1.ok g' _ h01 h3 tk2 _ _ st' l' .rfl (a2.butC hC hL h0C fun b ob hb e => (hs3.2 b hb).trans e) r2 q2⟩
theorem q81 {elt tgt iter : Expr} {scope : Scope} {y : Str} {py pos spos : Pos} {cn : List (Str × Nat)} {Q : Fl -> Loc -> St -> Prop} (k : LcOk P scope iter cn) (hl : P.env.locals = P.L) (hy : P.env.kindOf y = some .local)
   (hsw : swapsWith (.ListComp elt [⟨tgt, iter, [], 0⟩] scope pos) (some (.Name y py)) spos.line P.env = pure true)
   (h : EvE c P ρ st iter (fun v st₁ => ∃ vs, vs.length <= sizeLine /\ q4l c P v vs /\ LcP c P scope cn elt tgt (fun w st₂ => Q .next (ρ.put y w) st₂) vs [] st₁) X) : Ex1 c P ρ st (.Assign [.Name y py] (.ListComp elt [⟨tgt, iter, [], 0⟩] scope pos) spos) Q X :=
 fun g pv m news h0 s Qc Ec a K => by
   refine e12 (k.clos a :) fun cl hclos hcel => ?_
   refine rwm (exec_Assign_Name_used _ _ _ _ hsw) ?_
   refine wpAny_bind (wpAny_standAt (wpAny_bind ?_))
   refine wpAny_bind (wpAny_mono (wpAny_comprehension_free (use := some (assign (.Name y py) P.env)) (Q := fun W0 s' => Qc .next s') rfl k.hs hclos k.kind k.names (h.useS a K fun g1 news1 h01 s1 x W0 st1 l1 a1 r1 q1 K1 => ?_)) (fun W0 s' hq => wpAny_pure (wpAny_pure hq)) fun W0 W0 e => e)
   refine e13 q1 fun vs hsz hi hq => ?_
   refine hi _ _ _ _ _ _ _ _ s1 x _ _ a1 r1 fun I n fp Pv S o h' tk It S0 F N hf => ?_
   have hne : P.env.locals ≠ I := by refine rwm hl ?_; exact Ne.symm (N _ (.head _)).2.1
   refine q44 (s := { s1 with heap := h', toks := tk }) (g := g1) It.ix trivial (.inl rfl) k.nh hsz k.cell k.kind (fun x n e => by refine e12 (hcel x n e :) fun b e1 e2 => ?_; exact ⟨b, e1, l1.pl _ _ e2⟩) .rfl (a1.pvPush F N hf) hne S0 (fun p hp => hf p (a1.hk.pvi p hp)) hq.q fun g' D C mC news' h2 tk2 ys st' l' a2 r2 q2 hN hC hL h0C => ?_
   refine wpAny_assign_Name (wpAny_storeName_local hy (hl ▸ a2.fr.ns) (fun h3 hn3 hs3 => ?_) (by refine rwm a2.ok.kf ?_; rfl))
   have a3 := a2.put hl r2 (hl ▸ hn3) (hl ▸ hs3)
   refine ⟨mC, hN.sameBut (hl ▸ hs3) hL, fun h4 hs4 => K1.ok g' _ _ h01 h4 _ _ _ _ st' l' .rfl (a3.butC hC hL h0C fun b ob hb e => (hs4.2 b hb).trans e) .next q2⟩
end
section
variable {c : Cx} {P : Pt} {ρ : Loc} {st : St} {X : Exc} {Q : V -> St -> Prop}
theorem z1v {b : List UInt8} {k : Nat} {pos : Pos} (q : Q (.bytes b) st) : EvE c P ρ st (.Constant (.bytes b) k pos) Q X :=
 fun W0 W0 W0 W0 W0 W0 W0 W0 W0 W0 a W0 K => Constant_bytes (K.now a (.bytes b _) q)
theorem VRs.rep {g : Gh} {vs : List V} {xs : List Value} (h : VRs c g vs xs) : ∀ n : Nat, VRs c g (List.replicate n vs).flatten (List.replicate n xs).flatten := by
 intro n
 induction n with
 | zero => exact .nil
 | succ n ih =>
   (refine rwm List.replicate_succ ?_; refine rwm List.replicate_succ ?_; refine rwm List.flatten_cons ?_; refine rwm List.flatten_cons ?_)
   exact h.append (ih)
theorem z9t {v : V} {vs : List V} {n : Int} (hv : q4k st vs v) (h1 : -(2 ^ 63 : Int) <= n) (h2 : n < 2 ^ 63) (hz : vs.length * n.toNat <= 256) (q : Q (.lst (List.replicate n.toNat vs).flatten) st) : q4z c P ρ st .Mult v (.int n) Q X := fun g W0 W0 W0 W0 W0 s p W0 W0 a hp K => by
 obtain ⟨x, y⟩ := p
 (refine e23 (a.lst hv hp.1 :) fun b its r => ?_; subst r; intro hb hr)
 obtain ⟨t, rfl⟩ := hp.2.intI
 refine KMa.mul a.fr a.nw hb h1 h2 (by refine rwm hr.length ?_; exact hz) rfl fun D h' F N l => ?_
 refine e13 (a.pushFrozen F N fun p hp => Nat.ne_of_lt (l p hp) :) fun g' l' a' hh => ?_
 exact K.here (tk := s.toks) l' a' (.lst hh ((VRs.rep hr _).mono l')) q
theorem x0e {e : Expr} {pos : Pos} (h : EvE c P ρ st e (fun v st₁ => ∃ i, v = .int i /\ Q (.int (-i)) st₁) X) : EvE c P ρ st (.UnaryOp .USub e pos) Q X :=
 fun W0 W0 W0 W0 W0 W0 W0 W0 W0 W0 a W0 K => wpAny_UnaryOp (h.use a K fun W0 W0 W0 s1 x W0 W0 W0 a' r q K' => by
   (refine e12 q fun i r => ?_; subst r; intro q)
   obtain ⟨t, rfl⟩ := r.intI
   exact PySem.P.neg_int (K'.now a' (.int _ _) q))
theorem q6g {ts : List Expr} {k : Nat} {e : Expr} {p pos : Pos} {x y : Str} {Q : Fl -> Loc -> St -> Prop} (hn : P.nh = true) (hl : P.env.locals = P.L) (hx : P.env.kindOf x = some .local) (hy : P.env.kindOf y = some .local)
   (hs : swapsWithSole [.Tuple ts k p] e pos.line P.env = pure false) (hw : swappedStores [.Tuple ts k p] e P.env = pure (some [x, y]))
   (h : EvE c P ρ st e (fun v st₁ => ∃ v1 v2, v = .tup [v1, v2] /\ Q .next ((ρ.put y v2).put x v1) st₁) X) : Ex1 c P ρ st (.Assign [.Tuple ts k p] e pos) Q X :=
 fun g pv m news h0 s Qc Ec a K => Assign_Tuple_swapped (h.useS a K fun g1 W0 W0 s1 z W0 W0 W0 a1 r1 q1 K1 => by
   (refine e22 q1 fun v1 v2 r => ?_; subst r; intro q)
   (refine e33 r1.tupI fun b its kk r => ?_; subst r; intro hh hr)
   (refine e23 hr.twoI fun x1 x2 r => ?_; subst r; intro e1 e2)
   refine unpackItems_tuple (items := #[x1, x2]) (a1.ok.hand hn) ⟨_, a1.get hh, rfl, kk, rfl⟩ fun h' he => ?_
   refine assignInOrder_cons (bindName_ (At.store (s := { s1 with heap := h' }) (a1.extBut he) hl hy e2 fun m2 h2 a2 => ?_))
   exact assignInOrder_cons (bindName_ (At.store (s := { s1 with heap := h2, toks := s1.toks + 1 }) a2 hl hx e1 fun m3 h3 a3 => assignInOrder_nil (K1.here (tk := s1.toks + 1 + 1) a3 .next q)))) hs hw
end
section
open PySem PySem.W PySem.Calls PyProof PyProof.Rows
section
variable {prog : Program} {w : World} {A : Around} {E : Value -> Shared -> Prop} {s : Shared}
theorem z4i (b n : Nat) (hb : b <= n) : Builtin.Slice.sliceAdjust none (some (b : Int)) 1 (n : Int) = (0, (b : Int)) := by
 exact congrArg (Prod.mk 0) ((if_neg (Int.not_lt.mpr (Int.natCast_nonneg b))).trans (Int.min_eq_left (Int.ofNat_le.mpr hb)))
theorem z75 (b : Nat) : Builtin.Slice.slicePlaces 0 (b : Int) 1 = b := by
 induction b using Nat.casesOn with
 | zero => rfl
 | succ b =>
 show (if (0 : Int) < ((b + 1 : Nat) : Int) then (((b + 1 : Nat) : Int) - 0 - 1) / 1 + 1 else 0).toNat = b + 1
 have e : (0 : Int) < ((b + 1 : Nat) : Int) := Int.ofNat_lt.mpr (Nat.succ_pos b)
 rw [if_pos e, Int.sub_zero, Int.ediv_one, Int.sub_add_cancel]
 rfl
theorem q57 {sl : Addr} {b n : Nat} {u : Tok} {Q : Int × Int × Nat -> Shared -> Prop} (hs : s.heap.IsSliceOf sl .none (.int b u) .none) (hb : b <= n) (h : Q (0, 1, b) s) :
   wpAny (model prog w) A (Builtin.Slice.sliceApplied (.ref sl) (pure (n : Int))) Q E s := by
 refine e13 (id hs :) fun os hos hcs hds => ?_
 unfold Builtin.Slice.sliceApplied Builtin.Slice.sliceFields
 refine wpAny_bind (wpAny_bind (wpAny_field hos hds (x := .none) rfl (wpAny_bind (wpAny_field hos hds (x := .int b u) rfl (wpAny_bind (wpAny_field hos hds (x := .none) rfl (wpAny_pure ?_)))))))
 refine wpAny_bind (slicePart_none ?_)
 refine rwm (if_neg (by decide)) ?_
 refine wpAny_bind (slicePart_none (wpAny_bind (slicePart_int (wpAny_bind (wpAny_pure ?_)))))
 refine rwm (z4i b n hb) ?_
 show wpAny _ _ (pure ((0 : Int), (1 : Int), Builtin.Slice.slicePlaces 0 (b : Int) 1)) _ _ s
 refine rwm (z75 b) ?_
 exact wpAny_pure h
theorem j7a (xs : Array Value) (b : Nat) : ((List.range b).filterMap fun (k : Nat) => xs[((0 : Int) + (k : Int) * 1).toNat]?).toArray = (xs.toList.take b).toArray := by
 have e : (fun (k : Nat) => xs[((0 : Int) + (k : Int) * 1).toNat]?) = fun k => xs[0 + k]? := by
   funext k
   have : ((0 : Int) + (k : Int) * 1).toNat = 0 + k := by rw [Int.mul_one, Int.zero_add, Nat.zero_add]; rfl
   (refine rwm this ?_; rfl)
 refine rwm e ?_
 have := pick_run xs 0 b
 rw [List.filterMap_map] at this
 have e2 : ((fun x => xs[x]?) ∘ fun x => 0 + x) = fun k => xs[0 + k]? := rfl
 rw [e2] at this
 (refine rwm this ?_; refine rwm List.drop_zero ?_; rfl)
theorem q4p {t sl : Addr} {items : Array Value} {b : Nat} {u : Tok} {Q : Value -> Shared -> Prop} (ht : IsTup s.heap t items) (hs : s.heap.IsSliceOf sl .none (.int b u) .none) (hb : b < items.size)
   (h : Q (.ref s.heap.objs.size) { s with heap := s.heap.push { cls := .type "tuple", data := .seq (items.toList.take b).toArray } })
   (hsz : items.size <= sizeLine := by size_fits) : wpAny (model prog w) A (getItem (.ref t) (.ref sl)) Q E s := by
 have hdrop : sizeOk (.seq (items.toList.take b).toArray) := by
   show (items.toList.take b).toArray.size <= sizeLine
   (refine rwm List.size_toArray ?_; refine rwm List.length_take ?_; refine rwm Array.length_toList ?_)
   exact Nat.le_trans (Nat.min_le_right _ _) hsz
 refine e13 (id hs :) fun os hos hcs hds => ?_
 have hTs : s.TypeIs (.ref sl) "slice" := ⟨os, hos, hcs⟩
 unfold getItem
 try with_reducible refine wpAny_holding ?_
 first | refine wpAny_bind (wpAny_pure ?_) | skip
 refine wpAny_bind (wpAny_sequenceKey ht.typeIs (by decide) ?_)
 refine wpAny_bind (wpAny_callSpecial?_slot (name := Str.ofString "__getitem__") ht.typeIs slot_tuple_getitem
   (wpAny_call_entry slot_tuple_getitem ht.typeIs entry_tuple_getitem ?_ (args_tuple_getitem _ _)))
 show wpAny _ _ (Builtin.Tuple.tupleItemsOf (.ref t) >>= _) _ _ s
 refine wpAny_bind (tupleItemsOf_ ht ?_)
 refine wpAny_bind (wpAny_typeOf hTs ?_)
 refine rwm (if_pos (by decide)) ?_
 refine wpAny_bind (q57 hs (Nat.le_of_lt hb) ?_)
 have hno : ¬ (((0 : Int) == 0 && (1 : Int) == 1 && b == items.size) = true) := by
   have : (b == items.size) = false := by rw [beq_eq_false_iff_ne]; exact Nat.ne_of_lt hb
   refine rwm this ?_; simp
 show wpAny _ _ (if ((0 : Int) == 0 && (1 : Int) == 1 && b == items.size) = true then _ else _) _ _ s
 (refine rwm (if_neg hno) ?_; refine rwm (j7a items b) ?_)
 first
   | exact wpAny_bind (m := Builtin.Tuple.tupleExact _) (wpAny_newObj_type (wpAny_pure ⟨_, rfl, wpAny_pure h⟩) hdrop)
   | exact wpAny_bind (m := Builtin.Tuple.tupleExact _) (wpAny_newObj_type (wpAny_bind (wpAny_pure (wpAny_pure ⟨_, rfl, wpAny_pure h⟩))) hdrop)
   | exact wpAny_bind (wpAny_bind (m := Builtin.Tuple.tupleExact _) (wpAny_newObj_type (wpAny_pure (wpAny_pure ⟨_, rfl, wpAny_pure h⟩)) hdrop))
   | exact wpAny_bind (wpAny_bind (m := Builtin.Tuple.tupleExact _) (wpAny_newObj_type (wpAny_pure ⟨_, rfl, wpAny_pure h⟩) hdrop))
end
section
variable {c : Cx} {P : Pt} {ρ : Loc} {st : St} {X : Exc} {Q : V -> St -> Prop}
theorem q9n {vs : List V} {a : Nat} (h1 : 1 <= a) (h2 : a <= vs.length) (hz : vs.length <= sizeLine) (q : Q (.tup (vs.drop a)) st) : SlW c P ρ st (.tup vs) (some (a : Int)) none Q X :=
 fun g pv m ns news h0' s x sl vl vu Qc Ec at_ rx K hs pl pu => by
   (refine e33 rx.tupI fun l its k r => ?_; refine rwm r ?_; intro hh hr)
   cases pl with | int _ t =>
   cases pu
   have ht : IsTup s.heap l its.toArray := ⟨_, at_.get hh, rfl, k, rfl⟩
   have hl := hr.length
   refine ⟨"tuple", _, slot_tuple_getitem.lookup, ht.typeIs, getItem_tuple_from ht hs h1 (by (refine rwm List.size_toArray ?_; refine rwm hl ?_); exact h2) ?_ (by (refine rwm List.size_toArray ?_; refine rwm hl ?_); exact hz)⟩
   refine e23 (at_.newTuple (hr.drop a) :) fun g' news' l' a' r' => ?_
   exact K.here (tk := s.toks) l' a' r' q
theorem z4a {vs : List V} {b : Nat} (h2 : b < vs.length) (hz : vs.length <= sizeLine) (q : Q (.tup (vs.take b)) st) : SlW c P ρ st (.tup vs) none (some (b : Int)) Q X :=
 fun g pv m ns news h0' s x sl vl vu Qc Ec at_ rx K hs pl pu => by
   (refine e33 rx.tupI fun l its k r => ?_; refine rwm r ?_; intro hh hr)
   cases pu with | int _ t =>
   cases pl
   have ht : IsTup s.heap l its.toArray := ⟨_, at_.get hh, rfl, k, rfl⟩
   have hl := hr.length
   refine ⟨"tuple", _, slot_tuple_getitem.lookup, ht.typeIs, q4p ht hs (by (refine rwm List.size_toArray ?_; refine rwm hl ?_); exact h2) ?_ (by (refine rwm List.size_toArray ?_; refine rwm hl ?_); exact hz)⟩
   refine e23 (at_.newTuple (hr.take b) :) fun g' news' l' a' r' => ?_
   exact K.here (tk := s.toks) l' a' r' q
end
end
section
open PySem PySem.W PySem.Calls PyProof PyProof.Rows
section
variable {c : Cx} {P : Pt} {ρ : Loc} {st : St} {X : Exc} {Q : V -> St -> Prop} {g : Gh}
theorem VRs.intsAre : ∀ {ns : List Int} {xs : List Value}, VRs c g (ns.map V.int) xs -> IntsAre xs ns := by
 intro ns
 induction ns with
 | nil => intro _ h; refine rwm h.nilI ?_; exact .nil
 | cons n ns ih =>
   intro _ h
   (refine e23 h.consI fun y ys r => ?_; subst r; intro h1 h2)
   obtain ⟨t, rfl⟩ := h1.intI
   exact .cons n t (ih h2)
theorem z90 {v : V} {ns : List Int} (i : v = .lst (ns.map .int) \/ ∃ n, v = .ref n /\ st.get n = some (.list (ns.map .int))) (hn : P.nh = true) (q : Q (.int ns.sum) st) : q0i c P ρ st (.prim (.builtin "sum")) [v] Q X := fun g W0 W0 W0 W0 W0 s p W0 W0 a hp K => by
 (refine e12 hp.one fun x0 r => ?_; subst r; intro h1)
 have key : ∃ b its, x0 = Value.ref b /\ s.heap.IsList b its.toArray /\ VRs c g (ns.map V.int) its := by
   rcases i with rfl | ⟨n, rfl, e⟩
   . (refine e33 h1.lstI fun b its k r => ?_; subst r; intro hh hr)
     exact ⟨b, its, rfl, ⟨_, a.get hh, rfl, k, rfl⟩, hr⟩
   . (refine e35 (a.listN e h1 :) fun b its k r => ?_; subst r; intro hm hr hp N)
     exact ⟨b, its, rfl, ⟨_, (a.nw _ hm).1, rfl, k, rfl⟩, hr⟩
 (refine e23 key fun b its r => ?_; subst r; intro hb hr)
 refine LSm.sum_ints a.fr a.nw (a.ok.hand hn) hb hr.intsAre fun h' tk t' F' N' => ?_
 exact K.here (tk := tk) .rfl (a.renew .rfl F' N' a.hk) (.int _ _) q
end
end
section
open PySem PySem.W PySem.Calls PyProof PyProof.Rows Builtin
theorem q1t : Slot "bytes" "join" "bytes.join" :=
 .of (owner := "bytes") (n := "join") (by (refine rwm (typeLookup_type _ _) ?_; refine rwm builtinLookup_eq_fast ?_); kernel_rfl) (by decide +kernel) (by decide +kernel) (by decide +kernel)
   (by first | exact .inl (by decide +kernel) | exact .inr (by decide +kernel)) (by refine rwm (isSubtype_type _ _) ?_; kernel_rfl)
theorem q2f : entryFor table "bytes.join" = some Builtin.«bytes.join» := entryFor_of_tree (by kernel_rfl)
theorem q2h (a b : Value) : argsOk "bytes.join" ⟨[a, b], []⟩ := by
 unfold argsOk; refine rwm (signature?_of (id := "bytes.join") (n := ['n', 'i', 'o', 'j']) (o := ['s', 'e', 't', 'y', 'b']) (by kernel_rfl) FB.owner_bytes) ?_; kernel_rfl
theorem q59 : typeOf (.builtin "bytes.join") = pure (.type "method_descriptor") := by show builtinType _ = _; refine rwm builtinType_eq_fast ?_; kernel_rfl
theorem j71 {id : String} {b : Array UInt8} {t : Tok} : Bytes.takeBuffer? id (.bytes b t) 0 = pure (some (b, none)) := by
 unfold Bytes.takeBuffer?
 (refine rwm (KBy.special_eq KBy.look_buffer) ?_; refine rwm KBy.own_buffer ?_)
 show (do let r <- Bytes.buffer? id (.bytes b t) (full := (0 == Bytes.fullReadOnly)); return r.map (·, none)) = _
 have e : ∀ f, Bytes.buffer? id (.bytes b t) f = pure (some b) := fun f => by
   unfold Bytes.buffer?
   (refine rwm (KBy.special_eq KBy.look_buffer) ?_; refine rwm KBy.own_buffer ?_; refine rwm KBy.own_release ?_)
   induction f using Bool.casesOn <;> kernel_rfl
 refine rwm (e _) ?_
 rfl
theorem z2o {id : String} {b : Array UInt8} {t : Tok} : Bytes.takeBufferQuiet? id (.bytes b t) 0 = pure (some (b, none)) := by
 unfold Bytes.takeBufferQuiet?
 refine rwm j71 ?_
 rfl
end
section
open PySem PySem.W PySem.Calls PyProof PyProof.Rows Builtin
section
variable {prog : Program} {w : World} {A : Around} {E : Value -> Shared -> Prop} {s : Shared}
theorem q61 {l : Addr} {a b : Array UInt8} {t t1 t2 : Tok} {Q : Value -> Shared -> Prop} (hl : s.heap.IsList l #[.bytes a t1, .bytes b t2]) (hz : a.size + b.size <= 16777216) (h : ∀ t' k, Q (.bytes (a ++ b) t') { s with toks := k }) :
   wpAny (model prog w) A (Builtin.«bytes.join» ⟨[.bytes #[] t, .ref l], []⟩) (fun fin s' => ∃ r, fin = .done (.ret r) /\ Q r s') E s := by
 obtain ⟨o, ho, hc, n, hd⟩ := id hl
 have hT : s.TypeIs (.ref l) "list" := ⟨o, ho, hc⟩
 unfold Builtin.«bytes.join» Bytes.joinM
 refine wpAny_bind (m := selfAndOne _ _) (wpAny_pure ?_)
 refine wpAny_bind ?_
 unfold Bytes.joinItems
 refine wpAny_bind (wpAny_typeOf hT ?_)
 refine rwm (if_pos (by decide)) ?_
 refine wpAny_pure ?_
 refine wpAny_bind (wpAny_seqItems ho hd ?_)
 dsimp only
 refine rwm (if_pos (by decide)) ?_
 refine wpAny_bind (m := forIn [:2] _ _) ?_
 rw [KPc.range_list]
 show wpAny _ _ (forIn [0, 1] _ _) _ _ _
 refine KPc.turn ?_
 refine wpAny_bind (wpAny_seqItems ho hd ?_)
 dsimp only
 refine rwm (if_neg (by decide)) ?_
 refine wpAny_bind (wpAny_holding (wpAny_of_eq z2o ?_))
 refine wpAny_bind (wpAny_seqItems ho hd ?_)
 dsimp only
 refine rwm (if_neg (show ¬ ((#[Value.bytes a t1, Value.bytes b t2].size != #[Value.bytes a t1, Value.bytes b t2].size) = true) by refine rwm (bne_self_eq_false _) ?_; exact Bool.false_ne_true)) ?_
 refine wpAny_pure ?_
 refine KPc.turn ?_
 refine wpAny_bind (wpAny_seqItems ho hd ?_)
 refine wpAny_ite (KBy.ite_no (show ¬ (false = true) from Bool.false_ne_true) ?_)
 refine wpAny_bind (wpAny_holding (wpAny_of_eq z2o ?_))
 refine wpAny_bind (wpAny_seqItems ho hd ?_)
 dsimp only
 refine rwm (if_neg (show ¬ ((#[Value.bytes a t1, Value.bytes b t2].size != #[Value.bytes a t1, Value.bytes b t2].size) = true) by refine rwm (bne_self_eq_false _) ?_; exact Bool.false_ne_true)) ?_
 refine wpAny_pure ?_
 refine wpAny_pure ?_
 refine wpAny_bind (wpAny_of_eq (a := (#[] : Array UInt8)) rfl ?_)
 have ht : ¬ (Bytes.tooLong (0 * 1 + a.size + b.size) = true) := by
   refine rwm (KBy.tooLong_not (by omega)) ?_
   exact Bool.false_ne_true
 refine wpAny_ite (KBy.ite_no ht ?_)
 have e : Bytes.joined #[] [a, b] = a ++ b := by
   unfold Bytes.joined
   simp [List.zipIdx]
 refine rwm e ?_
 refine wpAny_bind (wpAny_mkBytes ?_ (by (refine rwm Array.size_append ?_; refine rwm sizeLine_eq ?_); exact hz))
 refine wpAny_bind (wpAny_holding (wpAny_point ?_))
 refine wpAny_bind ?_
 unfold Bytes.joinLetGo
 refine wpAny_bind (wpAny_letGo ?_)
 unfold Bytes.joinLetGo
 refine wpAny_bind (wpAny_letGo ?_)
 unfold Bytes.joinLetGo
 refine wpAny_pure ?_
 exact wpAny_pure ⟨_, rfl, h _ _⟩
end
section
variable {c : Cx} {P : Pt} {ρ : Loc} {st : St} {X : Exc} {Q : V -> St -> Prop}
theorem z28 {v : V} {a b : List UInt8} (i : v = .lst [.bytes a, .bytes b] \/ ∃ n, v = .ref n /\ st.get n = some (.list [.bytes a, .bytes b])) (hz : a.length + b.length <= 16777216) (q : Q (.bytes (a ++ b)) st) : q0i c P ρ st (.prim (.builtin "bytes.join")) [.bytes [], v] Q X := fun g W0 W0 W0 W0 W0 s p W0 W0 at_ hp K => by
 (refine e23 hp.two fun x0 y0 r => ?_; subst r; intro h0 h1)
 obtain ⟨t, rfl⟩ := h0.bytesI
 have key : ∃ l its, y0 = Value.ref l /\ s.heap.IsList l its.toArray /\ VRs c g [.bytes a, .bytes b] its := by
   rcases i with rfl | ⟨n, rfl, e⟩
   . (refine e33 h1.lstI fun b its k r => ?_; subst r; intro hh hr)
     exact ⟨b, its, rfl, ⟨_, at_.get hh, rfl, k, rfl⟩, hr⟩
   . (refine e35 (at_.listN e h1 :) fun b its k r => ?_; subst r; intro hm hr hp N)
     exact ⟨b, its, rfl, ⟨_, (at_.nw _ hm).1, rfl, k, rfl⟩, hr⟩
 (refine e23 key fun l its r => ?_; subst r; intro hl hr)
 (refine e23 hr.consI fun y ys r => ?_; subst r; intro h2 h3)
 (refine e12 h3.oneI fun z r => ?_; subst r; intro h4)
 obtain ⟨t1, rfl⟩ := h2.bytesI
 obtain ⟨t2, rfl⟩ := h4.bytesI
 refine wpAny_call_entry q1t (typeIs_bytes _ _ _) q2f (q61 hl (by simpa using hz) fun t' k => ?_) (q2h _ _)
 refine rwm (List.append_toArray _ _) ?_
 exact K.now (tk := k) at_ (.bytes (a ++ b) t') q
theorem z7k {b : List UInt8} : q95 c P ρ st "join" (.bytes b) (.builtin "bytes.join") [.bytes b] st :=
 fun g pv m ns news h0 s y pl Qc Ec a r k => by
   obtain ⟨t, rfl⟩ := r.bytesI
   exact getMethod_builtin (typeIs_bytes _ _ _) FB.plainAttrs_bytes q1t q59 (fun W0 e => nomatch e) (k g news s.heap s.toks [_] .rfl a (.cons (.bytes b t) .nil))
end
end
section
open PySem PySem.W PySem.Calls PyProof PyProof.Rows
theorem sort2 {cmp : Nat -> Nat -> (Bool -> Shared -> Prop) -> Shared -> Prop} {Q : Array Nat -> Shared -> Prop} {s : Shared} (h : cmp 1 0 (fun b s' => Q (if b = true then #[1, 0] else #[0, 1]) s') s) (hm : ∀ {C C' : Bool -> Shared -> Prop}, cmp 1 0 C s -> (∀ b s', C b s' -> C' b s') -> cmp 1 0 C' s) : (kas_sort 2).kasWp cmp Q s := by
 refine hm h fun b s' hq => ?_
 induction b using Bool.casesOn
 . exact hq
 . exact hq
section
variable {c : Cx} {P : Pt} {ρ : Loc} {st : St} {X : Exc} {Q : V -> St -> Prop}
theorem q8t {v : V} {i j : Int} {a b : V} (hv : v = .lst [.tup [.int i, a], .tup [.int j, b]] \/ ∃ n, v = .ref n /\ st.get n = some (.list [.tup [.int i, a], .tup [.int j, b]])) (hij : i ≠ j)
   (q : Q (.lst (if j < i then [.tup [.int j, b], .tup [.int i, a]] else [.tup [.int i, a], .tup [.int j, b]])) st) : q0i c P ρ st (.prim (.builtin "sorted")) [v] Q X := fun g pv m ns news h0 s p W0 W0 at_ hp K => by
 (refine e12 hp.one fun y0 r => ?_; subst r; intro h1)
 have key : ∃ l its, y0 = Value.ref l /\ s.heap.IsList l its.toArray /\ VRs c g [.tup [.int i, a], .tup [.int j, b]] its := by
   rcases hv with rfl | ⟨n, rfl, e⟩
   . (refine e33 h1.lstI fun b its k r => ?_; subst r; intro hh hr)
     exact ⟨b, its, rfl, ⟨_, at_.get hh, rfl, k, rfl⟩, hr⟩
   . (refine e35 (at_.listN e h1 :) fun b its k r => ?_; subst r; intro hm hr hp N)
     exact ⟨b, its, rfl, ⟨_, (at_.nw _ hm).1, rfl, k, rfl⟩, hr⟩
 (refine e23 key fun l its r => ?_; subst r; intro hl hr)
 (refine e23 hr.consI fun y ys r => ?_; subst r; intro h2 h3)
 (refine e12 h3.oneI fun z r => ?_; subst r; intro h4)
 (refine e33 h2.tupI fun l1 its1 k1 r => ?_; subst r; intro hh1 hr1)
 (refine e33 h4.tupI fun l2 its2 k2 r => ?_; subst r; intro hh2 hr2)
 (refine e23 hr1.consI fun y1 ys1 r => ?_; subst r; intro g1 g2)
 (refine e12 g2.oneI fun y2 r => ?_; subst r; intro g3)
 (refine e23 hr2.consI fun z1 zs1 r => ?_; subst r; intro w1 w2)
 (refine e12 w2.oneI fun z2 r => ?_; subst r; intro w3)
 obtain ⟨t1, rfl⟩ := g1.intI
 obtain ⟨t2, rfl⟩ := w1.intI
 refine kat_sorted at_.fr at_.nw hl (Nat.le_refl 2) (by show 2 < 64; decide) fun D e1 h' F' N' hlt => ?_
 have at' := at_.renew .rfl F' (fun p hp => N' p (.tail _ hp)) at_.hk
 have hne : ∀ p ∈ news, p.1 ≠ D := fun p hp => Nat.ne_of_lt (hlt p hp)
 have G1 : h'.get? l1 = some _ := at'.get hh1
 have G2 : h'.get? l2 = some _ := at'.get hh2
 refine kat_kind (fs := [.int i t1, .int j t2]) (T := .type "int") (KatTups.cons G1 rfl rfl rfl (KatTups.cons G2 rfl rfl rfl KatTups.nil)) (Nat.le_of_ble_eq_true rfl) ?_ rfl ?_
 . intro v hv
   rcases mc hv with rfl | hv
   . exact Looks.of_pure rfl
   . refine rwm (List.mem_singleton.mp hv) ?_
     exact Looks.of_pure rfl
 refine sort2 ?_ fun {C C'} h1 h2 => wpAny_mono h1 h2 fun W0 W0 x => x
 refine kat_lt G2 rfl G1 rfl (kat_cons (wpAny_eqBool_int ?_))
 have e : (j == i) = false := beq_eq_false_iff_ne.mpr fun h => hij h.symm
 refine rwm e ?_
 refine kat_no ?_
 refine oneLt_int ?_
 refine KasFin.intro F' N' (.head hne) fun hq c2 F2 N2 => ?_
 refine e13 (at_.pushFrozen F2 N2 hne :) fun g' le a2 hD => ?_
 by_cases hlt : j < i
 . rw [if_pos hlt] at q
   have ed : decide (j < i) = true := decide_eq_true hlt
   rw [ed] at a2 hD
   exact K.here (tk := s.toks) le a2 (.lst (its := [.ref l2, .ref l1]) hD (.cons (h4.mono le) (.cons (h2.mono le) .nil))) q
 . rw [if_neg hlt] at q
   have ed : decide (j < i) = false := decide_eq_false hlt
   rw [ed] at a2 hD
   exact K.here (tk := s.toks) le a2 (.lst (its := [.ref l1, .ref l2]) hD (.cons (h2.mono le) (.cons (h4.mono le) .nil))) q
end
end
section
open PySem PySem.W PySem.Calls PyProof PyProof.Rows
theorem ZRs.det {g : Gh} {zs : List Z} {ks ks' : List Int} (h : ZRs g zs ks) (h' : ZRs g zs ks') : ks = ks' := by
 induction h generalizing ks' with
 | nil => cases h' with | nil => rfl
 | cons h _ ih => cases h' with | cons h2 r2 => (refine rwm (ih r2) ?_; refine rwm (h.det h2) ?_; rfl)
section
variable {c : Cx} {P : Pt} {ρ : Loc} {st : St} {X : Exc} {g : Gh} {pv news : List (Addr × Obj)} {m ns : Str -> Option Value} {h0 h : Heap}
noncomputable abbrev TK (c : Cx) := tupleKind (intKind c.prog c.w)
theorem VRs.zs : ∀ {zs : List Z} {its : List Value}, VRs c g (zs.map Z.toV) its -> ∃ ks, ZRs g zs ks /\ VRs c g (ks.map .int) its := by
 intro zs
 induction zs with
 | nil => intro _ h; exact ⟨[], .nil, by refine rwm h.nilI ?_; exact .nil⟩
 | cons z zs ih =>
   intro _ h
   (refine e23 h.consI fun y ys r => ?_; refine rwm r ?_; intro h1 h2)
   refine e12 (ih h2) fun ks q1 q2 => ?_
   (refine e22 h1.zI fun i t r => ?_; refine rwm r ?_; intro hz)
   exact ⟨i :: ks, .cons hz q1, .cons (.int i t) q2⟩
theorem ZRs.vrs {zs : List Z} {ks : List Int} {its : List Value} (r : ZRs g zs ks) (h : VRs c g (ks.map .int) its) : VRs c g (zs.map Z.toV) its := by
 induction r generalizing its with
 | nil => exact h
 | cons hz _ ih =>
   (refine e23 h.consI fun y ys r => ?_; refine rwm r ?_; intro h1 h2)
   refine e11 h1.intI fun t r => rwm r ?_
   exact .cons (hz.vr t) (ih h2)
theorem VRs.itemsAre : ∀ {ks : List Int} {its : List Value}, VRs c g (ks.map .int) its -> ItemsAre (intKind c.prog c.w) ks its := by
 intro ks
 induction ks with
 | nil => intro _ h; refine rwm h.nilI ?_; exact .nil
 | cons k ks ih =>
   intro _ h
   (refine e23 h.consI fun y ys r => ?_; refine rwm r ?_; intro h1 h2)
   refine e11 h1.intI fun t r => rwm r ?_
   exact .cons (by simp [intKind, Value.isInt]) (ih h2)
theorem At.key (a : At c P g ρ st pv m ns news h0 h) {zs : List Z} {y : Value} (r : VR c g (.tup (zs.map Z.toV)) y) : ∃ t ks, y = .ref t /\ ZRs g zs ks /\ (TK c).is h ks t := by
 (refine e33 r.tupI fun t its k r => ?_; refine rwm r ?_; intro hh hr)
 refine e12 hr.zs fun ks q1 q2 => ?_
 exact ⟨t, ks, rfl, q1, _, its.toArray, k, a.get hh, rfl, rfl, q2.itemsAre⟩
theorem At.tabs (a : At c P g ρ st pv m ns news h0 h) : ∀ {xs : List (List Z × V)} {es : List DictEntry}, TabR c g xs es ->
   ∃ ys : List (List Int × Addr × Value), ys.length = xs.length /\ es = ys.map (entryOfKey (TK c)) /\ (∀ y ∈ ys, (TK c).is h y.1 y.2.1) /\ ∀ zs v, xs = [(zs, v)] -> ∃ ks t x, ys = [(ks, t, x)] /\ ZRs g zs ks /\ VR c g v x := by
 intro xs es r
 induction r with
 | nil => exact ⟨[], rfl, rfl, fun W0 h => (nomatch h), fun W0 W0 h => (nomatch h)⟩
 | @cons zs ks v _ _ t its kk x hz hh hr hv r ih =>
   refine e14 ih fun ys h1 h2 h3 h4 => ?_
   refine ⟨(ks, t, x) :: ys, by (refine rwm List.length_cons ?_; refine rwm List.length_cons ?_; refine rwm h1 ?_; rfl), by (refine rwm List.map_cons ?_; refine rwm h2 ?_); rfl, fun y hy => ?_, fun zs' v' e => ?_⟩
   . rcases mc hy with rfl | hy
     . exact ⟨_, its.toArray, kk, a.get hh, rfl, rfl, hr.itemsAre⟩
     . exact h3 y hy
   . cases e
     have : ys = [] := List.eq_nil_of_length_eq_zero h1
     subst this
     exact ⟨ks, t, x, rfl, hz, hv⟩
theorem z7p {α : Type} {l : List α} (h : l.length <= 1) : l.Nodup := by
 induction l using List.casesOn with
 | nil => exact List.nodup_nil
 | cons a l =>
   induction l using List.casesOn with
   | nil => exact List.nodup_cons.mpr ⟨List.not_mem_nil, List.nodup_nil⟩
   | cons b l => exact absurd (Nat.le_of_succ_le_succ h) (Nat.not_succ_le_zero _)
theorem At.tabN (a : At c P g ρ st pv m ns news h0 h) {n : Nat} {xs : List (List Z × V)} {pin : Option (List DictEntry × Nat)} {y : Value} (e : st.get n = some (.tab xs pin)) (r : VR c g (.ref n) y) (hnd : xs.length <= 1) :
   ∃ b es k ys, y = .ref b /\ (b, dictOf es k) ∈ news /\ TabR c g xs es /\ g.pl n = some (b, b) /\ Heap.DictOfH (TK c) h b ys /\ ys.length = xs.length /\ ∀ zs v, xs = [(zs, v)] -> ∃ ks t x, ys = [(ks, t, x)] /\ ZRs g zs ks /\ VR c g v x := by
 (refine e22 r.refI fun b d r => ?_; refine rwm r ?_; intro hp)
 refine e22 (a.hk.own n _ e :) fun b1 d1 h1 r1 => ?_
 rw [hp] at h1
 cases h1
 obtain ⟨rfl, es, k, hm, hr, _⟩ := r1.tabI
 refine e14 (a.tabs hr :) fun ys q1 q2 q3 q4 => ?_
 refine ⟨b, es, k, ys, rfl, hm, hr, hp, ⟨_, es.toArray, k, (a.nw _ hm).1, ⟨rfl, rfl, rfl⟩, rfl, q2, q3, ?_⟩, q1, q4⟩
 rw [<- q1] at hnd
 exact z7p (by first | exact hnd | (refine rwm (List.length_map _) ?_; exact hnd))
theorem j28 {ks : List Int} {t : Addr} {x : Value} : atKey [(ks, t, x)] ks = some (t, x) := by simp [atKey]
end
section
variable {c : Cx} {P : Pt} {ρ : Loc} {st : St} {X : Exc} {Q : V -> St -> Prop}
theorem j7y {n : Nat} {zs : List Z} {v : V} {pin : Option (List DictEntry × Nat)} (e : st.get n = some (.tab [(zs, v)] pin)) (q : Q v st) : z9g c P ρ st (.ref n) (.tup (zs.map Z.toV)) Q X :=
 fun g pv m ns news h0 s x y Qc Ec a rx ry K => by
   obtain ⟨b, es, k, ys, rfl, hm, hr, hp, hd, hy, hq⟩ := a.tabN e rx (Nat.le_refl 1)
   (refine e23 (a.key ry :) fun t ks r => ?_; refine rwm r ?_; intro hz hk)
   (refine e33 (hq _ _ rfl :) fun ks' t' z r => ?_; subst r; intro hz' h2)
   obtain rfl := hz.det hz'
   exact ⟨"dict", "dict.__getitem__", by (refine rwm (typeLookup_type _ _) ?_; refine rwm builtinLookup_eq_fast ?_); kernel_rfl, hd.typeIs, wpAny_getItem_heap (a.ok.lowU (k := 1) (by decide)) hk hd j28 (K.now (tk := s.toks + _) a h2 q)⟩
end
end
section
open PySem PySem.W PySem.Calls PyProof PyProof.Rows
noncomputable def q8k (c : Cx) : Prop := True
section
variable {c : Cx} {P : Pt} {ρ : Loc} {st : St} {X : Exc} {g : Gh} {pv news : List (Addr × Obj)} {m ns : Str -> Option Value} {h0 h : Heap}
theorem At.newNotSys (a : At c P g ρ st pv m ns news h0 h) : (h.objs.size == sysModules) = false := by
 obtain ⟨o, es, ep, ho, _⟩ := a.tr.g
 have h1 := Heap.lt_size ho
 have h2 := a.fr.above
 have h3 := a.fr.ns.lt
 have h4 : 1 <= mainGlobals := by decide
 refine beq_eq_false_iff_ne.mpr fun e => ?_
 have h5 : 1 < h.objs.size := Nat.lt_of_le_of_lt (Nat.le_trans h4 (Nat.le_of_lt (Nat.lt_of_lt_of_le h1 h2))) h3
 have e : h.objs.size = 1 := e
 rw [e] at h5
 exact absurd h5 (Nat.lt_irrefl 1)
theorem At.notSys (a : At c P g ρ st pv m ns news h0 h) {n : Nat} {xs : List (List Z × V)} {pin : Option (List DictEntry × Nat)} {b d : Addr} (e : st.get n = some (.tab xs pin)) (hp : g.pl n = some (b, d)) : (b == sysModules) = false := by
 refine e22 (a.hk.own n _ e :) fun b1 d1 h1 r1 => ?_
 rw [hp] at h1
 cases h1
 exact r1.tabS
theorem At.room (a : At c P g ρ st pv m ns news h0 h) : (TK c).room P.A.in1 := by
 show P.A.in1.units < cLine
 have := a.ok.units
 show P.A.units + 1 < cLine
 omega
theorem At.tabSet (a : At c P g ρ st pv m ns news h0 h) {n : Nat} {xs xs' : List (List Z × V)} {b : Addr} {es : List DictEntry} {k : Nat} {h' : Heap} (e : st.get n = some (.tab xs none)) (hp : g.pl n = some (b, b)) (r : TabR c g xs' es) (F : Fr h0 P.L h' m) (N : News h0 P.L h' ((b, dictOf es k) :: q7i b news)) :
   At c P g ρ (st.set n (.tab xs' none)) pv m ns ((b, dictOf es k) :: q7i b news) h0 h' :=
 a.renew .rfl F N (a.hk.change e hp (.inl rfl) (.tab (.head _) r (fun W0 h => nomatch h) (a.notSys e hp)))
theorem At.newTabN (a : At c P g ρ st pv m ns news h0 h) : ∃ g', g.le g' /\ At c P g' ρ (st.new (.tab [] none)) pv m ns ((h.objs.size, dictOf [] 0) :: news) h0 (h.push (dictOf [] 0)) /\ VR c g' (.ref st.nx) (.ref h.objs.size) := by
 have hD : ∀ p ∈ news, p.1 ≠ h.objs.size := fun p hp => Nat.ne_of_lt (a.ltSize p hp)
 obtain ⟨H, l⟩ := a.hk.nameNew (a := h.objs.size) (d := h.objs.size) (x := .tab [] none) (news' := (h.objs.size, dictOf [] 0) :: news) (fun p hp => .tail _ hp) (fun p hp => ⟨hD p hp, hD p hp⟩) (fun l => .tab (.head _) .nil (fun W0 h => nomatch h) a.newNotSys)
 exact ⟨_, l, a.renew l (a.fr.push _) (a.nw.push a.fr _) H, .ref (if_pos rfl)⟩
end
section
variable {c : Cx} {P : Pt} {ρ : Loc} {st : St} {X : Exc} {Q : V -> St -> Prop}
theorem j0f {pos : Pos} (q : Q (.ref st.nx) (st.new (.tab [] none))) : EvE c P ρ st (.Dict [] [] pos) Q X :=
 fun W0 W0 W0 W0 W0 W0 s W0 W0 W0 a W0 K => by
   refine wpAny_Dict_empty ?_
   refine e13 a.newTabN fun g' l a' r => ?_
   exact K.here (tk := s.toks) l a' r q
noncomputable def q9t (zs : List Z) : List (List Z × V) -> Option Bool
 | [] => some false
 | [(z, _)] => if z = zs then some true else none
 | _ => none
theorem q9u {g : Gh} {c : Cx} {zs : List Z} {ks : List Int} {xs : List (List Z × V)} {b : Bool} {ys : List (List Int × Addr × Value)} (e : q9t zs xs = some b) (hz : ZRs g zs ks) (hl : ys.length = xs.length) (hq : ∀ zs v, xs = [(zs, v)] -> ∃ ks t x, ys = [(ks, t, x)] /\ ZRs g zs ks /\ VR c g v x) : (atKey ys ks).isSome = b := by
 induction xs using List.casesOn with
 | nil =>
   cases e
   refine rwm (List.eq_nil_of_length_eq_zero hl) ?_
   rfl
 | cons p l =>
   obtain ⟨z, v⟩ := p
   induction l using List.casesOn with
   | cons => exact zns e
   | nil =>
   change (if z = zs then some true else none) = some b at e
   split at e
   . rename_i ez
     cases e
     subst ez
     (refine e33 (hq _ _ rfl :) fun ks' t x r => ?_; subst r; intro h1 h2)
     (refine rwm (hz.det h1) ?_; refine rwm j28 ?_)
     rfl
   . exact zns e
theorem q68 {zs : List Z} {xs : List (List Z × V)} {b : Bool} (e : q9t zs xs = some b) : xs.length <= 1 := by
 induction xs using List.casesOn with
 | nil => exact Nat.zero_le _
 | cons p l =>
   obtain ⟨z, v⟩ := p
   induction l using List.casesOn with
   | nil => exact Nat.le_refl _
   | cons => exact zns e
theorem z3b {n : Nat} {zs : List Z} {xs : List (List Z × V)} {pin : Option (List DictEntry × Nat)} {b : Bool} (hs : q8k c) (e : st.get n = some (.tab xs pin)) (hb : q9t zs xs = some b) (q : Q (.bool b) st) : q1o c P ρ st .In (.tup (zs.map Z.toV)) (.ref n) Q X := fun g W0 W0 W0 W0 W0 s p Qc Ec a hp K => by
 obtain ⟨x, y⟩ := p
 (refine e23 (a.key hp.1 :) fun t ks r => ?_; subst r; intro hz hk)
 obtain ⟨b', es, k, ys, rfl, hm, hr, hpl, hd, hy, hq⟩ := a.tabN e hp.2 (q68 hb)
 refine wpAny_in_heap a.room hk (a.notSys e hpl) hd ?_
 refine rwm (q9u hb hz hy hq) ?_
 exact K.now (tk := s.toks + _) a (.bool _) q
theorem q4y {prog : Program} {w : World} {A : Around} {E : Value -> Shared -> Prop} {s : Shared} {d : Addr} {v : Value} {Q : Value -> Shared -> Prop} (h : wpAny (model prog w) A (compareOp .In v (.ref d)) (fun r s' => ∃ b, r = Value.bool b /\ Q (Value.bool (!b)) s') E s) : wpAny (model prog w) A (compareOp .NotIn v (.ref d)) Q E s := by
 have h' : wpAny (model prog w) A (do return .bool (<- contains (.ref d) v)) (fun r s' => ∃ b, r = Value.bool b /\ Q (Value.bool (!b)) s') E s := h
 show wpAny _ _ (do return .bool (!(<- contains (.ref d) v))) Q E s
 intro Γ p hΓ
 have h'' := h' Γ p hΓ
 rw [Sem.wp_bind'] at h'' ⊢
 exact Sem.wp_mono _ _ _ (fun b p' s' hb => by refine e12 ((show ∃ b', Value.bool b = Value.bool b' /\ _ from hb) :) fun b' e hq => ?_; cases e; exact hq) (fun W0 W0 W0 x => x) _ _ h''
theorem q7p {n : Nat} {zs : List Z} {xs : List (List Z × V)} {pin : Option (List DictEntry × Nat)} {b : Bool} (hs : q8k c) (e : st.get n = some (.tab xs pin)) (hb : q9t zs xs = some b) (q : Q (.bool (!b)) st) : q1o c P ρ st .NotIn (.tup (zs.map Z.toV)) (.ref n) Q X := fun g W0 W0 W0 W0 W0 s p Qc Ec a hp K => by
 obtain ⟨x, y⟩ := p
 (refine e23 (a.key hp.1 :) fun t ks r => ?_; subst r; intro hz hk)
 obtain ⟨b', es, k, ys, rfl, hm, hr, hpl, hd, hy, hq⟩ := a.tabN e hp.2 (q68 hb)
 refine q4y (wpAny_in_heap a.room hk (a.notSys e hpl) hd ?_)
 refine rwm (q9u hb hz hy hq) ?_
 exact ⟨_, rfl, K.now (tk := s.toks + _) a (.bool _) q⟩
end
end
section
open PySem PySem.W PySem.Calls PyProof PyProof.Rows
section
variable {c : Cx} {P : Pt} {ρ : Loc} {st : St} {X : Exc} {g : Gh} {pv news : List (Addr × Obj)} {m ns : Str -> Option Value} {h0 h : Heap}
theorem q4f {o : Obj} {es : Array DictEntry} {ep : Nat} (h : o.ExactDict) (e : o.data = .dict es ep) : o = dictOf es.toList ep := by
 obtain ⟨cls, dict, data, slots⟩ := o
 refine e03 h fun h1 h2 h3 => ?_
 cases h1; cases h2; cases h3; cases e
 rfl
theorem At.putTab {g : Gh} {pv news : List (Addr × Obj)} {m ns : Str -> Option Value} {h0 : Heap} {s : Shared} {Qm : Unit -> Shared -> Prop} {E : Value -> Shared -> Prop} (a : At c P g ρ st pv m ns news h0 s.heap) {n : Nat} {zs : List Z} {w : V} {y i z : Value} (e : st.get n = some (.tab [] none))
   (r : VR c g (.ref n) y) (ri : VR c g (.tup (zs.map Z.toV)) i) (rz : VR c g w z)
   (kk : ∀ news' h' tk, At c P g ρ (st.set n (.tab [(zs, w)] none)) pv m ns news' h0 h' -> Qm () { s with heap := h', toks := tk }) : wpAny (model c.prog c.w) P.A (setItem y i z) Qm E s := by
 (refine e33 ri.tupI fun t its kt r => ?_; subst r; intro hh hits)
 refine e12 hits.zs fun ks hz hits => ?_
 have hkey : (TK c).is s.heap ks t := ⟨_, its.toArray, kt, a.get hh, rfl, rfl, hits.itemsAre⟩
 obtain ⟨b, es, k, ys, rfl, hm, hr, hpl, hd, hy, hq⟩ := a.tabN e r (Nat.zero_le 1)
 have hys : ys = [] := List.eq_nil_of_length_eq_zero hy
 subst hys
 refine wpAny_setItem_heap a.room hkey hd (fun h' hd' hs' => ?_) (by refine rwm sizeLine_eq ?_; exact Nat.zero_le _)
 rw [storedH_new rfl] at hd'
 obtain ⟨o, es', ep, h1, h2, h3, h4, _⟩ := hd'
 have ho := q4f h2 h3
 rw [h4] at ho
 subst ho
 have hb := a.nw _ hm
 have F' : Fr h0 P.L h' m := a.fr.change hs' hb.2.1 hb.2.2
 refine kk _ h' _ (a.tabSet e hpl (.cons hz hh hits rz .nil) F' (k := ep) fun p hp => ?_)
 rcases mc hp with rfl | hp
 . exact ⟨h1, hb.2.1, hb.2.2⟩
 . obtain ⟨q1, q2⟩ := q0k.mp hp
   exact ⟨(hs'.2 p.1 q2).trans (a.nw _ q1).1, (a.nw _ q1).2⟩
end
section
variable {c : Cx} {P : Pt} {ρ : Loc} {st : St} {X : Exc}
end
end
section
open PySem PySem.W PySem.Calls PyProof PyProof.Rows
section
variable {prog : Program} {w : World} {K : Type} [DecidableEq K] {knd : HeapKind prog w K} {A : Around} {E : Value -> Shared -> Prop} {s : Shared} {d a t : Addr} {k : K} {v : Value}
theorem j2j {Q : Option DictEntry -> Shared -> Prop} (hu : knd.room A) (hkey : knd.is s.heap k a) (hm : s.heap.DictOfH knd d [(k, t, v)])
   (hQ : ∀ h' ep, h'.get? d = some (dictOf [] ep) -> Heap.SameBut d s.heap h' -> Q (some ⟨knd.hash k, .ref t, v⟩) { s with heap := h', toks := s.toks + knd.draws k }) :
   wpAny (model prog w) A (Builtin.Dict.takeOut d (.ref a)) Q E s := by
 refine e36 hm fun o es ep ho hc hd he his hn => ?_
 have hes : es = #[⟨knd.hash k, .ref t, v⟩] := by
   apply Array.toList_inj.mp
   refine rwm he ?_
   rfl
 unfold Builtin.Dict.takeOut
 try with_reducible refine wpAny_holding ?_
 refine wpAny_bind (knd.pyHash hu hkey ?_)
 refine wpAny_bind (wpAny_dictFind_heap (s := { s with toks := s.toks + knd.draws k }) hu hkey ho hd he his hn ?_ ?_)
 . intro hno
   exact absurd rfl (hno 0 (t, v))
 . intro j p hj
   have hj0 : j = 0 := by
     induction j using Nat.casesOn with
     | zero => rfl
     | succ j => simp at hj
   subst hj0
   refine wpAny_bind (wpAny_dictEntries (s := { s with toks := s.toks + knd.draws k }) ho hd ?_)
   have e0 : es[0]? = some ⟨knd.hash k, .ref t, v⟩ := by refine rwm hes ?_; rfl
   refine rwm e0 ?_
   refine wpAny_bind (wpAny_updateDictKeys (hz := by (refine rwm hes ?_; refine rwm sizeLine_eq ?_); exact Nat.le_of_ble_eq_true rfl) (hf := by refine rwm hes ?_; simp [Array.eraseIdxIfInBounds]) (s := { s with toks := s.toks + knd.draws k }) ho hd (wpAny_pure (hQ _ (ep + 1) ?_ (Heap.SameBut.update ..))))
   have hg := Heap.get?_update_self (Obj.mapDictKeys (·.eraseIdxIfInBounds 0)) ho (Obj.isFreed_of_dict (Obj.data_mapDictKeys hd _))
   refine hg.trans ?_
   have h2 := hc.mapDictKeys (f := (·.eraseIdxIfInBounds 0))
   have h3 := q4f h2 (Obj.data_mapDictKeys hd _)
   (refine rwm h3 ?_; refine rwm hes ?_)
   simp [Array.eraseIdxIfInBounds]
theorem pop1 {Q : Value -> Shared -> Prop} (hu : knd.room A) (hkey : knd.is s.heap k a) (hm : s.heap.DictOfH knd d [(k, t, v)])
   (hQ : ∀ h' ep tk, h'.get? d = some (dictOf [] ep) -> Heap.SameBut d s.heap h' -> Q v { s with heap := h', toks := tk }) :
   wpAny (model prog w) A (Builtin.«dict.pop» ⟨[.ref d, .ref a], []⟩) (fun fin s' => ∃ r, fin = .done (.ret r) /\ Q r s') E s := by
 refine e36 (id hm :) fun o es ep ho hc hd he his hn => ?_
 unfold Builtin.«dict.pop»
 refine wpAny_bind ?_
 unfold Builtin.Dict.keyAndDefault
 refine wpAny_bind (wpAny_notOrdered_dict hm.typeIs ?_)
 refine wpAny_pure ?_
 have hne : es.isEmpty = false := by
   have : es.size = 1 := by (refine rwb Array.length_toList ?_; refine rwm he ?_); rfl
   simp [Array.isEmpty, this]
 refine wpAny_bind (wpAny_dictEntries ho hd ?_)
 refine rwm hne ?_
 simp only [Bool.false_eq_true, if_false]
 refine wpAny_bind (wpAny_pure ?_)
 refine (wpAny_bind (j2j hu hkey hm fun h' ep' q1 q2 => ?_))
 simp only [Option.isNone_some, Bool.false_eq_true, if_false]
 exact wpAny_bind (wpAny_letGo (wpAny_pure ⟨v, rfl, hQ h' ep' _ q1 q2⟩))
end
section
variable {c : Cx} {P : Pt} {ρ : Loc} {st : St} {X : Exc} {Q : V -> St -> Prop}
theorem z5h {n : Nat} {zs : List Z} {v : V} (e : st.get n = some (.tab [(zs, v)] none)) (q : Q v (st.set n (.tab [] none))) : q0i c P ρ st (.prim (.builtin "dict.pop")) [.ref n, .tup (zs.map Z.toV)] Q X := fun g pv m ns news h0 s p W0 W0 a hp K => by
 (refine e23 hp.two fun x y r => ?_; subst r; intro h1 h2)
 (refine e23 (a.key h2 :) fun t ks r => ?_; subst r; intro hz hkey)
 obtain ⟨b, es, k, ys, rfl, hm, hr, hpl, hd, hy, hq⟩ := a.tabN e h1 (Nat.le_refl 1)
 (refine e33 (hq _ _ rfl :) fun ks' t' z r => ?_; subst r; intro hz' rz)
 obtain rfl := hz.det hz'
 have hb := a.nw _ hm
 refine wpAny_call_entry F.slot_dict_pop hd.typeIs F.entry_dict_pop (pop1 (a.room (c := c)) hkey hd fun h' ep tk q1 q2 => ?_) (F.args_dict_pop_2 _ _)
 refine K.here (tk := tk) .rfl (a.tabSet e hpl .nil (a.fr.change q2 hb.2.1 hb.2.2) (k := ep) fun p hp => ?_) rz q
 rcases mc hp with rfl | hp
 . exact ⟨q1, hb.2.1, hb.2.2⟩
 . obtain ⟨w1, w2⟩ := q0k.mp hp
   exact ⟨(q2.2 p.1 w2).trans (a.nw _ w1).1, (a.nw _ w1).2⟩
theorem z01 {v : V} {xs : List (List Z × V)} {pin : Option (List DictEntry × Nat)} {n : Nat} (i : v = .ref n) (e : st.get n = some (.tab xs pin)) : q95 c P ρ st "pop" v (.builtin "dict.pop") [v] st :=
 fun g pv m ns news h0 s y pl Qc Ec a r k => by
   subst i
   (refine e22 r.refI fun b d r => ?_; subst r; intro hp)
   refine e22 (a.hk.own n _ e :) fun b1 d1 h1 r1 => ?_
   rw [hp] at h1
   cases h1
   obtain ⟨rfl, es, kk, hm, hr, _⟩ := r1.tabI
   exact getMethod_builtin ⟨_, (a.nw _ hm).1, rfl⟩ PySem.F.plainAttrs_dict F.slot_dict_pop F.type_dict_pop (fun a' e => by cases e; exact ⟨_, (a.nw _ hm).1, rfl⟩) (k g news s.heap s.toks [.ref b] .rfl a (.cons r .nil))
end
end
section
open PySem PySem.W PySem.Calls PyProof PyProof.Rows
section
variable {c : Cx} {P : Pt} {ρ : Loc} {st : St} {X : Exc} {g : Gh} {pv news : List (Addr × Obj)} {m ns : Str -> Option Value} {h0 h : Heap}
theorem At.pin (a : At c P g ρ st pv m ns news h0 h) {n : Nat} {xs : List (List Z × V)} {pin : Option (List DictEntry × Nat)} {b : Addr} (e : st.get n = some (.tab xs pin)) (hp : g.pl n = some (b, b)) :
   ∃ es k, (b, dictOf es k) ∈ news /\ TabR c g xs es /\ At c P g ρ (st.set n (.tab xs (some (es, k)))) pv m ns news h0 h := by
 refine e22 (a.hk.own n _ e :) fun b1 d1 h1 r1 => ?_
 rw [hp] at h1
 cases h1
 obtain ⟨_, es, k, hm, hr, _⟩ := r1.tabI
 have H := a.hk
 refine ⟨es, k, hm, hr, a.ok, a.below, a.dicts, a.fr, a.nw, ⟨H.kni, H.pvi, fun i o ei => ?_, fun i o a' d' ei k' => ?_, fun i j o o' a1 d1 a2 d2 hij ei ej k1 k2 => ?_, fun i hi => H.fin i hi, H.pk⟩, a.loc, a.cel, a.nsk⟩
 . rw [St.get_set] at ei
   by_cases q : i = n
   . subst q
     rw [if_pos rfl] at ei
     cases ei
     exact ⟨b, b, hp, .tab hm hr (fun q hq => by cases hq; rfl) r1.tabS⟩
   . rw [if_neg q] at ei
     exact H.own i o ei
 . rw [St.get_set] at ei
   by_cases q : i = n
   . subst q
     exact H.off i _ a' d' e k'
   . rw [if_neg q] at ei
     exact H.off i o a' d' ei k'
 . rw [St.get_set] at ei ej
   by_cases q : i = n
   . by_cases q' : j = n
     . exact absurd (q.trans q'.symm) hij
     . rw [if_neg q'] at ej
       subst q
       exact H.apart i j _ o' a1 d1 a2 d2 hij e ej k1 k2
   . rw [if_neg q] at ei
     by_cases q' : j = n
     . subst q'
       exact H.apart i j o _ a1 d1 a2 d2 hij ei e k1 k2
     . rw [if_neg q'] at ej
       exact H.apart i j o o' a1 d1 a2 d2 hij ei ej k1 k2
end
end
section
open PySem PySem.W PySem.Calls PyProof PyProof.Rows
section
variable {prog : Program} {w : World} {A : Around} {E : Value -> Shared -> Prop} {s : Shared} {d it : Addr} {es : List DictEntry} {i ep : Nat}
theorem j6e {Q : Value -> Shared -> Prop} (hd : (d == sysModules) = false) (ho : s.heap.get? d = some (dictOf es ep))
   (hQ : Q (.ref s.heap.objs.size) { s with heap := s.heap.push { cls := .type "dict_keyiterator", data := .fields #[.ref d, .int 0 0, .int es.length 0, .int ep 0] } }) :
   wpAny (model prog w) A (pyIter (.ref d)) Q E s := by
 have hT : s.TypeIs (.ref d) "dict" := ⟨_, ho, rfl⟩
 refine wpAny_pyIter_slot hT F.slot_dict_iter (wpAny_call_entry F.slot_dict_iter hT F.entry_dict_iter ?_ (F.args_dict_iter_1 _))
 unfold Builtin.«dict.__iter__»
 refine wpAny_bind ?_
 unfold Builtin.Dict.dictSlotNone
 refine wpAny_bind (wpAny_notOrdered_dict hT ?_)
 refine wpAny_pure ?_
 show wpAny _ _ (Builtin.Dict.showsAll d >>= _) _ _ s
 unfold Builtin.Dict.showsAll
 refine rwm (if_neg (by refine rwm hd ?_; exact Bool.false_ne_true)) ?_
 refine wpAny_bind (wpAny_pure (wpAny_bind (wpAny_dictEntries ho rfl (wpAny_bind (wpAny_dictEpoch ho rfl ?_)))))
 refine wpAny_bind (wpAny_newObj_type (wpAny_pure ⟨_, rfl, "dict_keyiterator", _, ⟨_, Heap.get?_push_size _ rfl, rfl⟩, F.slot_dict_keyiterator_next.lookup, ?_⟩))
 simpa [rawInt] using hQ
theorem j6p {e : DictEntry} {Q : Option Value -> Shared -> Prop} (hit : s.heap.IsKeyIter it d i es.length ep) (hod : s.heap.get? d = some (dictOf es ep)) (hx : es[i]? = some e)
   (hQ : ∀ h', h'.IsKeyIter it d (i + 1) es.length ep -> Heap.SameBut it s.heap h' -> Q (some e.key) { s with heap := h' }) : wpAny (model prog w) A (pyNext (.ref it)) Q E s := by
 refine e13 (id hit :) fun o ho hc hd => ?_
 unfold pyNext
 refine wpAny_bind (wpAny_attempt (wpAny_callSpecial?_slot (name := Str.ofString "__next__") hit.typeIs F.slot_dict_keyiterator_next
   (wpAny_call_entry F.slot_dict_keyiterator_next hit.typeIs F.entry_dict_keyiterator_next ?_ (F.args_dict_keyiterator_next_1 _))))
 refine wpAny_bind (wpAny_pure (wpAny_bind (wpAny_bind ?_)))
 first | refine wpAny_bind (wpAny_typeNameOfWhole_keyiter hit.typeIs (wpAny_pure ?_)) | refine wpAny_bind (wpAny_typeNameOf_keyiter hit.typeIs (wpAny_pure ?_))
 refine wpAny_bind (wpAny_fieldsOf ho hd ?_)
 refine rwm (if_neg (show ¬ (Builtin.Dict_items.ownsTuple "dict_keyiterator" = true) by decide)) ?_
 show wpAny _ _ (if (Value.ref d == Value.none) = true then _ else _) _ _ s
 refine rwm (if_neg (show ¬ ((Value.ref d == Value.none) = true) from Bool.false_ne_true)) ?_
 refine wpAny_bind (wpAny_pure (wpAny_bind (wpAny_dictEntries hod rfl ?_)))
 refine rwm (if_neg (by simp)) ?_
 refine wpAny_bind (wpAny_pure (wpAny_bind (wpAny_dictEpoch hod rfl ?_)))
 refine rwm (if_neg (by simp)) ?_
 refine wpAny_pure ?_
 have hx' : es.toArray[i]? = some e := by simpa using hx
 dsimp only
 (refine rwm (if_neg (show ¬ ((i : Int) < 0) from Int.not_lt.mpr (Int.natCast_nonneg i))) ?_; refine rwm (Int.toNat_natCast _) ?_; refine rwm hx' ?_)
 refine wpAny_bind ?_
 first | refine wpAny_bind (wpAny_typeNameOfWhole_keyiter hit.typeIs (wpAny_pure ?_)) | refine wpAny_bind (wpAny_typeNameOf_keyiter hit.typeIs (wpAny_pure ?_))
 refine wpAny_bind (wpAny_isOneOf_keyiter hit.typeIs ?_)
 show wpAny _ _ (setField (.ref it) 1 (rawInt ((i : Int) + 1)) >>= _) _ _ s
 refine wpAny_bind (wpAny_setField ho hd (by simp) ?_)
 have hit' : (s.heap.update it (Obj.mapFields (·.setIfInBounds 1 (rawInt ((i : Int) + 1))))).IsKeyIter it d (i + 1) es.length ep :=
   ⟨_, Heap.get?_update_self _ ho (Obj.isFreed_of_fields (Obj.data_mapFields hd _)), (Obj.cls_mapFields ..).trans hc, by refine rwm (Obj.data_mapFields hd _) ?_; simp [rawInt]⟩
 refine wpAny_bind (wpAny_holding ?_)
 refine wpAny_bind (wpAny_isOneOf_keyiter (s := { s with heap := s.heap.update it (Obj.mapFields (·.setIfInBounds 1 (rawInt ((i : Int) + 1)))) }) hit'.typeIs ?_)
 exact wpAny_pure (wpAny_pure ⟨_, rfl, wpAny_pure (hQ _ hit' (Heap.SameBut.update ..))⟩)
end
end
section
open PySem PySem.W PySem.Calls PyProof PyProof.Rows
section
variable {prog : Program} {w : World} {A : Around} {E : Value -> Shared -> Prop} {s : Shared} {d it : Addr} {es : List DictEntry} {i ep : Nat}
theorem j96 {Q : Option Value -> Shared -> Prop} (hh : A.handled = none) (hit : s.heap.IsKeyIter it d i es.length ep) (hod : s.heap.get? d = some (dictOf es ep)) (hx : es.length <= i)
   (hQ : ∀ h', Heap.ExtBut it s.heap h' -> Q none { s with heap := h' }) : wpAny (model prog w) A (pyNext (.ref it)) Q E s := by
 refine e13 (id hit :) fun o ho hc hd => ?_
 unfold pyNext
 refine wpAny_bind (wpAny_attempt (wpAny_callSpecial?_slot (name := Str.ofString "__next__") hit.typeIs F.slot_dict_keyiterator_next
   (wpAny_call_entry F.slot_dict_keyiterator_next hit.typeIs F.entry_dict_keyiterator_next ?_ (F.args_dict_keyiterator_next_1 _))))
 refine wpAny_bind (wpAny_pure (wpAny_bind (wpAny_bind ?_)))
 first | refine wpAny_bind (wpAny_typeNameOfWhole_keyiter hit.typeIs (wpAny_pure ?_)) | refine wpAny_bind (wpAny_typeNameOf_keyiter hit.typeIs (wpAny_pure ?_))
 refine wpAny_bind (wpAny_fieldsOf ho hd ?_)
 refine rwm (if_neg (show ¬ (Builtin.Dict_items.ownsTuple "dict_keyiterator" = true) by decide)) ?_
 show wpAny _ _ (if (Value.ref d == Value.none) = true then _ else _) _ _ s
 refine rwm (if_neg (show ¬ ((Value.ref d == Value.none) = true) from Bool.false_ne_true)) ?_
 refine wpAny_bind (wpAny_pure (wpAny_bind (wpAny_dictEntries hod rfl ?_)))
 refine rwm (if_neg (by simp)) ?_
 refine wpAny_bind (wpAny_pure (wpAny_bind (wpAny_dictEpoch hod rfl ?_)))
 refine rwm (if_neg (by simp)) ?_
 refine wpAny_pure ?_
 have hx' : es.toArray[i]? = none := Array.getElem?_eq_none (by simpa using hx)
 dsimp only
 (refine rwm (if_neg (show ¬ ((i : Int) < 0) from Int.not_lt.mpr (Int.natCast_nonneg i))) ?_; refine rwm (Int.toNat_natCast _) ?_; refine rwm hx' ?_)
 refine wpAny_bind ?_
 first | refine wpAny_bind (wpAny_typeNameOfWhole_keyiter hit.typeIs (wpAny_pure ?_)) | refine wpAny_bind (wpAny_typeNameOf_keyiter hit.typeIs (wpAny_pure ?_))
 show wpAny _ _ (setField (.ref it) 0 .none >>= _) _ _ s
 refine wpAny_bind (wpAny_setField ho hd (by simp) ?_)
 refine wpAny_bind ?_
 simp only [newExc, newTuple]
 refine wpAny_bind (wpAny_newObj_type ?_ (by size_fits))
 refine wpAny_bind (m := firstArgMember _ _) (wpAny_of_eq (a := Value.none) (by first | rfl | (simp only [firstArgMember]; rfl)) ?_)
 refine wpAny_newObj_type ?_ (by size_fits)
 refine wpAny_raiseNew_none (show A.in1.handled = none from hh) ?_
 refine wpAny_bind (wpAny_isInstance (T := "StopIteration") (b := true) ⟨_, Heap.get?_push_size _ rfl, rfl⟩ isSubtype_stop ?_)
 exact wpAny_pure (hQ _ (((Heap.SameBut.update ..).extBut.push _).push _))
theorem j2s (hh : A.handled = none) (I d : Addr) (hne : d ≠ I) (es : List DictEntry) (ep : Nat) :
   Walks prog w A I [I, d] [I] es.length (fun i v => ∃ e, es[i]? = some e /\ v = e.key) (fun i h => h.IsKeyIter I d i es.length ep /\ h.get? d = some (dictOf es ep)) where
 sub := fun b hb => by simp at hb; simp [hb]
 frame := fun W0 W0 W0 st hk => ⟨st.1.at fun o e => hk I (by simp) o e, hk d (by simp) _ st.2⟩
 item := fun i s Q E hi st hQ => by
   have hx : es[i]? = some es[i] := List.getElem?_eq_getElem hi
   refine j6p st.1 st.2 hx fun h' hit' hs' => ?_
   exact hQ _ h' s.toks ⟨_, hx, rfl⟩ ⟨hit', (hs'.2 d hne).trans st.2⟩ fun b o hb e => hs'.extBut b o (fun h => hb (by simp [h])) e
 done := fun s Q E st hQ => j96 hh st.1 st.2 (Nat.le_refl _) fun h' he' => hQ h' s.toks fun b o hb e => he' b o (fun h => hb (by simp [h])) e
 self := fun W0 W0 W0 W0 st hQ => wpAny_pyIter_keyiter st.1 hQ
end
end
section
open PySem PySem.W PySem.Calls PyProof PyProof.Rows
section
variable {c : Cx} {P : Pt} {ρ : Loc} {st : St} {X : Exc} {g : Gh}
theorem TabR.length {xs : List (List Z × V)} {es : List DictEntry} (h : TabR c g xs es) : es.length = xs.length := by
 induction h with
 | nil => rfl
 | cons _ _ _ _ _ ih => (refine rwm List.length_cons ?_; refine rwm List.length_cons ?_; refine rwm ih ?_; rfl)
theorem TabR.keyAt {xs : List (List Z × V)} {es : List DictEntry} (h : TabR c g xs es) : ∀ {i : Nat} {v : V} {e : DictEntry}, (xs.map fun x => V.tup (x.1.map Z.toV))[i]? = some v -> es[i]? = some e -> VR c g v e.key := by
 induction h with
 | nil => intro i v e h _; simp at h
 | cons hz hh hr hv _ ih =>
   intro i v e h1 h2
   induction i using Nat.casesOn with
   | zero =>
     simp at h1 h2
     subst h1; subst h2
     exact .tup hh (hz.vrs hr)
   | succ i =>
     simp only [List.map_cons, List.getElem?_cons_succ] at h1 h2
     exact ih h1 h2
theorem z6c {elt tgt iter : Expr} {scope : Scope} {pos : Pos} {cn : List (Str × Nat)} {Q : V -> St -> Prop} (k : LcOk P scope iter cn) (hs : q8k c)
   (h : EvE c P ρ st iter (fun v st₁ => ∃ n xs, v = .ref n /\ st₁.get n = some (.tab xs none) /\ xs.length <= sizeLine /\ ∀ es kk, LcQ c P scope cn elt tgt Q (some (n, xs, es, kk)) (xs.map fun x => V.tup (x.1.map Z.toV)) [] (st₁.set n (.tab xs (some (es, kk))))) X) : EvE c P ρ st (.ListComp elt [⟨tgt, iter, [], 0⟩] scope pos) Q X :=
 fun g pv m ns news h0 s W0 Qc Ec a W0 K => by
   refine e12 (k.clos a :) fun cl hclos hcel => ?_
   show wpAny _ _ (eval (.ListComp elt [⟨tgt, iter, [], 0⟩] scope pos) P.env) _ _ _
   rw [eval_ListComp]
   refine wpAny_comprehension_free (use := none) rfl k.hs hclos k.kind k.names (h.use a K fun g1 news1 h01 s1 x W0 st1 l1 a1 r1 q1 K1 => ?_)
   (refine e24 q1 fun n xs r => ?_; subst r; intro e hsz hq)
   (refine e22 r1.refI fun b d r => ?_; subst r; intro hp)
   refine e22 (a1.hk.own n _ e :) fun b1 d1 w1 w2 => ?_
   rw [hp] at w1
   cases w1
   obtain rfl := w2.tabI.1
   refine e23 (a1.pin e hp :) fun es kk hm hr aP => ?_
   have hob := (a1.nw _ hm).1
   have hne' : b ≠ s1.heap.objs.size := Nat.ne_of_lt (Heap.lt_size hob)
   refine j6e (a1.notSys e hp) hob ?_
   have hf : ∀ p ∈ news1, p.1 ≠ s1.heap.objs.size := fun p hp => Nat.ne_of_lt (a1.ltSize p hp)
   have N := a1.nw.push a1.fr { cls := .type "dict_keyiterator", data := .fields #[.ref b, .int 0 0, .int es.length 0, .int kk 0] }
   have It : ItIx c P g1 s1.heap.objs.size (xs.map fun x => V.tup (x.1.map Z.toV)) es.length [s1.heap.objs.size, b] _ _ (some (n, xs, es, kk)) :=
     ⟨j2s (a1.ok.hand k.nh) _ b hne' es kk, by (refine rwm (List.length_map _) ?_; refine rwm hr.length ?_; rfl), fun i v x hv hx => by
       (refine e12 hx fun e' h1 r => ?_; subst r)
       exact hr.keyAt hv h1, fun q hq => by
       rcases mc hq with rfl | hq
       . exact .inl rfl
       . refine rwm (List.mem_singleton.mp hq) ?_
         exact .inr (.inr ⟨n, xs, es, kk, rfl, hp⟩), fun i h hS => by
       obtain ⟨⟨o, ho, _⟩, _⟩ := hS
       exact ⟨o, ho⟩, fun i s' tgt v Q' E hS h => letGo_keyiter hS.1 h⟩
   have hne : P.env.locals ≠ s1.heap.objs.size := by
     rcases a1.nsk with ⟨e, _⟩ | ⟨oX, hm, _⟩
     . refine rwm e ?_; exact Ne.symm (N _ (.head _)).2.1
     . exact hf _ (a1.hk.pvi _ hm)
   refine q44 (s := { s1 with heap := s1.heap.push _ }) (g := g1) It (by show St.get _ _ = _; (rewrite [St.get_set]; refine rwm (if_pos rfl) ?_; rfl)) (.inl rfl) k.nh (by refine rwm (List.length_map _) ?_; exact hsz) k.cell k.kind (fun x n e => by refine e12 (hcel x n e :) fun b e1 e2 => ?_; exact ⟨b, e1, l1.pl _ _ e2⟩) .rfl (aP.pvPush (a1.fr.push _) N hf) hne ⟨⟨_, Heap.get?_push_size _ rfl, rfl, rfl⟩, Heap.get?_push_of_some _ hob⟩ (fun p hp => hf p (a1.hk.pvi p hp)) (hq es kk) fun g' D C mC news' h2 tk2 ys st' l' a2 r2 q2 hN hC hL h0C => ?_
   exact ⟨mC, hN, fun h3 hs3 => K1.ok g' _ h01 h3 tk2 _ _ st' l' .rfl (a2.butC hC hL h0C fun b ob hb e => (hs3.2 b hb).trans e) r2 q2⟩
end
end
section
open PySem PySem.W PySem.Calls PyProof PyProof.Rows
section
variable {c : Cx} {P : Pt} {ρ : Loc} {st : St} {X : Exc} {g : Gh} {pv news : List (Addr × Obj)} {m ns : Str -> Option Value} {h0 h : Heap}
theorem At.unpin (a : At c P g ρ st pv m ns news h0 h) {n : Nat} {xs : List (List Z × V)} {pin : Option (List DictEntry × Nat)} (e : st.get n = some (.tab xs pin)) : At c P g ρ (st.set n (.tab xs none)) pv m ns news h0 h := by
 have H := a.hk
 have back : ∀ {i o}, (st.set n (.tab xs none)).get i = some o -> ∃ o', st.get i = some o' := fun {i o} h => by
   rw [St.get_set] at h
   by_cases q : i = n
   . exact ⟨_, q ▸ e⟩
   . rw [if_neg q] at h
     exact ⟨_, h⟩
 refine ⟨a.ok, a.below, a.dicts, a.fr, a.nw, ⟨H.kni, H.pvi, fun i o ei => ?_, fun i o a' d' ei k' => ?_, fun i j o o' a1 d1 a2 d2 hij ei ej k1 k2 => ?_, fun i hi => H.fin i hi, H.pk⟩, a.loc, a.cel, a.nsk⟩
 . rw [St.get_set] at ei
   by_cases q : i = n
   . subst q
     rw [if_pos rfl] at ei
     cases ei
     refine e22 (H.own i _ e :) fun b d h1 r1 => ?_
     obtain ⟨rfl, es, k, hm, hr, _⟩ := r1.tabI
     exact ⟨b, b, h1, .tab hm hr (fun W0 h => nomatch h) r1.tabS⟩
   . rw [if_neg q] at ei
     exact H.own i o ei
 . obtain ⟨o', e'⟩ := back ei
   exact H.off i o' a' d' e' k'
 . obtain ⟨o1, e1⟩ := back ei
   obtain ⟨o2, e2⟩ := back ej
   exact H.apart i j o1 o2 a1 d1 a2 d2 hij e1 e2 k1 k2
theorem TrG.unpin {ι α β : Type} {Rel : Gh -> ι -> Prop} {R : Gh -> β -> α -> Prop} {t : ι -> Sem α} {Q Q' : β -> St -> Prop} (h : TrG c P ρ st Rel R t Q' X) (hq : ∀ b st', Q' b st' -> ∃ n xs p, st'.get n = some (.tab xs p) /\ Q b (st'.set n (.tab xs none))) : TrG c P ρ st Rel R t Q X :=
 fun g pv m ns news h0 s i Qc Ec a hi K => h g pv m ns news h0 s i Qc Ec a hi ⟨fun g' news' h0' h' tk x b st' l v a' r q => by
   refine e32 (hq b st' q :) fun n xs p e q => ?_
   exact K.ok g' news' h0' h' tk x b _ l v (a'.unpin e) r q, K.ex⟩
end
end
noncomputable abbrev bmX (S : Addr) : List Value := [.ref S, .type "Exception", .type "BaseException", .type "object"]
noncomputable def j87 (d : Data) : Option ClassData := match d with
 | .cls cd => some cd
 | _ => none
theorem z9h {d : Data} {cd : ClassData} (h : j87 d = some cd) : d = .cls cd := by
 cases d with
 | cls x => exact congrArg Data.cls (oi h)
 | _ => exact zns h
noncomputable def wRef (w : Value) : Addr := match w with
 | .ref a => a
 | _ => 0
noncomputable def xcB (K : Frag) (C : Addr) : Bool := (K.lookup C).any fun o => (j87 o.data).any fun cd => (three (o.slots.toList.take 3)).any fun p => (three (o.slots.toList.drop 3)).any fun q =>
 o.cls == .type "type" && (cd.mro == .ref C :: bmX (wRef (cd.mro.getD 1 .none)) && (q.2.1 == some (.builtin "Exception.__new__") && (!cd.hasDel && cd.hasDict)))
theorem z91 {cd : ClassData} {m : List Value} (h1 : cd.mro = m) (h2 : cd.hasDict = true) (h3 : cd.hasDel = false) : cd = { name := cd.name, bases := cd.bases, mro := m, ns := cd.ns, qualname := cd.qualname, hasDict := true, slotNames := cd.slotNames, subclasses := cd.subclasses, abstract := cd.abstract, collection := cd.collection, hasDel := false } := by
 (refine rwb h1 ?_; refine rwb h3 ?_; refine rwb h2 ?_; rfl)
inductive XcC (K : Frag) (C : Addr) : Prop
 | mk {nm qn : Str} {N : Addr} {bs : List Value} {S : Addr} {sn : List Str} {sub : List Value} {ab : Bool} {col : Option Bool} {dd : Option Addr} {k0 k1 k2 k3 k5 : Option Value} (hK : K.lookup C = some (excClassObj nm qn C N bs (bmX S) true sn sub ab col dd k0 k1 k2 k3 k5 "Exception.__new__")) (hcd : clsIn K C = some { name := nm, bases := bs, mro := .ref C :: bmX S, ns := N, qualname := qn, hasDict := true, slotNames := sn, subclasses := sub, abstract := ab, collection := col, hasDel := false }) : XcC K C
theorem j3w {K : Frag} {C : Addr} (q : xcB K C = true) : XcC K C := by
 refine hid fun hG => ?_
 obtain ⟨o, ho, q⟩ := any_is q
 obtain ⟨cd, h1, q⟩ := any_is q
 obtain ⟨a, h2, q⟩ := any_is q
 obtain ⟨b, h3, q⟩ := any_is q
 obtain ⟨b1, q⟩ := q0m q
 obtain ⟨b2, q⟩ := q0m q
 obtain ⟨b3, q⟩ := q0m q
 obtain ⟨b4, b5⟩ := q0m q
 refine hG ?_
 have hs : o.slots = #[a.1, a.2.1, a.2.2, b.1, some (.builtin "Exception.__new__"), b.2.2] := by
   have e : o.slots.toList = o.slots.toList.take 3 ++ o.slots.toList.drop 3 := (List.take_append_drop 3 _).symm
   rw [q30 h2, q30 h3, eq_of_beq b3] at e
   exact congrArg List.toArray e
 have hc := z91 (eq_of_beq b2) b5 (q5z b4)
 have hd : o = ⟨o.cls, o.dict, o.data, o.slots⟩ := rfl
 rw [eq_of_beq b1, z9h h1, hs, hc] at hd
 rw [hd] at ho
 exact ⟨ho, by unfold clsIn; (refine rwm ho ?_; rfl)⟩
theorem q5e {C S : Addr} {t : String} : (Value.ref C :: bmX S).contains (.type t) = (t == "Exception" || t == "BaseException" || t == "object") := by
 rw [Bool.eq_iff_iff]
 simp [bmX, or_assoc]
section
variable {prog : Program} {w : World} {A : Around} {h : Heap} {g : Array GenState} {d : Drawn} {t : Nat} {os : OsState}
variable {nm q : Str} {C N S : Addr} {bs : List Value} {hdct : Bool} {sn : List Str} {sub : List Value} {ab : Bool} {col : Option Bool} {dd : Option Addr} {k0 k1 k2 k3 k5 : Option Value}
theorem j2y {M : Model} {E : Value -> Shared -> Prop} {rest : List Value} {Q : Unit -> Shared -> Prop} (hC : h.get? C = some (excClassObj nm q C N bs (bmX S) hdct sn sub ab col dd k0 k1 k2 k3 k5 "Exception.__new__")) (hq : Q () ⟨h, g, d, t, os⟩) :
   wpAny M A (checkBuiltinCall "Exception.__new__" ⟨.ref C :: rest, []⟩) Q E ⟨h, g, d, t, os⟩ :=
 wpAny_check_new_subU PySem.F.excBase_Exception (bmB := bmX S) rfl .base hC hq
theorem x21 {R : Result -> Shared -> Prop} {rest : List Value} (hC : h.get? C = some (excClassObj nm q C N bs (bmX S) hdct sn sub ab col dd k0 k1 k2 k3 k5 "Exception.__new__"))
   (hq : R (.ok (.ret (.ref (h.objs.size + 1)))) ⟨(h.push { cls := .type "tuple", data := .seq rest.toArray }).push { cls := .ref C, data := .fields #[.ref h.objs.size, .none, .none, .none, .bool false, .none] }, g, d, t, os⟩) (hrest : rest.length <= sizeLine) :
   codeAny (model prog w) A (.builtin "Exception.__new__" ⟨.ref C :: rest, []⟩) R ⟨h, g, d, t, os⟩ := by
 have F := PySem.F.excBase_Exception
 have hends := F.ends
 have hB : (Value.ref C :: bmX S).contains (.type "Exception") = true := by refine rwm q5e ?_; rfl
 have hA : (Value.ref C :: bmX S).contains (.type "AttributeError") = false := by refine rwm q5e ?_; decide
 have hN : (Value.ref C :: bmX S).contains (.type "NameError") = false := by refine rwm q5e ?_; decide
 refine codeAny_builtinAt F.entry ?_
 unfold Builtin.«BaseException.__new__»
 refine PySem.wpAt_bind ?_
 refine PySem.wpAt_bind (PySem.wpAt_stack fun p below => PySem.wpAt_of_wpAny ?_)
 wp_walk
 refine PySem.wpAt_of_wpAny ?_
 refine rwm F.owner ?_
 repeat (first | with_reducible refine wpAny_madeHere_exc F.canon hC ?_ | with_reducible refine wpAny_loadPart_at hC ?_ | (with_reducible refine wpAny_isSubtype_exc hC ?_; first | refine rwm hB ?_ | rw [hA] | rw [hN]) | wp_step)
 refine rwm (Heap.size_push _ _) ?_
 exact hq
theorem q9y {K : Frag} {E : Value -> Shared -> Prop} {fI : Addr} {rest : List Value} {Q : Fin -> Shared -> Prop} (X : K.In h) (hC : h.get? C = some (excClassObj nm q C N bs (bmX S) hdct sn sub ab col dd k0 k1 k2 k3 k5 "Exception.__new__"))
   (hi : findIn K (.ref C) "__init__" = some (some (.ref fI))) (hf : typeIn K (.ref fI) = some (.type "function"))
   (hq : ∀ h' e, Heap.MadeExcOf h h' e (.ref C) rest -> wpAny (model prog w) A (call (.ref fI) (.ref e :: rest)) (fun r s' => r = .none /\ Q (.done (.ret (.ref e))) s') E ⟨h', g, d, t, os⟩) (hrest : rest.length <= sizeLine) :
   wpAny (model prog w) A (Builtin.«type.__call__» ⟨.ref C :: rest, []⟩) Q E ⟨h, g, d, t, os⟩ := by
 have F := PySem.F.excBase_Exception
 repeat (first | with_reducible refine wpAny_loadPart_at hC ?_ | with_reducible refine wpAny_madeBy_exc hC ?_ | wp_step)
 refine codeAny_call_builtin_code (Code.quiet_builtin _ F.quiet) (j2y hC ?_)
 refine x21 hC ?_ hrest
 have k : ∀ b o, h.get? b = some o -> ((h.push { cls := .type "tuple", data := .seq rest.toArray }).push { cls := .ref C, data := .fields #[.ref h.objs.size, .none, .none, .none, .bool false, .none] }).get? b = some o := fun b o e => Heap.get?_push_of_some _ (Heap.get?_push_of_some _ e)
 have hC1 := k _ _ hC
 have X1 : K.In ((h.push { cls := .type "tuple", data := .seq rest.toArray }).push { cls := .ref C, data := .fields #[.ref h.objs.size, .none, .none, .none, .bool false, .none] }) := X.keeps k
 have hget : ((h.push { cls := .type "tuple", data := .seq rest.toArray }).push { cls := .ref C, data := .fields #[.ref h.objs.size, .none, .none, .none, .bool false, .none] }).get? (h.objs.size + 1) = some { cls := .ref C, data := .fields #[.ref h.objs.size, .none, .none, .none, .bool false, .none] } := by heap_get
 have hCC : (Value.ref C :: bmX S).contains (.ref C) = true := by simp
 unfold isInstance
 repeat (first | with_reducible refine wpAny_loadPart_at hget ?_ | (with_reducible refine wpAny_isSubtype_exc hC1 ?_; refine rwm hCC ?_) | wp_step)
 refine (looks_findIn X1 hi).here ?_
 refine wpAny_holding (wpAny_bind ((bind_fn X1 _ hf).here ?_))
 refine wpAny_bind (wpAny_mono (hq _ (h.objs.size + 1) ⟨k, Heap.get?_none_of_le (Nat.le_succ _), h.objs.size, hget, Heap.get?_none_of_le (Nat.le_refl _), Heap.get?_push_of_some _ (Heap.get?_push_at rfl rfl)⟩) (fun r s' hr => ?_) fun W0 W0 x => x)
 obtain ⟨rfl, hQ⟩ := hr
 wp_walk
 exact hQ
theorem j8m {K : Frag} {E : Value -> Shared -> Prop} {fI : Addr} {rest : List Value} {Q : Value -> Shared -> Prop} (X : K.In h) (hC : h.get? C = some (excClassObj nm q C N bs (bmX S) hdct sn sub ab col dd k0 k1 k2 k3 k5 "Exception.__new__"))
   (hi : findIn K (.ref C) "__init__" = some (some (.ref fI))) (hf : typeIn K (.ref fI) = some (.type "function"))
   (hq : ∀ h' e, Heap.MadeExcOf h h' e (.ref C) rest -> wpAny (model prog w) (A.under (.builtin "type.__call__" ⟨.ref C :: rest, []⟩)) (call (.ref fI) (.ref e :: rest)) (fun r s' => r = .none /\ Q (.ref e) s') E ⟨h', g, d, t, os⟩) (hrest : rest.length <= sizeLine) :
   wpAny (model prog w) A (call (.ref C) rest) Q E ⟨h, g, d, t, os⟩ := by
 have f1 := tc_lookup
 have f2 := tc_bind (.ref C)
 have hT : (⟨h, g, d, t, os⟩ : Shared).TypeIs (.ref C) "type" := ⟨_, hC, rfl⟩
 refine wpAny_call (codeAny_of_tree ?_)
 show wpAny _ _ (callAny (.ref C) _) _ _ _
 repeat (any_goals (first | assumption | with_reducible refine wpAny_loadPart_at hC ?_ | wp_step))
 refine ⟨rfl, ?_⟩
 refine codeAny_call_builtin_at (Code.quiet_builtin _ (by decide +kernel)) entry_typeCall (wpAny_check_type_call_sub hC (q9y X hC hi hf (fun h' e hm => ?_) hrest))
 exact hq h' e hm
end
section
open Builtin Builtin.ObjectAttr
structure XcIn (K : Frag) (C fI : Addr) (attr : Str) : Prop where
 cls : xcB K C = true
 init : findIn K (.ref C) "__init__" = some (some (.ref fI))
 initT : typeIn K (.ref fI) = some (.type "function")
 sa : findIn K (.ref C) "__setattr__" = some (some (.builtin "object.__setattr__"))
 at_ : findIn K (.ref C) attr = some none
section
variable {prog : Program} {w : World} {A : Around} {E : Value -> Shared -> Prop} {h : Heap} {g : Array GenState} {d : Drawn} {t : Nat} {os : OsState} {K : Frag} {C e fI : Addr} {vs : Array Value}
theorem z88 {S : Addr} (self : Value) : refuseLoop self "__setattr__" (.ref C :: bmX S) = pure () := by
 rw [refuseLoop_ref, refuseLoop_ref]
 exact PySem.F.store_Exception.passes self
theorem j2z {name : Str} {v : Value} {tk : Tok} {R : Result -> Shared -> Prop} (X : K.In h) (Y : XcIn K C fI name) (he : h.get? e = some { cls := .ref C, data := .fields vs })
   (hq : ∀ h' D tk', (∀ b o, b ≠ e -> h.get? b = some o -> h'.get? b = some o) -> h'.get? e = some { cls := .ref C, dict := some D, data := .fields vs } -> R (.ok (.ret .none)) ⟨h', g, d, tk', os⟩) :
   codeAny (model prog w) A (.call (.builtin "object.__setattr__") ⟨[.ref e, .str name tk, v], []⟩) R ⟨h, g, d, t, os⟩ := by
 obtain @⟨nm, qn, N, bs, S, sn, sub, ab, col, dd, k0, k1, k2, k3, k5, hK, hcd⟩ := j3w Y.cls
 have hC := X _ _ hK
 have SF := PySem.F.store_object
 have I : InstAt h e { cls := .ref C, data := .fields vs } C none := ⟨he, rfl, rfl, trivial⟩
 have hm : Looks (model prog w) h (mroOf (.ref C)) (.ref C :: bmX S) := (looks_clsIn X hcd).andThen .now
 have sub : Looks (model prog w) h (isInstance (.ref e) (.type "object")) true := I.type.andThen (looks_mroIn X (by unfold mroIn; (refine rwm hcd ?_; refine rwm (Option.bind_some _ _) ?_; refine rwm (if_neg (by simp)) ?_; refine rwm q5e ?_); rfl))
 refine codeAny_call_builtin SF.slot.plain SF.entry (@check_slot (model prog w) _ _ ⟨h, g, d, t, os⟩ "object.__setattr__" "object" "__setattr__" (.ref e) [.str name tk, v] [] _ SF.kind SF.split sub (SF.args (.ref e) (.str name tk) v) ?_)
 (rewrite [osa_eq]; refine rwm (refuse_eq _ _) ?_)
 refine wpAny_bind (wpAny_bind (I.type.here (wpAny_bind (hm.here ?_))))
 refine rwm (z88 _) ?_
 refine wpAny_pure (wpAny_bind (I.type.here (wpAny_bind ((looks_findIn X Y.at_).here (wpAny_bind (wpAny_pure (a := (none : Option Value)) ?_))))))
 unfold storeInOwnDict
 refine wpAny_bind (wpAny_pure ?_)
 have nm : (Value.ref C == Value.type "module") = false := rfl
 simp only [nm, Bool.false_eq_true, if_false]
 refine wpAny_bind ?_
 refine wpAny_bind (wpAny_loadPart_at he (wpAny_bind ((looks_clsIn X hcd).here ?_)))
 simp only [Bool.not_true, Bool.false_eq_true, if_false]
 have hx₁ : (h.push { cls := .type "dict", data := .dict #[] }).get? e = some { cls := .ref C, data := .fields vs } := Heap.get?_push_of_some _ he
 have hxs : e ≠ h.objs.size := Nat.ne_of_lt (Heap.lt_size he)
 refine wpAny_bind (wpAny_alloc' ?_)
 refine wpAny_bind (wpAny_update' hx₁ ?_)
 refine wpAny_pure (a := some h.objs.size) ?_
 show wpAny _ _ (storeInDict h.objs.size (.str name tk) name v) _ _ _
 have hgd : ((h.push { cls := .type "dict", data := .dict #[] }).update e fun o => { cls := o.cls, dict := some h.objs.size, data := o.data, slots := o.slots }).get? h.objs.size = some { cls := .type "dict", data := .dict #[] } :=
   (Heap.get?_update_ne _ _ _ _ hxs.symm).trans (Heap.get?_push_at rfl rfl)
 have hnd : ((h.push { cls := .type "dict", data := .dict #[] }).update e fun o => { cls := o.cls, dict := some h.objs.size, data := o.data, slots := o.slots }).Ns h.objs.size (fun W0 => none) :=
   ⟨_, #[], _, hgd, rfl, fun x hx => absurd hx (by simp), fun W0 => rfl⟩
 unfold storeInDict newKeyGuard
 refine wpAny_bind (wpAny_pure (wpAny_bind (wpAny_nsSet1 (Heap.Ns1.of_empty hnd) fun h' hn' hs => ?_)))
 refine e33 (hn'.count (Within.cons name v Within.nil) :) fun oD esD epD hoD hdD hcD => ?_
 refine wpAny_bind (wpAny_lookBehind hoD (by refine rwm hdD ?_; exact pastItsLine_dict (Nat.le_trans hcD (by (refine rwm List.length_cons ?_; refine rwm List.length_nil ?_; refine rwm sizeLine_eq ?_); omega))) ?_)
 refine wpAny_pure (hq h' h.objs.size _ (fun b o hb q => ?_) ?_)
 . exact (hs.2 b (Nat.ne_of_lt (Heap.lt_size q))).trans ((Heap.get?_update_ne _ _ _ _ hb).trans (Heap.get?_push_of_some _ q))
 . exact (hs.2 e hxs).trans (Heap.get?_update_self _ hx₁ rfl)
theorem x22 {name : Str} {v : Value} {Q : Unit -> Shared -> Prop} (X : K.In h) (Y : XcIn K C fI name) (he : h.get? e = some { cls := .ref C, data := .fields vs })
   (hq : ∀ h' D tk', (∀ b o, b ≠ e -> h.get? b = some o -> h'.get? b = some o) -> h'.get? e = some { cls := .ref C, dict := some D, data := .fields vs } -> Q () ⟨h', g, d, tk', os⟩) :
   wpAny (model prog w) A (setAttr (.ref e) name v) Q E ⟨h, g, d, t, os⟩ :=
 set_plain (s := ⟨h, g, d, t, os⟩) (od := none) X ⟨he, rfl, rfl, trivial⟩ Y.sa (j2z X Y he fun h' D tk' k1 k2 => hq h' D tk' k1 k2)
end
end
section
variable {M : Model} {A : Around} {E : Value -> Shared -> Prop} {nm q : Str} {C N S : Addr} {bs : List Value} {hdct : Bool} {sn : List Str} {sub : List Value} {ab : Bool} {col : Option Bool} {dd : Option Addr} {k0 k1 k2 k3 k5 : Option Value} {newId : String}
theorem q51 {s : Shared} {env : Env} {x : Sem Value} {Q : Flow -> Shared -> Prop} (hh : A.handled = none)
   (h : wpAny M A x (fun v s₁ => ∃ e t D, v = .ref e /\ s₁.heap.get? C = some (excClassObj nm q C N bs (bmX S) hdct sn sub ab col dd k0 k1 k2 k3 k5 newId) /\
     s₁.heap.get? e = some { cls := .ref C, dict := D, data := .fields #[.ref t, .none, .none, .none, .bool false, .none] } /\ E (.ref e) s₁) E s) :
   wpAny M A (raiseStmt env (some x) none) Q E s := by
 have hcB : (Value.ref C :: bmX S).contains (.type "BaseException") = true := by refine rwm q5e ?_; rfl
 unfold raiseStmt
 refine wpAny_bind (wpAny_mono h (fun v s₁ h₁ => ?_) fun W0 W0 x => x)
 (refine e34 h₁ fun e t D r => ?_; subst r; intro hC he hE)
 obtain ⟨hp, g, d, tk, os⟩ := s₁
 repeat (first | with_reducible refine wpAny_loadPart_at he ?_ | with_reducible refine wpAny_loadPart_at hC ?_ | (with_reducible refine wpAny_isSubtype_exc hC ?_; refine rwm hcB ?_) | wp_step)
 exact wpAny_raiseNew_none hh hE
end
inductive XiIs (K : Frag) (fI : Addr) (attr : Str) : Prop
 | mk {s1 s2 : Str} {sp mp ap bp : Pos} {sc : Scope} {qual : Str} {cdv : Value} (I : FnIs K fI [s1, s2] [.Assign [.Attribute (.Name s1 sp) attr ap] (.Name s2 mp) bp] sc [] qual cdv) (hne : s1 ≠ s2) (hcell : ∀ x ∈ sc.names, x.2 ≠ .cell) (hl1 : sc.names.lookup s1 = some .local) (hl2 : sc.names.lookup s2 = some .local) (hco : sc.isCoroutine = false) (hgen : sc.isGenerator = false) (hk : sc.kind = .function) (hb1 : (s1 == ("__debug__" : Str)) = false) (hb2 : (s2 == ("__debug__" : Str)) = false)
section
variable {c : Cx} {P : Pt} {ρ : Loc} {st : St} {X : Exc} {Q : Fl -> Loc -> St -> Prop}
theorem j8n {A : Around} {E : Value -> Shared -> Prop} {s : Shared} {C fI e : Addr} {attr : Str} {v : Value} {Qv : Value -> Shared -> Prop} (T : TopRead c.p c.loose c.mg c.mb h0) (hk0 : ∀ b o, h0.get? b = some o -> s.heap.get? b = some o) (hX : c.K.In s.heap) (hd : A.depth + 4 < recursionLimit)
   (Y : XcIn c.K C fI attr) (I : XiIs c.K fI attr) {vs : Array Value} (he : s.heap.get? e = some { cls := .ref C, data := .fields vs })
   (hq : ∀ h' D tk', (∀ b o, b ≠ e -> s.heap.get? b = some o -> h'.get? b = some o) -> h'.get? e = some { cls := .ref C, dict := some D, data := .fields vs } -> Qv .none { s with heap := h', toks := tk' }) :
   wpAny (model c.prog c.w) A (call (.ref fI) [.ref e, v]) Qv E s := by
 obtain @⟨s1, s2, sp, mp, ap, bp, sc, qual, cdv, I, hne, hcell, hl1, hl2, hco, hgen, hk, hb1, hb2⟩ := I
 obtain @⟨oc, od, name, params, dV, kV, doc, pm, an, ct, osl, ho, h1, h2, h3, h4, h5, hdv, hcd⟩ := I
 refine wpAny_call (codeAny_call_def (fd := { name, qualname := qual, params, body := .stmts _, scope := sc, globals := mainGlobals, closure := [], defaults := dV, kwdefaults := kV, doc, pyModule := pm, annotations := an, code := cdv, closureTuple := ct, builtins := builtinsNs }) (body := _) (binds := q0z [s1, s2] [.ref e, v] []) (by omega) (hX _ _ ho) rfl (T.nolimit.keeps hk0) (codeRec_of hX hcd) rfl
   (q7g h1 h2 h3 h4 h5 (j5e hX hdv) (by simp [hne]) (by simp) (by simp) (by simp)) hcell (fun y hy => ?_) (fun h₁ hns hk₁ => ?_) hco hgen hk)
 . have hy : y ∈ [(s1, Value.ref e), (s2, v)] := hy
   rcases mc hy with rfl | hy
   . exact hl1
   . rcases mc hy with rfl | hy
     . exact hl2
     . cases hy
 . have n2 : (q0z [s1, s2] [Value.ref e, v] []).reverse.lookup s2 = some v := by
     show List.lookup s2 [(s2, v), (s1, Value.ref e)] = _
     simp
   have n1 : (q0z [s1, s2] [Value.ref e, v] []).reverse.lookup s1 = some (.ref e) := by
     show List.lookup s1 [(s2, v), (s1, Value.ref e)] = _
     have : (s1 == s2) = false := by simpa using hne
     simp [List.lookup_cons, this]
   refine wpAny_execs_cons (plainObj_wpAny_Assign_Attribute (wpAny_Name (wpAny_loadName_local hk (by unfold Env.kindOf; exact hl2) hns n2 (wpAny_Name (wpAny_loadName_local hk (by unfold Env.kindOf; exact hl1) hns n1 ?_) hb1)) hb2) rfl)
   have X₁ : c.K.In h₁ := hX.keeps hk₁
   obtain ⟨hh, g, d, tk, os⟩ := s
   refine x22 X₁ Y (hk₁ _ _ he) fun h' D tk' k1 k2 => wpAny_execs_nil ?_
   exact hq h' D tk' (fun b o hb q => k1 b o hb (hk₁ b o q)) k2
theorem j0s {x : Str} {np kp cp pos : Pos} {C fI : Addr} {msg attr : Str} {k : Nat} (hn : P.nh = true) (hd : 0 < P.d) (hkeep : keepIn c.K (.ref C) = true) (Y : XcIn c.K C fI attr) (I : XiIs c.K fI attr)
   (hname : EvE c P ρ st (.Name x np) (fun v st' => v = .prim (.ref C) /\ X C st') X) : Ex1 c P ρ st (.Raise (some (.Call (.Name x np) [.Constant (.str msg) k kp] [] cp)) none pos) Q X :=
 fun g pv m news h0 s Qc Ec a K => by
   rw [arm_exec_Raise]
   obtain @⟨nm, qn, N, bs, S, sn, sub, ab, col, dd, k0, k1, k2, k3, k5, hK, hcd⟩ := j3w Y.cls
   have hC0 : ∀ {h' : Heap}, c.K.In h' -> h'.get? C = some (excClassObj nm qn C N bs (bmX S) true sn sub ab col dd k0 k1 k2 k3 k5 "Exception.__new__") := fun X' => X' _ _ hK
   have hh := a.ok.hand hn
   have main : wpAny (model c.prog c.w) P.A (eval (.Call (.Name x np) [.Constant (.str msg) k kp] [] cp) P.env) (fun v s₁ => ∃ e t D, v = .ref e /\ s₁.heap.get? C = some (excClassObj nm qn C N bs (bmX S) true sn sub ab col dd k0 k1 k2 k3 k5 "Exception.__new__") /\
     s₁.heap.get? e = some { cls := .ref C, dict := D, data := .fields #[.ref t, .none, .none, .none, .bool false, .none] } /\ Ec (.ref e) s₁) Ec s := by
     refine wpAny_Call_NameR (hname.useS a K fun g1 news1 h01 s1 f W0 st1 l1 a1 r1 q1 K1 => ?_)
     obtain ⟨rfl, q1⟩ := q1
     cases r1
     refine callWith_of (P := c.K.In) (by refine rwm (q5x (by rfl)) ?_; rfl) (fun h' X => q9a hkeep _ _ X) (q5m (q5x (by rfl)) (TrG.useS (i := ()) (q02 (QL := fun vs st' => vs = [.str msg] /\ X C st') (es := []) (X := X) (by rfl) (z6g (q17 ⟨rfl, q1⟩))) a1 trivial K1 fun g2 news2 h02 s2 xs vs st2 l2 a2 r2 q2 K2 => ⟨a2.kinH, ?_⟩))
     obtain ⟨rfl, q2⟩ := q2
     (refine e12 r2.oneI fun y r => ?_; subst r; intro r3)
     obtain ⟨hp, g, d, tk, os⟩ := s2
     refine j8m a2.kinH (hC0 a2.kinH) Y.init Y.initT (fun h' e hm => ?_) (by simp [sizeLine_eq])
     refine e13 hm.there fun t he htn ht => ?_
     have X3 : c.K.In h' := a2.kinH.keeps hm.keeps
     refine j8n (s := ⟨h', g, d, tk, os⟩) a2.tr (fun b o q => hm.keeps _ _ (a2.fr.keep _ _ q)) X3 ?_ Y I he fun h'' D tk' k1 k2 => ⟨rfl, e, t, some D, rfl, ?_, k2, ?_⟩
     . have := a.ok.depth
       show P.A.depth + 1 + 4 < recursionLimit
       omega
     . exact k1 _ _ (fun z => by have := hm.new; rw [<- z, hC0 a2.kinH] at this; exact zsn this) (hC0 X3)
     . refine K2.ex g2 m _ h02 h'' tk' C e .rfl .rfl ⟨news2, a2.hk, a2.below, a2.dicts, .inl ⟨hp, [y], ⟨fun b o q => k1 b o (fun z => by have := hm.new; rw [<- z] at this; rw [this] at q; exact zns q) (hm.keeps _ _ q), hm.new, t, some D, k2, htn, k1 _ _ (fun z => ?_) ht⟩, a2.fr, a2.nw⟩⟩ q2
       rw [z, he] at ht
       cases ht
   first
     | exact wpAny_bind (wpAny_standAt (q51 hh (wpAny_bind (wpAny_mono main (fun v s₃ h₃ => wpAny_bind (wpAny_standAt (wpAny_pure h₃))) fun W0 W0 x => x))))
     | (simp only [evalOpt, Option.map]; exact wpAny_bind (wpAny_standAt (q51 hh (wpAny_bind (wpAny_mono main (fun v s₃ h₃ => wpAny_bind (wpAny_standAt (wpAny_pure h₃))) fun W0 W0 x => x)))))
end
theorem z3v {M : Model} {A : Around} {E : Value -> Shared -> Prop} {s : Shared} {base : Heap} {env : Env} {outer : List Env} {L e : Addr} {oe : Obj} {vs : Array Value} {a0 : Value} {Q : Unit -> Shared -> Prop}
   (hfr : A.frames = some (env :: outer)) (hl : s.heap.FunFrames base (env :: outer)) (hf : env.frame = some L)
   (he : s.heap.get? e = some oe) (hkb : base.StaysIn s.heap) (hen : base.get? e = none) (hd : oe.data = .fields vs) (h1 : vs[1]? = some .none) (h0 : vs[0]? = some a0)
   (h : ∀ h', Heap.NotedW base (env :: outer) e oe.cls a0 (rawInt L) s.heap h' -> Q () { s with heap := h' }) : wpAny M A (noteFrame (.ref e) env) Q E s := by
 unfold noteFrame
 simp only [hf]
 refine wpAny_bind (wpAny_field he hd h1 ?_)
 refine rwm (if_neg (by decide)) ?_
 exact wpAny_entryW hfr hl hf he hkb hen hd (Array.getElem?_eq_some_iff.mp h1).1 h0 h
structure Grd (c : Cx) (P : Pt) (g : Gh) (st : St) (pv news : List (Addr × Obj)) (m : Str -> Option Value) (h0 B h : Heap) : Prop where
 hk : HK c g st pv news
 below : Below P.A0 P.base P.outer h0
 dicts : KtsDicts (fas P.outer) h0
 bg : ∀ b o, h0.get? b = some o -> b ∉ fas P.outer -> B.get? b = some o
 bn : ∀ q ∈ news, B.get? q.1 = some q.2 /\ h0.get? q.1 = none
 fr : ∃ G, Fr h0 P.L G m /\ G.UpToSlots h
section
variable {c : Cx} {P : Pt} {g : Gh} {st : St} {pv news : List (Addr × Obj)} {m : Str -> Option Value} {h0 B h : Heap}
theorem Grd.up (D : Grd c P g st pv news m h0 B h) {h' : Heap} (U : h.UpToSlots h') : Grd c P g st pv news m h0 B h' := by
 refine e12 D.fr fun G F U0 => ?_
 exact ⟨D.hk, D.below, D.dicts, D.bg, D.bn, G, F, U0.trans U⟩
theorem Grd.here (D : Grd c P g st pv news m h0 B h) (BL : B.get? P.L = none) (hb : B.StaysIn h) :
   ∃ h0', KtsTurn (fas P.outer) h0 h0' /\ Fr h0' P.L h m /\ News h0' P.L h news /\ Below P.A0 P.base P.outer h0' /\ KtsDicts (fas P.outer) h0' := by
 refine e12 D.fr fun G F U => ?_
 obtain ⟨T, S⟩ := kts_turn_at (h := h) (fs := fas P.outer) (g := h0)
   (fun b hb => by
     obtain ⟨_, o, ho', _⟩ := D.below.frames.mem hb
     exact ⟨o, ho'⟩)
   (fun b o e nm => hb b o (D.bg b o e nm))
   (fun b o e hm => by
     obtain ⟨_, o', ho', hd⟩ := D.below.frames.mem hm
     rw [e] at ho'
     cases ho'
     exact U b o (F.keep b o e) hd)
 refine ⟨_, T, ⟨U.ns F.ns, S, by refine rwm T.size ?_; exact F.above⟩, fun q hq => ⟨hb _ _ (D.bn q hq).1, fun z => ?_, T.none_ _ (D.bn q hq).2⟩, ⟨D.below.stack, fun b o e => T.other b o (D.below.stays b o e) (fun hm => by
   rw [(D.below.frames.mem hm).1] at e
   exact zns e), D.below.frames.of_keeps fun b o e W0 => ?_⟩, D.dicts.turn T⟩
 . have := (D.bn q hq).1
   rw [z, BL] at this
   exact zns this
 . obtain ⟨sl, hs⟩ := T.up e
   exact ⟨_, hs, rfl⟩
theorem j11 {M : Model} {E : Value -> Shared -> Prop} {s : Shared} {C e : Addr} {Q : Unit -> Shared -> Prop} (ok : POk c P) (henv : P.env = P.top) (Z : Rz c P g st pv m h0 C e s.heap)
   (k : ∀ B news a0 h', Grd c P g st pv news m h0 B h' -> Heap.HeldW B (P.top :: P.outer) e (.ref C) a0 P.L h' -> Q () { s with heap := h' }) : wpAny M P.A (noteFrame (.ref e) P.env) Q E s := by
 refine e14 Z fun news H Bl D hz => ?_
 refine rwm henv ?_
 rcases hz with ⟨h1, vs, x, F, N⟩ | ⟨G, t, vs, R, F, U⟩
 . refine e16 (madeD_ground Bl F N ok.hf ok.kt :) fun B b1 b2 b3 b4 b5 b6 => ?_
   refine e23 x.there fun t dd he htn ht => ?_
   refine z3v (base := B) (a0 := .ref t) ok.hA (b5.of_keeps fun b o hb W0 => ⟨o, x.keeps b o hb, rfl⟩) ok.hf he (fun b o hb => x.keeps b o (b4 b o hb)) (b6 e x.new) rfl rfl rfl fun h' hN => ?_
   refine e04 hN fun k1 k2 k3 k4 => ?_
   exact k B news _ h' ⟨H, Bl, D, b2, fun q hq => ⟨(b3 q hq).1, (b3 q hq).2.1⟩, h1, F, (Heap.UpToSlots.of_keeps x.keeps).trans k4⟩ ⟨k1, b6 e x.new, k2, k3⟩
 . obtain ⟨⟨B, hB, hBG, hl, hfl, hnew⟩, htup⟩ := R
   refine wpAny_looks_onW ok.hA ok.hf hfl fun h' hh hs => ?_
   refine k B news _ h' ⟨H, Bl, D, fun b o q nm => hBG b o (F.keep b o q) fun hm => ?_, fun q hq => ⟨(hl q hq).1, kts_none F.keep (hl q hq).2.1⟩, G, F, U.trans hs⟩ hh
   rcases q5q ok.hf hm with z | z
   . rw [z, kts_self F] at q; exact zns q
   . exact nm z
end
noncomputable def Pt.marked (P : Pt) (v : Value) : Pt := { P with A := P.A.mark (some v), nh := false }
noncomputable def Pt.still (P : Pt) : Pt := { P with tn := false }
section
variable {c : Cx} {P : Pt} {ρ : Loc} {st : St} {X : Exc} {Q : Fl -> Loc -> St -> Prop} {g : Gh} {pv news : List (Addr × Obj)} {m ns : Str -> Option Value} {h0 h : Heap}
theorem POk.marked (ok : POk c P) {v : Value} : POk c (P.marked v) := ⟨ok.hA, ok.hf, ok.kf, ok.kt, ok.gl, ok.bl, ok.XB, ok.TB, ok.HB, ok.depth, ok.units, fun h => nomatch h⟩
theorem POk.still (ok : POk c P) : POk c P.still := ⟨ok.hA, ok.hf, ok.kf, ok.kt, ok.gl, ok.bl, ok.XB, ok.TB, ok.HB, ok.depth, ok.units, ok.hand⟩
theorem At.marked (a : At c P g ρ st pv m ns news h0 h) {v : Value} : At c (P.marked v) g ρ st pv m ns news h0 h := ⟨a.ok.marked, a.below, a.dicts, a.fr, a.nw, a.hk, a.loc, a.cel, a.nsk⟩
theorem At.still (a : At c P g ρ st pv m ns news h0 h) : At c P.still g ρ st pv m ns news h0 h := ⟨a.ok.still, a.below, a.dicts, a.fr, a.nw, a.hk, a.loc, a.cel, a.nsk⟩
theorem At.unstill (ok : POk c P) (a : At c P.still g ρ st pv m ns news h0 h) : At c P g ρ st pv m ns news h0 h := ⟨ok, a.below, a.dicts, a.fr, a.nw, a.hk, a.loc, a.cel, a.nsk⟩
theorem At.unmarked (ok : POk c P) {v : Value} (a : At c (P.marked v) g ρ st pv m ns news h0 h) : At c P g ρ st pv m ns news h0 h := ⟨ok, a.below, a.dicts, a.fr, a.nw, a.hk, a.loc, a.cel, a.nsk⟩
theorem z3g {e : Expr} {x : Str} {C : Addr} {p np hp pos : Pos} {b₀ : Stmt} {suite : List Stmt} {rest : List ExceptHandler} (ht : P.tn = true) (henv : P.env = P.top) (hk : P.env.kindOf x = some .globalImplicit) (hd : (x == ("__debug__" : Str)) = false)
   (ex : nsIn c.K mainGlobals x = some (some (.ref C))) (hC : ktsIn c.K C "BaseException" = true)
   (h : EvE c P.still ρ st e (fun v st' => Q (.ret v) ρ st') (fun C' st' => C' = C /\ ∀ v, ExS c (P.marked v) ρ st' (b₀ :: suite) Q noX)) :
   Ex1 c P ρ st (.Try [.Return (some e) p] (.ExceptHandler (some (.Name x np)) none (b₀ :: suite) hp :: rest) [] [] pos) Q X :=
 fun g pv m news h0 s Qc Ec a K => by
   refine wpAny_noRaise (wpAny_Try_except (wpAny_execs_cons (wpAny_Return_some (h g pv m m news h0 s () _ _ a.still trivial ⟨fun g' news' h0' h' tk x b st' l v a' r q => ?_, fun g' st' h0' h' tk C' e' l v Z q => ?_⟩))))
   . exact K.ok g' m news' h0' h' tk _ _ _ _ l ⟨v.turn, fun W0 => v.same rfl⟩ (a'.unstill a.ok) (.ret r) q
   . obtain ⟨rfl, hs⟩ := q
     obtain rfl : h0' = h0 := v.same rfl
     refine j11 (P := P) a.ok henv Z fun B news' a0 h₄ Gd H₄ => ?_
     refine wpAny_landsW H₄ fun h₅ F₅ U₅ => ?_
     have BL : B.get? P.L = none := by
       obtain ⟨_, ⟨L', _, hf, hn', _⟩, _⟩ := F₅.2.2.1
       obtain rfl : P.L = L' := oi (a.ok.hf.symm.trans hf)
       exact hn'
     have loc' : ∀ x v, ρ.lookup x = some v -> ∃ y, m x = some y /\ VR c g' v y := fun x v e => by
       refine e12 (a.loc x v e :) fun y h1 h2 => ?_
       exact ⟨y, h1, h2.mono l⟩
     have cel' : ∀ x n, P.cn.lookup x = some n -> ∃ b, P.env.cells.lookup x = some b /\ g'.pl n = some (b, b) := fun x n e => by
       refine e12 (a.cel x n e :) fun b h1 h2 => ?_
       exact ⟨b, h1, l.pl _ _ h2⟩
     refine hid fun hG => ?_
     refine e15 ((Gd.up U₅).here BL F₅.1 :) fun h05 T₅ Fr₅ N₅ B₅ D₅ => ?_
     have a₅ : At c P g' ρ st' pv m m news' h05 h₅ := ⟨a.ok, B₅, D₅, Fr₅, N₅, Gd.hk, loc', cel', a.nsk⟩
     obtain ⟨nm, q', N, bs, bm, hdct, sn, sub, ab, col, dd, k0, k1, k2, k3, k5, newId, hCo, hbase, hbT⟩ := kts_cls a₅.kinH hC
     refine e12 F₅.there fun ob hob hobc => ?_
     refine hG ?_
     refine wpAny_handleBy_cons (codeAny_handlers_test (Calls.Name_function_global a.ok.kf hk (Calls.loadGlobal_global (env := P.env) (by refine rwm a.ok.gl ?_; exact a₅.tr.g.keeps a₅.fr.keep) (mg_of a₅.kin a₅.tr.g ex) ?_) hd)) (by intro q; cases q)
     refine wpAny_excMatches_sub_self hCo hob hobc hbase (codeAny_handlers_suite ?_)
     refine lands_againW F₅ fun h₆ F₆ U₆ => ?_
     refine e15 (((Gd.up U₅).up U₆).here BL F₆.1 :) fun h06 T₆ Fr₆ N₆ B₆ D₆ => ?_
     have a₆ : At c P g' ρ st' pv m m news' h06 h₆ := ⟨a.ok, B₆, D₆, Fr₆, N₆, Gd.hk, loc', cel', a.nsk⟩
     refine wpAny_passesOwnAt PassesOwnAt.never (hs (.ref e') g' pv m news' h06 _ _ _ a₆.marked ⟨fun g2 m2 news2 h02 h2 tk2 x b ρ2 st2 l2 v2 a2 r2 q2 => ?_, fun W0 W0 W0 W0 W0 W0 W0 W0 W0 W0 W0 x => x.elim⟩)
     exact K.ok g2 m2 news2 h02 h2 tk2 x b ρ2 st2 (l.trans l2) ⟨T₆.trans v2.turn, fun z => by rw [ht] at z; exact ztf z⟩ (a2.unmarked a.ok) r2 q2
end
section
variable {c : Cx} {P : Pt} {ρ : Loc} {st : St} {X : Exc} {g g' : Gh} {pv news : List (Addr × Obj)} {m ns : Str -> Option Value} {h0 h : Heap}
theorem At.ghost (a : At c P g ρ st pv m ns news h0 h) (l : g.le g') (hk : g'.kn = g.kn) (hp : g'.pl = g.pl) {nx : Nat} (hf : ∀ n, nx <= n -> g'.pl n = none /\ g'.zi n = none /\ g'.by_ n = none) : At c P g' ρ ⟨nx, st.l⟩ pv m ns news h0 h :=
 ⟨a.ok, a.below, a.dicts, a.fr, a.nw, ⟨fun p q => a.hk.kni p (hk ▸ q), a.hk.pvi, fun n o e => by
   refine e22 (a.hk.own n o e :) fun b d h1 r => ?_
   exact ⟨b, d, hp ▸ h1, r.mono l fun p hp W0 => hp⟩, fun n o b d e k => by
   rw [hp] at k
   refine rwm hk ?_
   exact a.hk.off n o b d e k, fun n n' o o' b d b' d' hn e e' k k' => by
   rw [hp] at k k'
   exact a.hk.apart n n' o o' b d b' d' hn e e' k k', hf, fun p q r s => by
   rw [hk] at s
   exact a.hk.pk p q r s⟩, fun x v e => by
   refine e12 (a.loc x v e :) fun y q r => ?_
   exact ⟨y, q, r.mono l⟩, fun x n e => by
   refine e12 (a.cel x n e :) fun b q r => ?_
   exact ⟨b, q, hp ▸ r⟩, a.nsk⟩
noncomputable def St.nxt (st : St) : St := ⟨st.nx + 1, st.l⟩
theorem At.nameZ (a : At c P g ρ st pv m ns news h0 h) (i : Int) : ∃ g', g.le g' /\ At c P g' ρ st.nxt pv m ns news h0 h /\ g'.zi st.nx = some i := by
 have f := a.hk.fin st.nx (Nat.le_refl _)
 have l : g.le ⟨g.kn, g.pl, fun n => if n = st.nx then some i else g.zi n, g.by_⟩ := ⟨fun W0 h => h, fun W0 W0 h => h, fun n j e => by
   show (if n = st.nx then some i else g.zi n) = some j
   by_cases q : n = st.nx
   . rw [q, f.2.1] at e; exact zns e
   . refine rwm (if_neg q) ?_; exact e, fun W0 W0 h => h⟩
 refine ⟨_, l, a.ghost l rfl rfl (nx := st.nx + 1) fun n hn => ?_, if_pos rfl⟩
 have hn : st.nx + 1 <= n := hn
 have := a.hk.fin n (Nat.le_of_succ_le hn)
 exact ⟨this.1, by
   show (if n = st.nx then some i else g.zi n) = none
   refine rwm (if_neg (Nat.ne_of_gt hn)) ?_
   exact this.2.1, this.2.2⟩
theorem At.nameB (a : At c P g ρ st pv m ns news h0 h) (b : List UInt8) : ∃ g', g.le g' /\ At c P g' ρ st.nxt pv m ns news h0 h /\ g'.by_ st.nx = some b := by
 have f := a.hk.fin st.nx (Nat.le_refl _)
 have l : g.le ⟨g.kn, g.pl, g.zi, fun n => if n = st.nx then some b else g.by_ n⟩ := ⟨fun W0 h => h, fun W0 W0 h => h, fun W0 W0 h => h, fun n j e => by
   show (if n = st.nx then some b else g.by_ n) = some j
   by_cases q : n = st.nx
   . rw [q, f.2.2] at e; exact zns e
   . refine rwm (if_neg q) ?_; exact e⟩
 refine ⟨_, l, a.ghost l rfl rfl (nx := st.nx + 1) fun n hn => ?_, if_pos rfl⟩
 have hn : st.nx + 1 <= n := hn
 have := a.hk.fin n (Nat.le_of_succ_le hn)
 exact ⟨this.1, this.2.1, by
   show (if n = st.nx then some b else g.by_ n) = none
   refine rwm (if_neg (Nat.ne_of_gt hn)) ?_
   exact this.2.2⟩
noncomputable def j82 (Q : V -> St -> Prop) (v : V) (st : St) : Prop := (∃ i d, v = .int i /\ d.Has i /\ Q (.sint st.nx 0 d) st.nxt) \/ (∃ b, v = .bytes b /\ Q (.sb (.var st.nx b.length)) st.nxt) \/ Q v st
theorem TrG.named {ι : Type} {Rel : Gh -> ι -> Prop} {t : ι -> Sem Value} {Q : V -> St -> Prop} (h : TrG c P ρ st Rel (VR c) t (j82 Q) X) : TrG c P ρ st Rel (VR c) t Q X :=
 fun g pv m ns news h0 s i Qc Ec a hi K => h g pv m ns news h0 s i Qc Ec a hi ⟨fun g' news' h0' h' tk x v st' l mv a' r q => by
   rcases q with ⟨j, d, rfl, hd, q⟩ | ⟨b, rfl, q⟩ | q
   . obtain ⟨t, rfl⟩ := r.intI
     refine e13 (a'.nameZ j :) fun g2 l2 a2 e2 => ?_
     exact K.ok g2 news' h0' h' tk _ _ _ (l.trans l2) mv a2 (.sint t ⟨j, e2, (Int.add_zero _).symm, hd⟩) q
   . obtain ⟨t, rfl⟩ := r.bytesI
     refine e13 (a'.nameB b :) fun g2 l2 a2 e2 => ?_
     exact K.ok g2 news' h0' h' tk _ _ _ (l.trans l2) mv a2 (.sb t (.var e2 rfl)) q
   . exact K.ok g' news' h0' h' tk x v st' l mv a' r q, K.ex⟩
theorem q0d.named {d : Nat} {tn : Bool} {f : V} {vs : List V} {Q : V -> St -> Prop} (h : q0d c d tn st f vs (j82 Q) X) : q0d c d tn st f vs Q X :=
 fun P ρ h1 h2 h3 g pv m ns news h0 s x xs R a hf hxs K => h P ρ h1 h2 h3 g pv m ns news h0 s x xs R a hf hxs ⟨fun g' news' h0' h' tk x v st' l mv a' r q => by
   rcases q with ⟨j, d, rfl, hd, q⟩ | ⟨b, rfl, q⟩ | q
   . obtain ⟨t, rfl⟩ := r.intI
     refine e13 (a'.nameZ j :) fun g2 l2 a2 e2 => ?_
     exact K.ok g2 news' h0' h' tk _ _ _ (l.trans l2) mv a2 (.sint t ⟨j, e2, (Int.add_zero _).symm, hd⟩) q
   . obtain ⟨t, rfl⟩ := r.bytesI
     refine e13 (a'.nameB b :) fun g2 l2 a2 e2 => ?_
     exact K.ok g2 news' h0' h' tk _ _ _ (l.trans l2) mv a2 (.sb t (.var e2 rfl)) q
   . exact K.ok g' news' h0' h' tk x v st' l mv a' r q, K.ex⟩
end
section
variable {c : Cx} {P : Pt} {ρ : Loc} {st : St} {X : Exc} {Q : V -> St -> Prop}
theorem At.reloc {g : Gh} {pv news : List (Addr × Obj)} {m ns : Str -> Option Value} {h0 h : Heap} (a : At c P g ρ st pv m ns news h0 h) {ρ' : Loc} (k : ∀ x v, ρ'.lookup x = some v -> ∃ y, ns x = some y /\ VR c g v y) : At c P g ρ' st pv m ns news h0 h :=
 ⟨a.ok, a.below, a.dicts, a.fr, a.nw, a.hk, k, a.cel, a.nsk⟩
theorem j5s {x : Str} {b : SB} {e : Expr} (hx : ρ.lookup x = some (.sb b)) (h : ∀ g l, SBR g b l -> EvE c P (q6k x (.bytes l) ρ) st e (fun v st' => ∃ w, (∀ g', g.le g' -> ∀ y, VR c g' v y -> VR c g' w y) /\ Q w st') X) : EvE c P ρ st e Q X :=
 fun g pv m ns news h0 s i Qc Ec a hi K => by
   refine e12 (a.loc x _ hx :) fun y h1 h2 => ?_
   (refine e22 h2.sbI fun l t r => ?_; subst r; intro hl)
   have a' := a.reloc (ρ' := q6k x (.bytes l) ρ) fun z v e => by
     rw [q1b] at e
     split at e
     . rename_i q
       cases e
       refine rwm (eq_of_beq q) ?_
       exact ⟨_, h1, .bytes l t⟩
     . exact a.loc z v e
   exact h g l hl g pv m ns news h0 s i Qc Ec a' hi ⟨fun g' news' h0' h' tk z v st' l' mv a2 r q => by
     refine e12 q fun w hw q => ?_
     exact K.ok g' news' h0' h' tk z w st' l' mv (a2.reloc fun x v e => by
       refine e12 (a.loc x v e :) fun y p1 p2 => ?_
       exact ⟨y, p1, p2.mono l'⟩) (hw g' l' z r) q, K.ex⟩
noncomputable def q31 (e : Expr) : Option (Str × Pos) := match e with
 | .Name x p => some (x, p)
 | _ => none
theorem q1n {e : Expr} {q : Str × Pos} (h : q31 e = some q) : e = .Name q.1 q.2 := by
 induction e using Expr.casesOn with
 | Name x p => exact oi h ▸ rfl
 | _ => exact zns h
noncomputable def j80 (e : Expr) : Option (Int × Nat × Pos) := match e with
 | .Constant (.int i) k p => some (i, k, p)
 | _ => none
theorem q8f {e : Expr} {q : Int × Nat × Pos} (h : j80 e = some q) : e = .Constant (.int q.1) q.2.1 q.2.2 := by
 induction e using Expr.casesOn with
 | Constant c k p =>
   cases c with
   | int i => exact oi h ▸ rfl
   | _ => exact zns h
 | _ => exact zns h
noncomputable def xBin (e : Expr) : Option (Expr × Operator × Expr × Pos) := match e with
 | .BinOp l op r p => some (l, op, r, p)
 | _ => none
theorem z1i {e : Expr} {q : Expr × Operator × Expr × Pos} (h : xBin e = some q) : e = .BinOp q.1 q.2.1 q.2.2.1 q.2.2.2 := by
 induction e using Expr.casesOn with
 | BinOp l op r p => exact oi h ▸ rfl
 | _ => exact zns h
noncomputable def sbAt (j : Int) (e : Expr) : Option Str := match e with
 | .Subscript o i _ => (q31 o).bind fun a => (j80 i).bind fun k => cond (k.1 == j) (some a.1) none
 | _ => none
noncomputable def powR (l r : Expr) : Option (Expr × Int) := (xBin r).bind fun t => (j80 t.1).bind fun a => (j80 t.2.2.1).bind fun b => cond (decide (t.2.1 = .Pow) && decide (a.1 = 2 /\ 0 <= b.1 /\ b.1 <= 64)) (some (l, a.1 ^ b.1.toNat)) none
noncomputable def mulR (l r : Expr) : Option (Expr × Int) := Option.casesOn (j80 r) (powR l r) fun b => some (l, b.1)
noncomputable def mulI (e : Expr) : Option (Expr × Int) := (xBin e).bind fun t => cond (decide (t.2.1 = .Mult)) (mulR t.1 t.2.2.1) none
noncomputable def addE (e : Expr) : Option (Expr × Expr) := (xBin e).bind fun t => cond (decide (t.2.1 = .Add)) (some (t.1, t.2.2.1)) none
theorem z4h {e : Expr} {q : Expr × Expr} (h : addE e = some q) : ∃ p, e = .BinOp q.1 .Add q.2 p := by
 refine e12 (obi h :) fun t h1 h => ?_
 obtain ⟨h2, h⟩ := q0c h
 (refine rwb (oi h) ?_; refine rwm (z1i h1) ?_; refine rwm (of_decide_eq_true h2) ?_)
 exact ⟨_, rfl⟩
noncomputable def z2p (j f : Int) (e : Expr) : Option Str := (mulI e).bind fun p => cond (p.2 == f) (sbAt j p.1) none
noncomputable def j9e (l r : Expr) : Option Str := (sbAt 7 r).bind fun x4 => (addE l).bind fun p => (addE p.1).bind fun q => (z2p 4 16777216 q.1).bind fun x1 => (z2p 5 65536 q.2).bind fun x2 => (z2p 6 256 p.2).bind fun x3 =>
 cond (x1 == x4 && x2 == x4 && x3 == x4) (some x4) none
theorem q5i {α : Type} {b : Bool} {r : Option α} {v : α} (h : cond b r none = some v) : b = true /\ r = some v := by
 induction b using Bool.casesOn with
 | true => exact ⟨rfl, h⟩
 | false => exact zns h
variable {x : Str} {b : List UInt8} (hk : P.env.kindOf x = some .local) (hd : (x == ("__debug__" : Str)) = false) (hx : ρ.lookup x = some (.bytes b)) (hb : b.length <= 1000000)
include hk hd hx hb
theorem z0l {j : Int} {e : Expr} (he : sbAt j e = some x) (h0 : 0 <= j) (h1 : j < b.length) (q : Q (.int ((b.getD j.toNat 0).toNat : Nat)) st) : EvE c P ρ st e Q X := by
 induction e using Expr.casesOn with
 | Subscript o i p =>
   refine hid fun hG => ?_
   refine e12 (obi (show (q31 o).bind _ = some x from he) :) fun a e1 he => ?_
   refine e12 (obi he :) fun k e2 he => ?_
   obtain ⟨hi, he⟩ := q5i he
   refine hG ?_
   (refine rwm (q1n e1) ?_; refine rwm (q8f e2) ?_; refine rwm (eq_of_beq hi) ?_; refine rwm (oi he) ?_)
   exact q8z rfl (q04 hk hx (q6w (q9p h0 h1 (by omega) q)) hd)
 | _ => exact zns he
theorem q5l {j f : Int} {e : Expr} (he : z2p j f e = some x) (h0 : 0 <= j) (h1 : j < b.length) (q : Q (.int (((b.getD j.toNat 0).toNat : Nat) * f)) st) : EvE c P ρ st e Q X := by
 have ib : ∀ u : UInt8, Builtin.Int.intBits ((u.toNat : Nat) : Int) <= 64 := fun u => PySem.intBits_le_64 (Int.natCast_nonneg _) (by have := u.toNat_lt; omega)
 refine hid fun hG => ?_
 obtain ⟨⟨l, f'⟩, h2, hs⟩ := obi he
 obtain ⟨hf, hs2⟩ := q5i hs
 refine hG ?_
 clear hs
 obtain rfl := eq_of_beq hf
 refine e12 (obi h2 :) fun t e1 h2 => ?_
 obtain ⟨e2, h2⟩ := q0c h2
 (refine rwm (z1i e1) ?_; refine rwm (of_decide_eq_true e2) ?_)
 unfold mulR at h2
 refine z3w (j80 t.2.2.1) (fun b3 e3 => ?_) fun e3 => ?_
 .
   rw [e3] at h2
   obtain ⟨rfl, rfl⟩ := Prod.mk.inj (oi h2)
   refine rwm (q8f e3) ?_
   exact q4e (z0l hk hd hx hb hs2 h0 h1 (q6w (q7e (.of_left (ib _)) q)))
 .
   rw [e3] at h2
   refine hid fun hG => ?_
   refine e12 (obi (show powR t.1 t.2.2.1 = _ from h2) :) fun u e4 h2 => ?_
   refine ep2 (obi h2 :) fun a5 k5 e5 h2 => ?_
   refine ep2 (obi h2 :) fun b6 k6 e6 h2 => ?_
   obtain ⟨hc, h2⟩ := q0c h2
   refine hG ?_
   rw [Bool.and_eq_true] at hc
   (refine rwm (z1i e4) ?_; refine rwm (of_decide_eq_true hc.1) ?_; refine rwm (q8f e5) ?_; refine rwm (q8f e6) ?_)
   (refine e03 (of_decide_eq_true hc.2 :) fun r => ?_; subst r; intro g1 g2)
   obtain ⟨rfl, rfl⟩ := Prod.mk.inj (oi h2)
   refine q4e (z0l hk hd hx hb hs2 h0 h1 (q4e (q6w (q6w (z40 g1 ?_ (q7e (.of_left (ib _)) q))))))
   refine e11 (Int.eq_ofNat_of_zero_le g1 :) fun n r => rwm r ?_
   have e2 : Builtin.Int.intBits 2 = 2 := by decide +kernel
   refine rwm e2 ?_
   omega
end
section
variable {c : Cx} {P : Pt} {ρ : Loc} {st : St} {X : Exc} {Q : V -> St -> Prop} {x : Str}
theorem j9f {n : Nat} (h : n < 4294967296) : (o8 (n / 65536 / 256)).toNat * 16777216 + (o8 (n / 65536)).toNat * 65536 + (o8 (n % 65536 / 256)).toNat * 256 + (o8 (n % 65536)).toNat = n := by
 refine Eq.trans ?_ (q7c h)
 rw [Nat.add_mul, Nat.mul_assoc, Nat.add_assoc]
theorem x0b {l r : Expr} {pos : Pos} {k k' : Int} {z : Z} {p : SB} (hk : P.env.kindOf x = some .local) (hd : (x == ("__debug__" : Str)) = false) (hN : j9e l r = some x) (hx : ρ.lookup x = some (.sb (.icmp k k' z p))) (q : Q z.toV st) : EvE c P ρ st (.BinOp l .Add r pos) Q X := by
 refine j5s hx fun g b hb => ?_
 cases hb with | @icmp _ _ _ i _ m h1 h2 h3 h4 h5 h6 h7 h8 h9 =>
 refine hid fun hG => ?_
 refine e12 (obi hN :) fun x4 e4 hN => ?_
 refine ep2 (obi hN :) fun l1 cc ea hN => ?_
 refine ep2 (obi hN :) fun aa bb eb hN => ?_
 refine e12 (obi hN :) fun x1 e1 hN => ?_
 refine e12 (obi hN :) fun x2 e2 hN => ?_
 refine e12 (obi hN :) fun x3 e3 hN => ?_
 obtain ⟨hc, hN⟩ := q5i hN
 obtain ⟨hc, c3⟩ := q0m hc
 obtain ⟨c1, c2⟩ := q0m hc
 obtain ⟨pa, q1⟩ := z4h ea
 obtain ⟨pb, q2⟩ := z4h eb
 refine hG ?_
 rw [oi hN] at e4 c1 c2 c3
 rw [eq_of_beq c1] at e1
 rw [eq_of_beq c2] at e2
 rw [eq_of_beq c3] at e3
 (refine rwm q1 ?_; refine rwm (show l1 = _ from q2) ?_)
 clear ea eb q1 q2 c1 c2 c3 hc hN
 have hx' : (q6k x (.bytes (q09 k k' i m)) ρ).lookup x = some (.bytes (q09 k k' i m)) := by (rewrite [q1b]; refine rwm (if_pos (beq_self_eq_true x)) ?_; rfl)
 have hl : (q09 k k' i m).length = 8 + m.length := q1h _ _ _ _
 have hb : (q09 k k' i m).length <= 1000000 := hl ▸ Nat.le_trans (Nat.add_le_add_left h9 8) (by decide)
 have h8i : (8 : Int) <= ((q09 k k' i m).length : Int) := Int.ofNat_le.mpr (hl ▸ Nat.le_add_right 8 _)
 have lt : ∀ {j : Int}, j < 8 -> j < ((q09 k k' i m).length : Int) := fun h => Int.lt_of_lt_of_le h h8i
 refine q4e (q4e (q4e (q5l hk hd hx' hb e1 (by decide) (lt (by decide)) (q5l hk hd hx' hb e2 (by decide) (lt (by decide)) (q7d (q5l hk hd hx' hb e3 (by decide) (lt (by decide)) (q7d (z0l hk hd hx' hb e4 (by decide) (lt (by decide)) (q7d ?_)))))))))
 refine ⟨z.toV, fun g' l' y r => ?_, q⟩
 refine e11 r.intI fun t r => rwm r ?_
 have e : ((((q09 k k' i m).getD (4 : Int).toNat 0).toNat : Nat) : Int) * 16777216 + ((((q09 k k' i m).getD (5 : Int).toNat 0).toNat : Nat) : Int) * 65536 + ((((q09 k k' i m).getD (6 : Int).toNat 0).toNat : Nat) : Int) * 256 + ((((q09 k k' i m).getD (7 : Int).toNat 0).toNat : Nat) : Int) = i :=
   (congrArg Nat.cast (j9f (n := i.toNat) ((Int.toNat_lt h2).mpr h3))).trans (Int.toNat_of_nonneg h2)
 refine rwm e ?_
 exact (h1.mono l').vr t
end
inductive Out (α : Type) where
 | ok (a : α) (st : St)
 | ex (C : Addr) (st : St)
 | need (c : Bool) (r : Out α)
 | both (l r : Out α)
 | bad
noncomputable def Out.bind {α β : Type} (r : Out α) (f : α -> St -> Out β) : Out β := Out.rec (fun a st => f a st) (fun C st => .ex C st) (fun c W0 ih => .need c ih) (fun W0 W0 il ir => .both il ir) .bad r
noncomputable def Out.noEx {α β : Type} (r : Out α) (f : α -> St -> Out β) : Out β := Out.rec (fun a st => f a st) (fun W0 W0 => .bad) (fun c W0 ih => .need c ih) (fun W0 W0 il ir => .both il ir) .bad r
noncomputable def ofO {α : Type} (r : Option α) (st : St) : Out α := match r with
 | some a => .ok a st
 | none => .bad
noncomputable def j44 {α : Type} (vc c : Bool) (r : Out α) : Out α := cond vc (.need c r) (cond c r .bad)
noncomputable def ofP {α : Type} (vc : Bool) (r : Option (Bool × α)) (st : St) : Out α := Option.casesOn r .bad fun p => Prod.casesOn p fun c a => j44 vc c (.ok a st)
noncomputable def Sat {α : Type} (r : Out α) (Q : α -> St -> Prop) (X : Exc) : Prop := Out.rec (fun a st => Q a st) (fun C st => X C st) (fun c W0 ih => c = true /\ ih) (fun W0 W0 il ir => il /\ ir) False r
theorem q0a {α β : Type} {r : Out α} {f : α -> St -> Out β} {Q : β -> St -> Prop} {X : Exc} (h : Sat (r.bind f) Q X) : Sat r (fun a st => Sat (f a st) Q X) X := by
 induction r with
 | ok a st => exact h
 | ex C st => exact h
 | need c r ih => exact ⟨h.1, ih h.2⟩
 | both l r il ir => exact ⟨il h.1, ir h.2⟩
 | bad => exact h
theorem q08 {α β : Type} {r : Out α} {f : α -> St -> Out β} {Q : β -> St -> Prop} {X : Exc} {X' : Exc} (h : Sat (r.noEx f) Q X) : Sat r (fun a st => Sat (f a st) Q X) X' := by
 induction r with
 | ok a st => exact h
 | ex C st => exact h.elim
 | need c r ih => exact ⟨h.1, ih h.2⟩
 | both l r il ir => exact ⟨il h.1, ir h.2⟩
 | bad => exact h.elim
theorem sat_ofO {α : Type} {r : Option α} {st : St} {Q : α -> St -> Prop} {X : Exc} (h : Sat (ofO r st) Q X) : ∃ a, r = some a /\ Q a st := by
 induction r using Option.casesOn with
 | none => exact h.elim
 | some a => exact ⟨a, rfl, h⟩
theorem q2o {α : Type} {vc c : Bool} {r : Out α} {Q : α -> St -> Prop} {X : Exc} (h : Sat (j44 vc c r) Q X) : c = true /\ Sat r Q X := by
 induction vc using Bool.casesOn with
 | true => exact h
 | false =>
   induction c using Bool.casesOn with
   | true => exact ⟨rfl, h⟩
   | false => exact h.elim
theorem sat_ofP {α : Type} {vc : Bool} {r : Option (Bool × α)} {st : St} {Q : α -> St -> Prop} {X : Exc} (h : Sat (ofP vc r st) Q X) : ∃ c a, r = some (c, a) /\ c = true /\ Q a st := by
 induction r using Option.casesOn with
 | none => exact h.elim
 | some p =>
   obtain ⟨c, a⟩ := p
   obtain ⟨h1, h2⟩ := q2o h
   exact ⟨c, a, rfl, h1, h2⟩
theorem Sat.mono {α : Type} {r : Out α} {Q Q' : α -> St -> Prop} {X : Exc} (h : Sat r Q X) (hq : ∀ a st, Q a st -> Q' a st) : Sat r Q' X := by
 induction r with
 | ok a st => exact hq _ _ h
 | ex C st => exact h
 | need c r ih => exact ⟨h.1, ih h.2⟩
 | both l r il ir => exact ⟨il h.1, ir h.2⟩
 | bad => exact h
theorem Sat.monoX {α : Type} {r : Out α} {Q : α -> St -> Prop} {X X' : Exc} (h : Sat r Q X) (hx : ∀ C st, X C st -> X' C st) : Sat r Q X' := by
 induction r with
 | ok a st => exact h
 | ex C st => exact hx _ _ h
 | need c r ih => exact ⟨h.1, ih h.2⟩
 | both l r il ir => exact ⟨il h.1, ir h.2⟩
 | bad => exact h
structure Fx where
 cn : List (Str × Nat)
 d : Nat
 tn : Bool
 nh : Bool
structure Sx where
 sc : Scope
 top : Bool
structure PI (P : Pt) (S : Sx) (F : Fx) : Prop where
 sc : P.env.scope = S.sc
 cn : P.cn = F.cn
 d : P.d = F.d
 tn : P.tn = F.tn
 nh : P.nh = F.nh
 top : S.top = true -> P.env.locals = P.L
 env : S.top = true -> P.env = P.top
inductive CE where
 | bad
 | nil
 | val (v : V)
 | loc (x : Str)
 | cel (x : Str)
 | bin (op : Operator) (l r : CE)
 | neg (e : CE)
 | not (e : CE)
 | boo (op : BoolOp) (es : List CE)
 | ife (t b o : CE)
 | cmp (op : CmpOp) (l r : CE)
 | cmp2 (o₁ o₂ : CmpOp) (l r₁ r₂ : CE)
 | call (f : Value) (es : List CE)
 | meth (o : CE) (name : Str) (es : List CE)
 | attr (o : CE) (x : Str)
 | sli (o l u : CE)
 | sub (o e : CE)
 | tup (es : List CE)
 | lst (es : List CE)
 | nls (es : List CE)
 | dic0
 | dic (ks : List Str) (es : List CE)
 | lc (tg : List Str) (names : List (Str × NameKind)) (elt iter : CE)
 | be4 (x : Str)
inductive Tg where
 | l (x : Str)
 | c (x : Str)
inductive CS where
 | bad
 | ret (e : CE)
 | ret0
 | pass
 | cont
 | exp (e : CE)
 | ifs (t : CE) (b o : List CS)
 | asg (x : Str) (e : CE)
 | atr (o : CE) (x : Str) (e : CE)
 | sbs (o i e : CE)
 | pair (x y : Str) (e : CE)
 | unp (ts : List Tg) (e : CE)
 | aug (x : Str) (e : CE)
 | for1 (t : Tg) (e : CE) (body : List CS)
 | forN (ts : List Tg) (e : CE) (body : List CS)
 | whl (t : CE) (body : List CS)
 | tri (body : List CS)
 | rai (C : Addr)
 | tre (e : CE) (C : Addr) (suite : List CS)
structure FnRec where
 ns : List Str
 body : List Stmt
 sc : Scope
 dvs : List V
 cells : List Str
inductive Tr (α : Type) where
 | lf
 | nd (l : Tr α) (k : Nat) (v : α) (r : Tr α)
noncomputable def z1z {α : Type} (n : Nat) (t : Tr α) : Option α := Tr.rec none (fun W0 k v W0 il ir => cond (Nat.beq n k) (some v) (cond (Nat.ble n k) il ir)) t
noncomputable def Tr.list {α : Type} : Tr α -> List (Nat × α)
 | .lf => []
 | .nd l k v r => l.list ++ (k, v) :: r.list
theorem q3o {α : Type} {n : Nat} {v : α} : ∀ {t : Tr α}, z1z n t = some v -> (n, v) ∈ t.list := by
 intro t
 induction t with
 | lf => intro h; exact ns h
 | nd l k w r il ir =>
   intro h
   change cond (Nat.beq n k) (some w) (cond (Nat.ble n k) (z1z n l) (z1z n r)) = some v at h
   unfold Tr.list
   refine q27 (Nat.beq n k) (fun h1 => ?_) fun h1 => ?_
   .
     rw [h1] at h
     cases h
     refine rwm (Nat.eq_of_beq_eq_true h1) ?_
     exact List.mem_append_right _ (.head _)
   .
     rw [h1] at h
     refine q27 (Nat.ble n k) (fun h2 => ?_) fun h2 => ?_
     . rw [h2] at h; exact List.mem_append_left _ (il h)
     . rw [h2] at h; exact List.mem_append_right _ (.tail _ (ir h))
inductive Ent where
 | fn (r : FnRec)
 | cl (fI : Addr) (frz : Bool)
 | orc (f : Bool -> Nat -> Bool -> List V -> St -> Out V)
 | xc (fI : Addr) (attr : Str)
structure Lk where
 gl : Str -> Option V
 ent : Addr -> Option Ent
 at_ : Addr -> Str -> Bool
 me : Addr -> Str -> Option Addr
structure Tb where
 vc : Bool
 ev : Fx -> CE -> Loc -> St -> Out V
 evT : Fx -> CE -> Loc -> St -> Out Bool
 nd : Fx -> Bool -> CE -> Loc -> St -> Out Unit
 ex : Fx -> CS -> Loc -> St -> Out (Fl × Loc)
 call : Nat -> Bool -> Addr -> List V -> St -> Out V
noncomputable def z4n (o : Option AO) : Option (List V) := match o with
 | some (.list vs) => some vs
 | _ => none
theorem q40 {o : Option AO} {vs : List V} (h : z4n o = some vs) : o = some (.list vs) := by
 induction o using Option.casesOn with
 | none => exact ns h
 | some o =>
   induction o using AO.casesOn with
   | list ws => exact congrArg (fun x => some (AO.list x)) (oi h)
   | _ => exact ns h
noncomputable def q4r (st : St) (v : V) : Option (List V) := match v with
 | .lst vs => some vs
 | .ref n => z4n (st.get n)
 | _ => none
noncomputable def z4m (o : Option AO) : Option (Addr × List (Str × V)) := match o with
 | some (.inst C fs) => some (C, fs)
 | _ => none
theorem q8n {o : Option AO} {p : Addr × List (Str × V)} (h : z4m o = some p) : o = some (.inst p.1 p.2) := by
 induction o using Option.casesOn with
 | none => exact ns h
 | some o =>
   induction o using AO.casesOn with
   | inst C fs => exact congrArg (fun x => some (AO.inst x.1 x.2)) (oi h)
   | _ => exact ns h
noncomputable def q36 (st : St) (v : V) : Option (Addr × List (Str × V)) := match v with
 | .ob C fs => some (C, fs)
 | .ref n => z4m (st.get n)
 | _ => none
noncomputable def q3a (l : List V) : Option (List Int) := List.rec (some []) (fun v W0 ih => (vInt v).bind fun i => ih.map (i :: ·)) l
noncomputable def zsV (l : List V) : Option (List Z) := List.rec (some []) (fun v W0 ih => (vz v).bind fun i => ih.map (i :: ·)) l
theorem q2u : ∀ {vs : List V} {ns : List Int}, q3a vs = some ns -> vs = ns.map .int := by
 intro vs
 induction vs with
 | nil => intro ns h; exact oi h ▸ rfl
 | cons v vs ih =>
   intro ns h
   refine e12 (obi (show (vInt v).bind _ = some ns from h) :) fun i h1 h => ?_
   (refine e12 (omi (show (q3a vs).map _ = some ns from h) :) fun l h2 r => ?_; subst r)
   (refine rwm (q0p h1) ?_; refine rwm (ih h2) ?_)
   rfl
theorem q91 : ∀ {vs : List V} {ns : List Z}, zsV vs = some ns -> vs = ns.map Z.toV := by
 intro vs
 induction vs with
 | nil => intro ns h; exact oi h ▸ rfl
 | cons v vs ih =>
   intro ns h
   refine e12 (obi (show (vz v).bind _ = some ns from h) :) fun i h1 h => ?_
   (refine e12 (omi (show (zsV vs).map _ = some ns from h) :) fun l h2 r => ?_; subst r)
   (refine rwm (z1g h1) ?_; refine rwm (ih h2) ?_)
   rfl
theorem q0x {st : St} {v : V} {vs : List V} (h : q4r st v = some vs) : q4k st vs v := by
 induction v using V.casesOn with
 | lst ws => exact .inl (congrArg V.lst (oi h))
 | ref n => exact .inr ⟨n, rfl, q40 h⟩
 | _ => exact ns h
theorem q43 {c : Cx} {st : St} {v : V} {C : Addr} {fs : List (Str × V)} (h : q36 st v = some (C, fs)) : IsOb c st C fs v := by
 induction v using V.casesOn with
 | ref n => exact .ref (q8n h)
 | ob D gs =>
   obtain ⟨rfl, rfl⟩ := Prod.mk.inj (oi h)
   exact .ob
 | _ => exact ns h
noncomputable def q4o (x : SB) (lo len : Nat) : SB := if lo == 0 && len == x.len then x else .sl x lo len
noncomputable def j8s (b : SB) (lo len : Nat) : SB := match b with
 | .sl x l0 _ => q4o x (l0 + lo) len
 | .icmp k c z p => cond (Nat.beq lo 8 && Nat.beq len p.len) p (q4o (.icmp k c z p) lo len)
 | b => q4o b lo len
theorem z31 (k c r : Int) (l : List UInt8) (lo : Nat) (h : 8 <= lo) : (q09 k c r l).drop lo = l.drop (lo - 8) := by
 obtain ⟨n, rfl⟩ : ∃ n, lo = n + 8 := ⟨lo - 8, (Nat.sub_add_cancel h).symm⟩
 refine rwm (Nat.add_sub_cancel _ _) ?_
 rfl
theorem q5r {g : Gh} {b : SB} {l : List UInt8} {lo len : Nat} (h : SBR g b l) (hl : lo + len <= l.length) : SBR g (q4o b lo len) ((l.drop lo).take len) := by
 unfold q4o
 split
 . rename_i e
   simp only [Bool.and_eq_true, beq_iff_eq] at e
   obtain ⟨rfl, rfl⟩ := e
   (refine rwm List.drop_zero ?_; refine rwb h.length ?_; refine rwm List.take_length ?_)
   exact h
 . exact .sl h hl
theorem j3l {g : Gh} {b : SB} {l : List UInt8} {lo len : Nat} (h : SBR g b l) (hl : lo + len <= l.length) : SBR g (j8s b lo len) ((l.drop lo).take len) := by
 cases h with
 | @sl x l0 n l h0 h1 =>
   rw [List.length_take, List.length_drop] at hl
   have h2 : lo + len <= n := Nat.le_trans hl (Nat.min_le_left _ _)
   have e : List.take len (List.drop lo (List.take n (List.drop l0 l))) = List.take len (List.drop (l0 + lo) l) := by
     (refine rwm List.drop_take ?_; refine rwm List.take_take ?_; refine rwm List.drop_drop ?_; refine rwm (Nat.min_eq_left (Nat.le_sub_of_add_le (Nat.add_comm len lo ▸ h2))) ?_; rfl)
   refine rwm e ?_
   exact q5r h0 (by rw [Nat.add_assoc]; exact Nat.le_trans (Nat.add_le_add_left h2 l0) h1)
 | var h1 h2 => exact q5r (.var h1 h2) hl
 | ip h1 h2 h3 h4 => exact q5r (.ip h1 h2 h3 h4) hl
 | @icmp k c z r p l h1 h2 h3 h4 h5 h6 h7 h8 h9 =>
   show SBR g (cond (Nat.beq lo 8 && Nat.beq len p.len) p (q4o (.icmp k c z p) lo len)) _
   refine q27 (Nat.beq lo 8 && Nat.beq len p.len) (fun e => ?_) fun e => ?_
   .
     rw [Bool.and_eq_true] at e
     obtain rfl := Nat.eq_of_beq_eq_true e.1
     obtain rfl := Nat.eq_of_beq_eq_true e.2
     (refine rwm (z31 _ _ _ _ _ (Nat.le_refl _)) ?_; refine rwm (Nat.sub_self _) ?_; refine rwm List.drop_zero ?_; refine rwb h8.length ?_; refine rwm List.take_length ?_)
     exact h8
   . exact q5r (.icmp h1 h2 h3 h4 h5 h6 h7 h8 h9) hl
noncomputable def q4s (n : Nat) (lo hi : Option Int) : Nat × Nat := (lo.elim 0 (clipAt n), min (hi.elim n (clipAt n) - lo.elim 0 (clipAt n)) (n - lo.elim 0 (clipAt n)))
theorem z5l (n : Nat) (i : Int) : clipAt n i <= n := by
 refine Int.ofNat_le.mp ?_
 rw [clipAt_cast]
 exact Int.max_le.mpr ⟨Int.natCast_nonneg n, Int.min_le_right _ _⟩
theorem j7o {g : Gh} {b : SB} {l : List UInt8} (h : SBR g b l) (lo hi : Option Int) : SBR g (j8s b (q4s b.len lo hi).1 (q4s b.len lo hi).2) (q0t l lo hi) := by
 have hl := h.length
 unfold q0t
 refine rwm hl ?_
 have h0 : lo.elim 0 (clipAt b.len) <= b.len := by cases lo with
   | none => exact Nat.zero_le _
   | some i => exact z5l _ _
 have := j3l (lo := (q4s b.len lo hi).1) (len := (q4s b.len lo hi).2) h (by
   unfold q4s
   dsimp only
   refine rwm hl ?_
   exact Nat.le_trans (Nat.add_le_add_left (Nat.min_le_right _ _) _) (Nat.le_of_eq (Nat.add_sub_cancel' h0)))
 have e : List.take (hi.elim b.len (clipAt b.len) - lo.elim 0 (clipAt b.len)) (List.drop (lo.elim 0 (clipAt b.len)) l) = List.take (q4s b.len lo hi).2 (List.drop (q4s b.len lo hi).1 l) := by
   unfold q4s
   refine rwb List.take_take ?_
   exact congrArg _ (List.take_of_length_le (by (refine rwm List.length_drop ?_; refine rwm hl ?_); exact Nat.le_refl _)).symm
 refine rwm e ?_
 exact this
noncomputable def x04 (x y : SB) (l0 n l1 m : Nat) : Option SB := if x = y /\ l1 = l0 + n then some (q4o x l0 (n + m)) else none
noncomputable def z7e (a b : SB) : Option SB := match a with
 | .sl x l0 n => (match b with
   | .sl y l1 m => x04 x y l0 n l1 m
   | _ => none)
 | _ => none
theorem SBR.slI {g : Gh} {x : SB} {lo len : Nat} {l : List UInt8} (h : SBR g (.sl x lo len) l) : ∃ l', l = (l'.drop lo).take len /\ SBR g x l' /\ lo + len <= l'.length := by
 cases h with
 | sl h1 h2 => exact ⟨_, rfl, h1, h2⟩
theorem j07 {g : Gh} {a b r : SB} {l m : List UInt8} (e : z7e a b = some r) (ha : SBR g a l) (hb : SBR g b m) : SBR g r (l ++ m) := by
 induction a using SB.casesOn with
 | sl x l0 n =>
   induction b using SB.casesOn with
   | sl y l1 k =>
     obtain ⟨q, rfl⟩ := q0u (show (if x = y /\ l1 = l0 + n then some (q4o x l0 (n + k)) else none) = some r from e)
     obtain ⟨rfl, rfl⟩ := q
     (refine e13 ha.slI fun l' r => ?_; subst r; intro h1 h2)
     (refine e13 hb.slI fun m' r => ?_; subst r; intro h3 h4)
     obtain rfl := h1.det h3
     have := q5r (lo := l0) (len := n + k) h1 (by rw [<- Nat.add_assoc]; exact h4)
     rw [List.take_add, List.drop_drop] at this
     exact this
   | _ => exact ns e
 | _ => exact ns e
theorem q9o {α β : Type} {a b : α} {c d : β} (h : (a, c) = (b, d)) : c = d := congrArg Prod.snd h
theorem q5d (a b : Int) : (a == b) = (b == a) := by rw [Bool.eq_iff_iff, beq_iff_eq, beq_iff_eq]; exact eq_comm
theorem q21 {n : Nat} (h : n <= 1000000) : n <= sizeLine := by refine rwm sizeLine_eq ?_; exact Nat.le_trans h (by decide)
noncomputable def q96 {α : Type} [DecidableEq α] (l : List α) : Option α := List.casesOn l none fun a l => cond (l.all fun b => decide (b = a)) (some a) none
theorem q3h {α : Type} [DecidableEq α] {l : List α} {v : α} (h : q96 l = some v) (a : α) (ha : a ∈ l) : a = v := by
 induction l using List.casesOn with
 | nil => exact ns h
 | cons b l =>
   obtain ⟨h1, h2⟩ := q0c h
   obtain rfl := oi h2
   cases ha with
   | head => rfl
   | tail _ ha => exact of_decide_eq_true (aet h1 a ha)
noncomputable def j9g (op : Operator) (a b : Int) : Option (Bool × V) := match op with
   | .Add => some (true, .int (a + b))
   | .Sub => some (true, .int (a - b))
   | .Mult => some (decide (Builtin.Int.intBits a <= 64), .int (a * b))
   | .FloorDiv => some (!(b == 0) && !(Builtin.divisionGoesByPylong a b), .int (a.fdiv b))
   | .Mod => some (!(b == 0), .int (a.fmod b))
   | .BitAnd => some (true, .int (Builtin.bitAnd a b))
   | .BitOr => some (true, .int (Builtin.bitOr a b))
   | .LShift => some (decide ((0 <= b /\ b <= 64) /\ Builtin.Int.intBits a <= 64), .int (a * 2 ^ b.toNat))
   | .RShift => some (decide (0 <= b), .int (a.fdiv (2 ^ b.toNat)))
   | .Pow => some (decide ((0 <= b /\ b <= 64) /\ Builtin.Int.intBits a <= 64), .int (a ^ b.toNat))
   | _ => none
noncomputable def j5y (k b : Int) (d : Dm) : Option Int := match d with
 | .set l => cond (b == 0 || l.any (fun j => Builtin.divisionGoesByPylong (j + k) b)) none (q96 (l.map fun j => (j + k).fdiv b))
 | _ => none
noncomputable def j9j (op : Operator) (n : Nat) (k : Int) (d : Dm) (b : Int) : Option (Bool × V) := match op with
 | .Add => some (true, .sint n (k + b) d)
 | .Sub => some (true, .sint n (k - b) d)
 | .FloorDiv => (j5y k b d).map fun r => (true, .int r)
 | _ => none
noncomputable def binIS (op : Operator) (a : Int) (n : Nat) (k : Int) (d : Dm) : Option (Bool × V) := match op with
 | .Add => some (true, .sint n (a + k) d)
 | _ => none
noncomputable def binBB (op : Operator) (a b : List UInt8) : Option (Bool × V) := match op with
 | .Add => some (decide (a.length + b.length <= 1000000), .bytes (a ++ b))
 | _ => none
noncomputable def binLI (op : Operator) (v : V) (n : Int) (st : St) : Option (Bool × V) := match op with
 | .Mult => (q4r st v).bind fun vs => if 0 <= n /\ n < 1000 /\ vs.length * n.toNat <= 256 then some (true, .lst (List.replicate n.toNat vs).flatten) else none
 | _ => none
noncomputable def j9h (op : Operator) (v w : V) (st : St) : Option (Bool × V) := match op with
 | .Add => (q4r st v).bind fun vs => (q4r st w).bind fun ws => if vs.length + ws.length <= 1000000 then some (true, .lst (vs ++ ws)) else none
 | _ => none
noncomputable def binIX (op : Operator) (a : Int) (b : V) : Option (Bool × V) := match b with
 | .int b => j9g op a b
 | .sint n k d => binIS op a n k d
 | _ => none
noncomputable def binSX (op : Operator) (n : Nat) (k : Int) (d : Dm) (b : V) : Option (Bool × V) := match b with
 | .int b => j9j op n k d b
 | _ => none
noncomputable def binBX (op : Operator) (a : List UInt8) (b : V) : Option (Bool × V) := match b with
 | .bytes b => binBB op a b
 | _ => none
noncomputable def j9i (op : Operator) (v w : V) (st : St) : Option (Bool × V) := match w with
 | .int n => binLI op v n st
 | w => j9h op v w st
noncomputable def binV (op : Operator) (a b : V) (st : St) : Option (Bool × V) := match a with
 | .int a => binIX op a b
 | .sint n k d => binSX op n k d b
 | .bytes a => binBX op a b
 | v => j9i op v b st
section
variable {c : Cx} {P : Pt} {ρ : Loc} {st : St} {X : Exc} {Q : V -> St -> Prop}
theorem pq {b0 q0 : Bool} {w v : V} (e : some (b0, w) = some (q0, v)) (hq : q0 = true) (q : Q v st) : b0 = true /\ Q w st := by
 have h := oi e
 exact ⟨(congrArg Prod.fst h).trans hq, q9o h ▸ q⟩
theorem pqi {p : Prop} [Decidable p] {b0 q0 : Bool} {w v : V} (e : (if p then some (b0, w) else none) = some (q0, v)) (q : Q v st) : p /\ Q w st := by
 obtain ⟨h, e⟩ := q0u e
 exact ⟨h, q9o e ▸ q⟩
theorem z9p {op : Operator} {v w r : V} {q0 : Bool} (e : j9i op v w st = some (q0, r)) (q : Q r st) : q4z c P ρ st op v w Q X := by
 have go : ∀ {w : V}, j9h op v w st = some (q0, r) -> q4z c P ρ st op v w Q X := fun {w} e => by
   induction op using Operator.casesOn with
   | Add =>
     refine hid fun hG => ?_
     refine e12 (obi (show (q4r st v).bind _ = _ from e) :) fun vs hv e => ?_
     refine e12 (obi e :) fun ws hw e => ?_
     obtain ⟨hc, q⟩ := pqi e q
     refine hG ?_
     exact z9s (q0x hv) (q0x hw) (q21 hc) q
   | _ => exact ns e
 induction w using V.casesOn with
 | int n =>
   induction op using Operator.casesOn with
   | Mult =>
     refine e12 (obi (show (q4r st v).bind _ = _ from e) :) fun vs hv e => ?_
     obtain ⟨hc, q⟩ := pqi e q
     exact z9t (q0x hv) (Int.le_trans (by decide) hc.1) (Int.lt_trans hc.2.1 (by decide)) hc.2.2 q
   | _ => exact ns e
 | _ => exact go e
theorem q7f {op : Operator} {n : Nat} {k b : Int} {d : Dm} {v : V} (h : ∀ j, d.Has j -> ∃ r, (∀ {A : Around} {E : Value -> Shared -> Prop} {s : Shared} {t u : Tok} {Q : Value -> Shared -> Prop}, Q (.int r s.toks) { s with toks := s.toks + 1 } -> wpAny (model c.prog c.w) A (binaryOp op (.int (j + k) t) (.int b u)) Q E s) /\ ∀ g t, g.zi n = some j -> VR c g v (.int r t)) (q : Q v st) : q4z c P ρ st op (.sint n k d) (.int b) Q X := fun g pv m ns news h0 s p Qc Ec a hp K => by
 obtain ⟨x, y⟩ := p
 obtain ⟨i, t, rfl, j, h1, rfl, hj⟩ := hp.1.sintI
 obtain ⟨u, rfl⟩ := hp.2.intI
 refine e12 (h j hj :) fun r h2 h3 => ?_
 exact h2 (K.now a (h3 g _ h1) q)
theorem z4z {a k : Int} {n : Nat} {d : Dm} (q : Q (.sint n (a + k) d) st) : q4z c P ρ st .Add (.int a) (.sint n k d) Q X := fun g pv m ns news h0 s p Qc Ec at_ hp K => by
 obtain ⟨x, y⟩ := p
 obtain ⟨t, rfl⟩ := hp.1.intI
 obtain ⟨i, u, rfl, j, h1, rfl, hj⟩ := hp.2.sintI
 exact PySem.P.add_int (K.now at_ (.sint _ ⟨j, h1, by omega, hj⟩) q)
theorem j1x {x : Nat} {b : Int} (h0 : 0 <= b) (h1 : b <= 64) (h2 : x <= 64) : (x : Int) * b <= 2 ^ 27 := by
 obtain ⟨n, rfl⟩ := Int.eq_ofNat_of_zero_le h0
 have : x * n <= 64 * 64 := Nat.mul_le_mul h2 (by omega)
 have e : (x : Int) * (n : Int) = ((x * n : Nat) : Int) := by (refine rwm (Int.natCast_mul _ _) ?_; rfl)
 show (x : Int) * (n : Int) <= 2 ^ 27
 refine rwm e ?_
 omega
theorem z9o {op : Operator} {a b : Int} {v : V} {q0 : Bool} (e : j9g op a b = some (q0, v)) (hq : q0 = true) (q : Q v st) : q4z c P ρ st op (.int a) (.int b) Q X := by
 induction op using Operator.casesOn with
 | Add => exact q7d (pq e hq q).2
 | Sub => exact j4p (pq e hq q).2
 | Mult => exact q7e (.of_left (of_decide_eq_true (pq e hq q).1)) (pq e hq q).2
 | FloorDiv =>
   obtain ⟨h, q⟩ := pq e hq q
   rw [Bool.and_eq_true, Bool.not_eq_true', Bool.not_eq_true'] at h
   exact z9r (beq_eq_false_iff_ne.mp h.1) h.2 q
 | Mod =>
   obtain ⟨h, q⟩ := pq e hq q
   rw [Bool.not_eq_true'] at h
   exact j4l (beq_eq_false_iff_ne.mp h) q
 | BitAnd => exact j4k (pq e hq q).2
 | BitOr => exact j9k (pq e hq q).2
 | LShift =>
   obtain ⟨h, q⟩ := pq e hq q
   have h := of_decide_eq_true h
   exact j4n h.1.1 (by omega) q
 | RShift => exact j4o (of_decide_eq_true (pq e hq q).1) (pq e hq q).2
 | Pow =>
   obtain ⟨h, q⟩ := pq e hq q
   have h := of_decide_eq_true h
   exact z40 h.1.1 (j1x h.1.1 h.1.2 h.2) q
 | _ => exact ns e
theorem q7s {k b r : Int} {d : Dm} (e : j5y k b d = some r) {j : Int} (hj : d.Has j) : (b == 0) ≠ true /\ Builtin.divisionGoesByPylong (j + k) b ≠ true /\ (j + k).fdiv b = r := by
 induction d using Dm.casesOn with
 | rng _ _ => exact ns e
 | set l =>
   change cond (b == 0 || l.any fun j => Builtin.divisionGoesByPylong (j + k) b) none (q96 (l.map fun j => (j + k).fdiv b)) = some r at e
   refine q27 (b == 0 || l.any fun j => Builtin.divisionGoesByPylong (j + k) b) (fun h => ?_) fun h => ?_
   . rw [h] at e; exact ns e
   .
     rw [h] at e
     rw [Bool.or_eq_false_iff] at h
     exact ⟨fun z => tf (z.symm.trans h.1), fun z => tf ((List.any_eq_true.mpr ⟨j, hj, z⟩).symm.trans h.2), q3h e _ (List.mem_map.mpr ⟨j, hj, rfl⟩)⟩
theorem z9q {op : Operator} {n : Nat} {k b : Int} {d : Dm} {v : V} {q0 : Bool} (e : j9j op n k d b = some (q0, v)) (hq : q0 = true) (q : Q v st) : q4z c P ρ st op (.sint n k d) (.int b) Q X := by
 induction op using Operator.casesOn with
 | Add => exact q7f (fun j hj => ⟨_, fun h => PySem.P.add_int h, fun g t hz => .sint t ⟨j, hz, (Int.add_assoc j k b), hj⟩⟩) (pq e hq q).2
 | Sub => exact q7f (fun j hj => ⟨_, fun h => PySem.P.sub_int h, fun g t hz => .sint t ⟨j, hz, (Int.add_sub_assoc j k b), hj⟩⟩) (pq e hq q).2
 | FloorDiv =>
   refine e12 (omi (show (j5y k b d).map _ = _ from e) :) fun r h1 h2 => ?_
   refine q7f (v := .int r) (fun j hj => ⟨_, fun hq => AutoIntOps.floordiv_1 (q7s h1 hj).1 (q7s h1 hj).2.1 hq, fun g t hz => ?_⟩) (q9o h2 ▸ q)
   refine rwm ((q7s h1 hj).2.2) ?_
   exact .int _ _
 | _ => exact ns e
theorem j4j {op : Operator} {a b v : V} {q0 : Bool} (e : binV op a b st = some (q0, v)) (hq : q0 = true) (q : Q v st) : q4z c P ρ st op a b Q X := by
 induction a using V.casesOn with
 | int a =>
   induction b using V.casesOn with
   | int b => exact z9o e hq q
   | sint n k d =>
     induction op using Operator.casesOn with
     | Add => exact z4z (pq e hq q).2
     | _ => exact ns e
   | _ => exact ns e
 | sint n k d =>
   induction b using V.casesOn with
   | int b => exact z9q e hq q
   | _ => exact ns e
 | bytes a =>
   induction b using V.casesOn with
   | bytes b =>
     induction op using Operator.casesOn with
     | Add => exact q8p (Nat.le_trans (of_decide_eq_true (pq e hq q).1) (by decide)) (pq e hq q).2
     | _ => exact ns e
   | _ => exact ns e
 | _ => exact z9p e q
end
noncomputable def q1a (op : CmpOp) (a b : Int) : Option Bool := match op with
 | .Eq => some (a == b)
 | .NotEq => some (a != b)
 | .Lt => some (decide (a < b))
 | .LtE => some (decide (a <= b))
 | .Gt => some (decide (a > b))
 | .GtE => some (decide (a >= b))
 | _ => none
noncomputable def q26 {α : Type} (l : List (Option α)) : Option (List α) := List.rec (some []) (fun o W0 ih => Option.casesOn o none fun a => ih.map (a :: ·)) l
theorem q6p {α : Type} : ∀ {l : List (Option α)} {r : List α}, q26 l = some r -> ∀ a ∈ l, ∃ x, a = some x /\ x ∈ r := by
 intro l
 induction l with
 | nil => intro r h a ha; exact nomatch ha
 | cons o l ih =>
   intro r h a ha
   induction o using Option.casesOn with
   | none => exact ns h
   | some o =>
   (refine e12 (omi (show (q26 l).map (o :: ·) = some r from h) :) fun ys e r => ?_; subst r)
   rcases mc ha with rfl | ha
   . exact ⟨o, rfl, .head _⟩
   . refine e12 (ih e a ha :) fun y h1 h2 => ?_
     exact ⟨y, h1, .tail _ h2⟩
noncomputable def j9u (op : CmpOp) (k : Int) (d : Dm) (c : Int) : Option Bool := match d with
 | .set l => (q26 (l.map fun j => q1a op (j + k) c)).bind q96
 | .rng lo hi => (match op with
   | .Eq => if c < lo + k \/ hi + k < c then some false else none
   | .NotEq => if c < lo + k \/ hi + k < c then some true else none
   | .Lt => if hi + k < c then some true else if c <= lo + k then some false else none
   | .LtE => if hi + k <= c then some true else if c < lo + k then some false else none
   | .Gt => if c < lo + k then some true else if hi + k <= c then some false else none
   | .GtE => if c <= lo + k then some true else if hi + k < c then some false else none
   | _ => none)
theorem z0g {op : CmpOp} {k c j : Int} {d : Dm} {v : Bool} (e : j9u op k d c = some v) (h : d.Has j) : q1a op (j + k) c = some v := by
 induction d using Dm.casesOn with
 | set l =>
   refine e12 (obi (show (q26 (l.map fun j => q1a op (j + k) c)).bind q96 = some v from e) :) fun r h1 h2 => ?_
   refine e12 (q6p h1 _ (List.mem_map_of_mem (f := fun j => q1a op (j + k) c) h) :) fun x q1 q2 => ?_
   (refine rwm q1 ?_; refine rwm (q3h h2 x q2) ?_; rfl)
 | rng lo hi =>
   obtain ⟨h1, h2⟩ := h
   have h1 : lo + k <= j + k := Int.add_le_add_right h1 k
   have h2 : j + k <= hi + k := Int.add_le_add_right h2 k
   have hne : ∀ {c : Int}, c < lo + k \/ hi + k < c -> j + k ≠ c := fun h z => h.elim (fun h => absurd (Int.lt_of_lt_of_le h h1) (by refine rwm z ?_; exact Int.lt_irrefl _)) (fun h => absurd (Int.lt_of_le_of_lt h2 h) (by refine rwm z ?_; exact Int.lt_irrefl _))
   induction op using CmpOp.casesOn with
   | Eq =>
     obtain ⟨h, rfl⟩ := q0u (c := c < lo + k \/ hi + k < c) e
     exact congrArg some (beq_eq_false_iff_ne.mpr (hne h))
   | NotEq =>
     obtain ⟨h, rfl⟩ := q0u (c := c < lo + k \/ hi + k < c) e
     exact congrArg some (bne_iff_ne.mpr (hne h))
   | Lt =>
     obtain ⟨h, rfl⟩ | ⟨h, rfl⟩ := q3r (c := hi + k < c) (d := c <= lo + k) e
     . exact congrArg some (decide_eq_true (Int.lt_of_le_of_lt h2 h))
     . exact congrArg some (decide_eq_false (Int.not_lt.mpr (Int.le_trans h h1)))
   | LtE =>
     obtain ⟨h, rfl⟩ | ⟨h, rfl⟩ := q3r (c := hi + k <= c) (d := c < lo + k) e
     . exact congrArg some (decide_eq_true (Int.le_trans h2 h))
     . exact congrArg some (decide_eq_false (Int.not_le.mpr (Int.lt_of_lt_of_le h h1)))
   | Gt =>
     obtain ⟨h, rfl⟩ | ⟨h, rfl⟩ := q3r (c := c < lo + k) (d := hi + k <= c) e
     . exact congrArg some (decide_eq_true (Int.lt_of_lt_of_le h h1))
     . exact congrArg some (decide_eq_false (Int.not_lt.mpr (Int.le_trans h2 h)))
   | GtE =>
     obtain ⟨h, rfl⟩ | ⟨h, rfl⟩ := q3r (c := c <= lo + k) (d := hi + k < c) e
     . exact congrArg some (decide_eq_true (Int.le_trans h h1))
     . exact congrArg some (decide_eq_false (Int.not_le.mpr (Int.lt_of_le_of_lt h2 h)))
   | _ => exact ns e
noncomputable def z6q : CmpOp -> CmpOp
 | .Lt => .Gt
 | .LtE => .GtE
 | .Gt => .Lt
 | .GtE => .LtE
 | op => op
theorem q8u {op : CmpOp} {a b : Int} {v : Bool} (e : q1a (z6q op) b a = some v) : q1a op a b = some v := by
 cases op <;> unfold z6q q1a at * <;> first
   | exact e
   | (dsimp only at e ⊢; rw [<- e, q5d])
   | (dsimp only at e ⊢; refine rwb e ?_; unfold bne; (refine rwm (q5d _ _) ?_; rfl))
   | (dsimp only at e ⊢; rw [<- e]; rfl)
theorem q7o {op : CmpOp} {a b j : Int} : q1a op (j + a) (j + b) = q1a op a b := by
 have h1 : (j + a == j + b) = (a == b) := by rw [Bool.eq_iff_iff, beq_iff_eq, beq_iff_eq]; exact ⟨Int.add_left_cancel, fun h => congrArg _ h⟩
 have h3 : ∀ {a b : Int}, decide (j + a < j + b) = decide (a < b) := decide_eq_decide.mpr (Int.add_lt_add_iff_left j)
 have h4 : ∀ {a b : Int}, decide (j + a <= j + b) = decide (a <= b) := decide_eq_decide.mpr (Int.add_le_add_iff_left j)
 have h2 : (j + a != j + b) = (a != b) := congrArg Bool.not h1
 induction op using CmpOp.casesOn with
 | Eq => exact congrArg some h1
 | NotEq => exact congrArg some h2
 | Lt => exact congrArg some h3
 | LtE => exact congrArg some h4
 | Gt => exact congrArg some h3
 | GtE => exact congrArg some h4
 | _ => rfl
noncomputable def memZ (k : Int) (d : Dm) (ns : List Int) : Option Bool := match d with
 | .set l => q96 (l.map fun j => ns.any (· == j + k))
 | .rng lo hi => (q26 (ns.map fun c => j9u .Eq k (.rng lo hi) c)).map fun bs => bs.any id
theorem j6k {k j : Int} {d : Dm} {ns : List Int} {v : Bool} (e : memZ k d ns = some v) (h : d.Has j) : ns.any (· == j + k) = v := by
 induction d using Dm.casesOn with
 | set l => exact q3h e _ (List.mem_map_of_mem (f := fun j => ns.any (· == j + k)) h)
 | rng lo hi =>
   (refine e12 (omi (show Option.map _ _ = _ from e) :) fun bs h1 r => ?_; subst r)
   clear e
   induction ns generalizing bs with
   | nil => obtain rfl := oi h1; rfl
   | cons c ns ih =>
     rw [List.map_cons] at h1
     refine q1v (j9u .Eq k (.rng lo hi) c) (fun hc => ?_) fun b hc => ?_
     . rw [hc] at h1; exact zns h1
     .
       rw [hc] at h1
       (refine e12 (omi (show (q26 _).map (b :: ·) = _ from h1) :) fun bs' h2 r => ?_; subst r)
       have hb : (j + k == c) = b := oi (z0g hc h)
       (refine rwm List.any_cons ?_; refine rwm List.any_cons ?_; refine rwm (ih bs' h2) ?_; refine rwb hb ?_; refine rwm (q5d _ _) ?_)
       rfl
noncomputable def x1d (op : CmpOp) (b : Bool) : Option Bool := match op with
 | .In => some b
 | .NotIn => some (!b)
 | _ => none
noncomputable def j0b (op : CmpOp) (b : Option Bool) : Option Bool := match op with
 | .Eq => b
 | .NotEq => b.map (!·)
 | _ => none
noncomputable def cmpIs (op : CmpOp) (v : V) : Option Bool := cond v.clear (match op with | .Is => some v.isNone | .IsNot => some (!v.isNone) | _ => none) none
noncomputable def cmpXI (op : CmpOp) (a : V) (b : Int) : Option Bool := match a with
 | .int a => q1a op a b
 | .sint _ k d => j9u op k d b
 | _ => none
noncomputable def cmpXS (op : CmpOp) (a : V) (m : Nat) (k' : Int) (d : Dm) : Option Bool := match a with
 | .int a => j9u (z6q op) k' d a
 | .sint n k _ => cond (Nat.beq n m) (q1a op k k') none
 | _ => none
noncomputable def cmpXT (op : CmpOp) (a : V) (y : Str) : Option Bool := match a, op with
 | .str x, .Eq => some (x.cps.toList == y.cps.toList)
 | _, _ => none
noncomputable def cmpXB (op : CmpOp) (a : V) (y : List UInt8) : Option Bool := match a with
 | .bytes x => j0b op (some (x == y))
 | .sb x => cond y.isEmpty (j0b op (some (x.len == 0))) none
 | _ => none
noncomputable def j9t (op : CmpOp) (a : V) (y : SB) : Option Bool := match a with
 | .sb x => j0b op (if x = y then some true else none)
 | _ => none
noncomputable def j47 (op : CmpOp) (a : V) (ws : List V) : Option Bool := match a with
 | .tup vs => j0b op (eqVs vs ws)
 | .int a => (match op with | .In => (q3a ws).map fun ns => ns.any (· == a) | _ => none)
 | _ => none
noncomputable def j3a (op : CmpOp) (vs : List V) (o : Option AO) : Option Bool := match o with
 | some (.tab xs _) => (zsV vs).bind fun zs => (q9t zs xs).bind (x1d op)
 | _ => none
noncomputable def cmpL (op : CmpOp) (a w : V) (st : St) : Option Bool := match a with
 | .int a => ((q4r st w).bind q3a).bind fun ns => x1d op (ns.any (· == a))
 | .sint _ k d => ((q4r st w).bind q3a).bind fun ns => (memZ k d ns).bind (x1d op)
 | v => (q4r st v).bind fun vs => (q4r st w).bind fun ws => cond ws.isEmpty (j0b op (some vs.isEmpty)) none
noncomputable def cmpXR (op : CmpOp) (a : V) (n : Nat) (st : St) : Option Bool := match a with
 | .tup vs => j3a op vs (st.get n)
 | a => cmpL op a (.ref n) st
noncomputable def z9b (op : CmpOp) (a b : V) (st : St) : Option Bool := match b with
 | .none => cmpIs op a
 | .int b => cmpXI op a b
 | .sint m k d => cmpXS op a m k d
 | .str y => cmpXT op a y
 | .bytes y => cmpXB op a y
 | .sb y => j9t op a y
 | .tup ws => j47 op a ws
 | .ref n => cmpXR op a n st
 | w => cmpL op a w st
section
variable {c : Cx} {P : Pt} {ρ : Loc} {st : St} {X : Exc} {Q : V -> St -> Prop}
theorem q2t {op : CmpOp} {a b : Int} {v : Bool} (e : q1a op a b = some v) (q : Q (.bool v) st) : q1o c P ρ st op (.int a) (.int b) Q X := by
 have go : ∀ {w : Bool}, some w = some v -> Q (.bool w) st := fun e => oi e ▸ q
 induction op using CmpOp.casesOn with
 | Eq => exact j9v (go e)
 | NotEq => exact j91 (go e)
 | Lt => exact j90 (go e)
 | LtE => exact j9z (go e)
 | Gt => exact j9x (go e)
 | GtE => exact j9w (go e)
 | _ => exact ns e
theorem q1o.sint_l {op : CmpOp} {n : Nat} {k : Int} {d : Dm} {b : V} (h : ∀ j, d.Has j -> q1o c P ρ st op (.int (j + k)) b Q X) : q1o c P ρ st op (.sint n k d) b Q X := fun g pv m ns news h0 s p Qc Ec a hp K => by
 obtain ⟨x, y⟩ := p
 obtain ⟨i, t, rfl, j, _, rfl, hj⟩ := hp.1.sintI
 exact h j hj g pv m ns news h0 s _ Qc Ec a ⟨.int _ t, hp.2⟩ K
theorem q1o.sint_r {op : CmpOp} {n : Nat} {k : Int} {d : Dm} {b : V} (h : ∀ j, d.Has j -> q1o c P ρ st op b (.int (j + k)) Q X) : q1o c P ρ st op b (.sint n k d) Q X := fun g pv m ns news h0 s p Qc Ec a hp K => by
 obtain ⟨x, y⟩ := p
 obtain ⟨i, t, rfl, j, _, rfl, hj⟩ := hp.2.sintI
 exact h j hj g pv m ns news h0 s _ Qc Ec a ⟨hp.1, .int _ t⟩ K
theorem q1o.sint_2 {op : CmpOp} {n : Nat} {k k' : Int} {d d' : Dm} (h : ∀ j, q1o c P ρ st op (.int (j + k)) (.int (j + k')) Q X) : q1o c P ρ st op (.sint n k d) (.sint n k' d') Q X := fun g pv m ns news h0 s p Qc Ec a hp K => by
 obtain ⟨x, y⟩ := p
 obtain ⟨i, t, rfl, j, h1, rfl, hj⟩ := hp.1.sintI
 obtain ⟨i', t', rfl, j', h2, rfl, hj'⟩ := hp.2.sintI
 obtain rfl := oi (h1.symm.trans h2)
 exact h j g pv m ns news h0 s _ Qc Ec a ⟨.int _ t, .int _ t'⟩ K
theorem eqOp_ok {op : CmpOp} {r : Option Bool} {v : Bool} (e : j0b op r = some v) : ∃ b, r = some b /\ ((op = .Eq /\ v = b) \/ (op = .NotEq /\ v = !b)) := by
 induction op using CmpOp.casesOn with
 | Eq => exact ⟨v, e, .inl ⟨rfl, rfl⟩⟩
 | NotEq =>
   induction r using Option.casesOn with
   | none => exact ns e
   | some b => exact ⟨b, rfl, .inr ⟨rfl, (oi e).symm⟩⟩
 | _ => exact ns e
theorem j5d {op : CmpOp} {x y : SB} {v : Bool} (e : j0b op (if x = y then some true else none) = some v) (q : Q (.bool v) st) : q1o c P ρ st op (.sb x) (.sb y) Q X := fun g W0 W0 W0 W0 W0 s p W0 W0 a hp K => by
 obtain ⟨x', y'⟩ := p
 refine e12 (eqOp_ok e :) fun b e1 e2 => ?_
 obtain ⟨h, rfl⟩ := q0u e1
 . subst h
   (refine e22 hp.1.sbI fun l t r => ?_; subst r; intro z1)
   (refine e22 hp.2.sbI fun l' u r => ?_; subst r; intro z2)
   obtain rfl := z1.det z2
   rcases e2 with ⟨rfl, rfl⟩ | ⟨rfl, rfl⟩
   . exact eq_bytes (by refine rwm (beq_self_eq_true _) ?_; exact K.now (tk := s.toks) a (.bool _) q)
   . exact ne_bytes (by refine rwm (bne_self_eq_false _) ?_; exact K.now (tk := s.toks) a (.bool _) q)
theorem j5c {op : CmpOp} {x : SB} {v : Bool} (e : j0b op (some (x.len == 0)) = some v) (q : Q (.bool v) st) : q1o c P ρ st op (.sb x) (.bytes []) Q X := fun g W0 W0 W0 W0 W0 s p W0 W0 a hp K => by
 obtain ⟨x', y'⟩ := p
 refine e12 (eqOp_ok e :) fun b e1 e2 => ?_
 (refine e22 hp.1.sbI fun l t r => ?_; subst r; intro z1)
 obtain ⟨u, rfl⟩ := hp.2.bytesI
 cases e1
 rw [<- z1.length] at e2
 have hb : (l == []) = (l.length == 0) := by cases l <;> rfl
 have hn : (l != []) = !(l.length == 0) := by cases l <;> rfl
 rcases e2 with ⟨rfl, rfl⟩ | ⟨rfl, rfl⟩
 . refine eq_bytes ?_
   have := K.now (tk := s.toks) a (.bool _) q
   rw [<- hb] at this
   simpa using this
 . refine ne_bytes ?_
   have := K.now (tk := s.toks) a (.bool _) q
   rw [<- hn] at this
   simpa using this
theorem z0z {op : CmpOp} {b v : Bool} (e : x1d op b = some v) : (op = .In /\ v = b) \/ (op = .NotIn /\ v = !b) := by
 induction op using CmpOp.casesOn with
 | In => exact .inl ⟨rfl, (oi e).symm⟩
 | NotIn => exact .inr ⟨rfl, (oi e).symm⟩
 | _ => exact ns e
theorem z94 {op : CmpOp} {a : Int} {w : V} {v : Bool} (e : (((q4r st w).bind q3a).bind fun ns => x1d op (ns.any (· == a))) = some v) (q : Q (.bool v) st) : q1o c P ρ st op (.int a) w Q X := by
 refine e12 (obi e :) fun ns e1 e => ?_
 refine e12 (obi e1 :) fun ws e0 e1 => ?_
 have hw := q0x e0
 rw [q2u e1] at hw
 rcases z0z e with ⟨rfl, rfl⟩ | ⟨rfl, rfl⟩
 . exact q5h hw q
 . exact q24 hw q
theorem z5n {op : CmpOp} {a w : V} {b : Bool} (e : cmpL op a w st = some b) (q : Q (.bool b) st) : q1o c P ρ st op a w Q X := by
 have go : ∀ {a : V}, ((q4r st a).bind fun vs => (q4r st w).bind fun ws => cond ws.isEmpty (j0b op (some vs.isEmpty)) none) = some b -> q1o c P ρ st op a w Q X := fun {a} e => by
   refine e12 (obi e :) fun vs hv e => ?_
   refine e12 (obi e :) fun ws hw e => ?_
   obtain ⟨h0, e⟩ := q0c e
   obtain rfl := List.isEmpty_iff.mp h0
   refine e12 (eqOp_ok e :) fun r e1 e2 => ?_
   obtain rfl := oi e1
   rcases e2 with ⟨rfl, rfl⟩ | ⟨rfl, rfl⟩
   . exact j5b (q0x hv) (q0x hw) q
   . exact z3d (q0x hv) (q0x hw) q
 induction a using V.casesOn with
 | int a => exact z94 e q
 | sint n k d =>
   refine e12 (obi (show Option.bind _ _ = some b from e) :) fun ns e1 e => ?_
   refine e12 (obi e1 :) fun ws e0 e1 => ?_
   refine e12 (obi e :) fun b e2 e => ?_
   have hw := q0x e0
   rw [q2u e1] at hw
   refine q1o.sint_l fun j hj => ?_
   have := j6k e2 hj
   rcases z0z e with ⟨rfl, rfl⟩ | ⟨rfl, rfl⟩
   . exact q5h hw (by refine rwm this ?_; exact q)
   . exact q24 hw (by refine rwm this ?_; exact q)
 | _ => exact go e
theorem z5o {op : CmpOp} {vs : List V} {n : Nat} {v : Bool} (hs : q8k c) (e : j3a op vs (st.get n) = some v) (q : Q (.bool v) st) : q1o c P ρ st op (.tup vs) (.ref n) Q X := by
 refine q1v (st.get n) (fun hg => ?_) fun o hg => ?_
 . rw [hg] at e; exact ns e
 .
   rw [hg] at e
   induction o using AO.casesOn with
   | tab xs p =>
     refine e12 (obi (show (zsV vs).bind _ = some v from e) :) fun zs hz e2 => ?_
     refine e12 (obi e2 :) fun b hb e3 => ?_
     refine rwm (q91 hz) ?_
     rcases z0z e3 with ⟨rfl, rfl⟩ | ⟨rfl, rfl⟩
     . exact z3b hs hg hb q
     . exact q7p hs hg hb q
   | _ => exact ns e
theorem j46 {op : CmpOp} {a b : V} {v : Bool} (hs : q8k c) (e : z9b op a b st = some v) (q : Q (.bool v) st) : q1o c P ρ st op a b Q X := by
 induction b using V.casesOn with
 | none =>
   obtain ⟨h, e⟩ := q0c (show cond a.clear _ none = some v from e)
   induction op using CmpOp.casesOn with
   | Is => exact j9y h (oi e ▸ q)
   | IsNot => exact z5p h (oi e ▸ q)
   | _ => exact ns e
 | int b =>
   induction a using V.casesOn with
   | int a => exact q2t e q
   | sint n k d => exact q1o.sint_l fun j hj => q2t (z0g e hj) q
   | _ => exact ns e
 | sint m k' d' =>
   induction a using V.casesOn with
   | int a => exact q1o.sint_r fun j hj => q2t (q8u (z0g e hj)) q
   | sint n k d =>
     obtain ⟨h, e2⟩ := q0c (show cond (Nat.beq n m) (q1a op k k') none = some v from e)
     refine rwm (Nat.eq_of_beq_eq_true h) ?_
     exact q1o.sint_2 fun j => q2t (q7o.trans e2) q
   | _ => exact ns e
 | str y =>
   induction a using V.casesOn with
   | str x =>
     induction op using CmpOp.casesOn with
     | Eq => exact j49 (oi e ▸ q)
     | _ => exact ns e
   | _ => exact ns e
 | bytes y =>
   induction a using V.casesOn with
   | bytes x =>
     refine e12 (eqOp_ok e :) fun r e1 e2 => ?_
     obtain rfl := oi e1
     rcases e2 with ⟨rfl, rfl⟩ | ⟨rfl, rfl⟩
     . exact j48 q
     . exact j5a q
   | sb x =>
     obtain ⟨h, e⟩ := q0c (show cond y.isEmpty _ none = some v from e)
     obtain rfl := List.isEmpty_iff.mp h
     exact j5c e q
   | _ => exact ns e
 | sb y =>
   induction a using V.casesOn with
   | sb x => exact j5d e q
   | _ => exact ns e
 | tup ws =>
   induction a using V.casesOn with
   | tup vs =>
     refine e12 (eqOp_ok e :) fun r e1 e2 => ?_
     rcases e2 with ⟨rfl, rfl⟩ | ⟨rfl, rfl⟩
     . exact z5q (.inl rfl) e1 (by simpa using q)
     . exact z5q (.inr rfl) e1 (by simpa using q)
   | int a =>
     induction op using CmpOp.casesOn with
     | In =>
       (refine e12 (omi (show (q3a ws).map _ = some v from e) :) fun ns h r => ?_; subst r)
       refine rwm (q2u h) ?_
       exact z3c q
     | _ => exact ns e
   | _ => exact ns e
 | ref n =>
   induction a using V.casesOn with
   | tup vs => exact z5o hs e q
   | _ => exact z5n e q
 | _ => exact z5n e q
end
noncomputable def j8a (v : V) : Option Bool := match v with
 | .bool b => some b
 | .int i => some (i != 0)
 | .none => some false
 | _ => none
theorem q58 {c : Cx} {P : Pt} {ρ : Loc} {st : St} {X : Exc} {Q : Bool -> St -> Prop} {a : V} {b : Bool} (e : j8a a = some b) (q : Q b st) : z4c c P ρ st a Q X := by
 induction a using V.casesOn with
 | bool b => exact q2e (oi e ▸ q)
 | int i => exact j8b (oi e ▸ q)
 | none => exact j2m (oi e ▸ q)
 | _ => exact ns e
noncomputable def x17 (st : St) (v : V) : Option (List V) := match v with
 | .tup vs => some vs
 | v => q4r st v
theorem j7p {st : St} {v : V} {vs : List V} (h : x17 st v = some vs) : IsSeq st vs v := by
 have go : q4r st v = some vs -> IsSeq st vs v := fun h => by
   rcases q0x h with rfl | ⟨n, rfl, e⟩
   . exact .lst
   . exact .ref e
 induction v using V.casesOn with
 | tup ws =>
   refine rwm (oi h) ?_
   exact .tup
 | _ => exact go h
noncomputable def subS (b : SB) (k : Int) : Option (Bool × V) := match b with
 | .icmp a _ _ _ => if k = 0 then some (true, .int a) else none
 | _ => none
noncomputable def x2d (l : Option (List V)) (k : Int) : Option (Bool × V) := if -(2 ^ 62) <= k /\ k < 2 ^ 62 then l.bind fun vs => (seqIndex? k vs.length).bind fun j => (vs[j]?).map fun v => (true, v) else none
noncomputable def subI (o : V) (k : Int) (st : St) : Option (Bool × V) := match o with
 | .bytes b => some (decide (0 <= k /\ k < b.length /\ b.length <= 1000000), .int ((b.getD k.toNat 0).toNat : Nat))
 | .sb b => subS b k
 | v => x2d (x17 st v) k
noncomputable def j32 (o : Option AO) : Option ((List Z × V) × Option (List DictEntry × Nat)) := match o with
 | some (.tab l p) => (one l).map fun q => (q, p)
 | _ => none
theorem z1l {o : Option AO} {q : (List Z × V) × Option (List DictEntry × Nat)} (h : j32 o = some q) : o = some (.tab [(q.1.1, q.1.2)] q.2) := by
 induction o using Option.casesOn with
 | none => exact ns h
 | some o =>
   induction o using AO.casesOn with
   | tab l p =>
     obtain ⟨r, h1, rfl⟩ := omi (show (one l).map _ = some q from h)
     (refine rwm (q0y h1) ?_; rfl)
   | _ => exact ns h
noncomputable def subT (vs : List V) (o : Option AO) : Option (Bool × V) := (zsV vs).bind fun zs => (j32 o).bind fun q => if q.1.1 = zs then some (true, q.1.2) else none
noncomputable def subV (o i : V) (st : St) : Option (Bool × V) := match i with
 | .int k => subI o k st
 | .str k => (match o with
   | .dct ks vs => ((ks.zip vs).lookup k).map fun v => (true, v)
   | _ => none)
 | .tup vs => (z83 o).bind fun n => subT vs (st.get n)
 | _ => none
noncomputable def slV (v : V) (lo hi : Option Int) (st : St) : Option (Bool × V) := match v with
 | .bytes b => some (decide (b.length <= 1000000), .bytes (q0t b lo hi))
 | .sb b => if b.len <= 1000000 then some (true, .sb (j8s b (q4s b.len lo hi).1 (q4s b.len lo hi).2)) else none
 | .tup vs => cond (Nat.ble vs.length 1000) (Option.casesOn lo
     (Option.casesOn hi none fun b => if 0 <= b /\ b < vs.length then some (true, .tup (vs.take b.toNat)) else none)
     fun a => Option.casesOn hi (if 1 <= a /\ a <= vs.length then some (true, .tup (vs.drop a.toNat)) else none) fun W0 => none) none
 | v => (q4r st v).bind fun vs => if vs.length <= 1000000 then some (true, .lst (q0t vs lo hi)) else none
section
variable {c : Cx} {P : Pt} {ρ : Loc} {st : St} {X : Exc} {Q : V -> St -> Prop}
theorem x1k {k : Int} (h0 : 0 <= k) (h1 : k < 256) : (((o8 k.toNat).toNat : Nat) : Int) = k := by
 refine rwm (q3v _) ?_
 refine rwm (Nat.mod_eq_of_lt (Int.ofNat_lt.mp (Int.lt_of_le_of_lt (Int.le_of_eq (Int.toNat_of_nonneg h0)) h1))) ?_
 exact Int.toNat_of_nonneg h0
theorem j2h {a b : Int} {z : Z} {p : SB} (q : Q (.int a) st) : z9g c P ρ st (.sb (.icmp a b z p)) (.int 0) Q X :=
 fun g pv m ns news h0' s x y Qc Ec a' rx ry K => by
   (refine e22 rx.sbI fun l t r => ?_; subst r; intro hl)
   refine e11 ry.intI fun u r => rwm r ?_
   have hlen := hl.length
   cases hl with | @icmp _ _ _ r _ l h1 h2 h3 h4 h5 h6 h7 h8 h9 =>
   refine ⟨"bytes", _, FB.slot_bytes_getitem.lookup, typeIs_bytes _ _ _, getItem_bytes (l := q09 a b r l) (by rw [q1h]; omega) (by decide) (by rw [q1h]; omega) ?_⟩
   have e : (((q09 a b r l).getD (0 : Int).toNat 0).toNat : Int) = a := x1k h4 h5
   refine rwm e ?_
   exact K.now (tk := s.toks + 1) a' (.int _ _) q
theorem j7w {o v : V} {k : Int} {q0 : Bool} (e : subI o k st = some (q0, v)) (hq : q0 = true) (q : Q v st) : z9g c P ρ st o (.int k) Q X := by
 have go : x2d (x17 st o) k = some (q0, v) -> z9g c P ρ st o (.int k) Q X := fun e => by
   unfold x2d at e
   by_cases h : -(2 ^ 62) <= k /\ k < 2 ^ 62
   . rw [if_pos h] at e
     refine e12 (obi e :) fun vs h1 e => ?_
     refine e12 (obi e :) fun j h2 e => ?_
     refine e12 (omi e :) fun w e hw => ?_
     exact j7x (j7p h1) h.1 h.2 h2 e (q9o hw ▸ q)
   . rw [if_neg h] at e; exact ns e
 induction o using V.casesOn with
 | bytes b =>
   obtain ⟨h, q⟩ := pq e hq q
   have h := of_decide_eq_true h
   exact q9p h.1 h.2.1 (Nat.le_trans h.2.2 (by decide)) q
 | sb b =>
   induction b using SB.casesOn with
   | icmp a c' z p =>
     obtain ⟨rfl, q⟩ := pqi (p := k = 0) e q
     exact j2h q
   | _ => exact ns e
 | _ => exact go e
theorem q78 {o i v : V} {q0 : Bool} (e : subV o i st = some (q0, v)) (hq : q0 = true) (q : Q v st) : z9g c P ρ st o i Q X := by
 induction i using V.casesOn with
 | int k => exact j7w e hq q
 | str k =>
   induction o using V.casesOn with
   | dct ks vs =>
     obtain ⟨w, e, h⟩ := omi (show Option.map _ _ = _ from e)
     exact j2g e (q9o h ▸ q)
   | _ => exact ns e
 | tup vs =>
   refine hid fun hG => ?_
   obtain ⟨n, h1, e⟩ := obi (show (z83 o).bind _ = _ from e)
   obtain ⟨zs, h2, e⟩ := obi e
   obtain ⟨r, h3, e⟩ := obi e
   obtain ⟨h4, q⟩ := pqi e q
   refine hG ?_
   refine rwm (q3e h1) ?_
   refine rwm (q91 h2) ?_
   exact j7y ((z1l h3).trans (by (refine rwm h4 ?_; rfl))) q
 | _ => exact ns e
theorem x19 {b : SB} {lo hi : Option Int} (hz : b.len <= 16777216) (q : Q (.sb (j8s b (q4s b.len lo hi).1 (q4s b.len lo hi).2)) st) : SlW c P ρ st (.sb b) lo hi Q X :=
 fun g pv m ns news h0' s x sl vl vu Qc Ec a rx K hs pl pu => by
   (refine e22 rx.sbI fun l t r => ?_; refine rwm r ?_; intro hl)
   have e : KBy.picked l.toArray lo hi = (q0t l lo hi).toArray := by rw [KBc.picked_eq]; unfold q0t; simp
   refine ⟨"bytes", _, FB.slot_bytes_getitem.lookup, typeIs_bytes _ _ _, getItem_meets (typeIs_bytes _ _ _) (by decide) FB.slot_bytes_getitem FB.entry_bytes_getitem (FB.args_bytes_getitem_2 _ _) (KBc.meets_slice2 l.toArray _ _ pl pu)
     ⟨hs, Nat.le_trans (KBc.size_picked_le _ lo hi) (by (refine rwm sizeLine_eq ?_; refine rwm List.size_toArray ?_; refine rwm hl.length ?_); exact hz), fun t' k => ?_⟩⟩
   refine rwm e ?_
   exact K.now (tk := k) a (.sb _ (j7o hl lo hi)) q
theorem x18 {v w : V} {lo hi : Option Int} {q0 : Bool} (e : slV v lo hi st = some (q0, w)) (hq : q0 = true) (q : Q w st) : SlW c P ρ st v lo hi Q X := by
 have go : ((q4r st v).bind fun vs => if vs.length <= 1000000 then some (true, V.lst (q0t vs lo hi)) else none) = some (q0, w) -> SlW c P ρ st v lo hi Q X := fun e => by
   refine hid fun hG => ?_
   refine e12 (obi e :) fun vs h1 e => ?_
   obtain ⟨h, q⟩ := pqi e q
   refine hG ?_
   exact j2a (q0x h1) (q21 h) q
 induction v using V.casesOn with
 | bytes b =>
   obtain ⟨h, q⟩ := pq e hq q
   exact z8p (Nat.le_trans (of_decide_eq_true h) (by decide)) q
 | sb b =>
   obtain ⟨h, q⟩ := pqi (p := b.len <= 1000000) e q
   exact x19 (Nat.le_trans h (by decide)) q
 | tup vs =>
   obtain ⟨hz, e⟩ := q0c (show cond (Nat.ble vs.length 1000) _ none = _ from e)
   have hz : vs.length <= 1000000 := Nat.le_trans (Nat.le_of_ble_eq_true hz) (by decide)
   induction lo using Option.casesOn with
   | none =>
     induction hi using Option.casesOn with
     | none => exact ns e
     | some b =>
       obtain ⟨h, q⟩ := pqi (p := 0 <= b /\ b < vs.length) e q
       obtain ⟨n, rfl⟩ := Int.eq_ofNat_of_zero_le h.1
       exact z4a (Int.ofNat_lt.mp h.2) (q21 hz) q
   | some a =>
     induction hi using Option.casesOn with
     | some _ => exact ns e
     | none =>
       obtain ⟨h, q⟩ := pqi (p := 1 <= a /\ a <= vs.length) e q
       obtain ⟨n, rfl⟩ := Int.eq_ofNat_of_zero_le (Int.le_trans (by decide) h.1)
       exact q9n (Int.ofNat_le.mp h.1) (Int.ofNat_le.mp h.2) (q21 hz) q
 | _ => exact go e
end
noncomputable def joinV (a b : V) : Option V := match a with
 | .bytes a => (match b with
   | .bytes b => if a.length + b.length <= 1000000 then some (.bytes (a ++ b)) else none
   | _ => none)
 | .sb a => (match b with
   | .sb b => cond (Nat.ble (a.len + b.len) 1000000) ((z7e a b).map .sb) none
   | _ => none)
 | _ => none
noncomputable def j66 (v : V) : Option (Int × V) := (vTup v).bind fun vs => (two vs).bind fun p => (vInt p.1).map fun i => (i, p.2)
noncomputable def bLen1 (st : St) (v : V) : Option (Bool × V) := match v with
 | .bytes b => some (decide (b.length <= 1000000), .int b.length)
 | .sb b => if b.len <= 1000000 then some (true, .int b.len) else none
 | v => (q4r st v).map fun vs => (decide (vs.length <= 1000000), .int vs.length)
noncomputable def bLen (vs : List V) (st : St) : Option (Bool × V) := (one vs).bind (bLen1 st)
noncomputable def z4t (vs : List V) (st : St) : Option St := (two vs).bind fun p => (z83 p.1).bind fun n => (z4n (st.get n)).bind fun l => if l.length <= 1000000 then some (st.set n (.list (l ++ [p.2]))) else none
noncomputable def popL (n : Nat) (k : Int) (l : List V) (st : St) : Option (V × St) := List.casesOn l none fun v vs => if k = 0 /\ vs.length < 1000000 then some (v, st.set n (.list vs)) else none
noncomputable def bPop (vs : List V) (st : St) : Option (V × St) := (two vs).bind fun p => (z83 p.1).bind fun n => (vInt p.2).bind fun k => (z4n (st.get n)).bind fun l => popL n k l st
noncomputable def j89 (vs : List V) (st : St) : Option (V × St) := (two vs).bind fun p => (z83 p.1).bind fun n => (vTup p.2).bind fun ws => (zsV ws).bind fun zs => (j32 (st.get n)).bind fun q => if q.2 = none /\ q.1.1 = zs then some (q.1.2, st.set n (.tab [] .none)) else none
noncomputable def bMax (vs : List V) : Option V := (two vs).bind fun p => (vInt p.1).bind fun a => (vInt p.2).map fun b => .int (if b > a then b else a)
noncomputable def bMin (vs : List V) : Option V := (two vs).bind fun p => (vInt p.1).bind fun a => (vInt p.2).map fun b => .int (if b < a then b else a)
noncomputable def bSum (vs : List V) (st : St) : Option V := (one vs).bind fun v => ((q4r st v).bind q3a).map fun ns => .int ns.sum
noncomputable def z4y (vs : List V) (st : St) : Option V := (one vs).bind fun v => (q4r st v).bind fun l => (two l).bind fun p => (j66 p.1).bind fun i => (j66 p.2).bind fun j => if i.1 = j.1 then none else some (.lst (if j.1 < i.1 then [p.2, p.1] else [p.1, p.2]))
noncomputable def j9a (vs : List V) (st : St) : Option V := (two vs).bind fun p => (q2q p.1).bind fun e => cond e.isEmpty ((q4r st p.2).bind fun l => (two l).bind fun q => joinV q.1 q.2) none
noncomputable def j34 (st : St) (v : V) : Option (Bool × V) := match v with
 | .bytes b => some (true, .bytes b)
 | .sb b => some (true, .sb b)
 | .int n => some (decide (0 <= n /\ n <= 1000000), .bytes (List.replicate n.toNat 0))
 | v => ((q4r st v).bind q3a).map fun ns => (ns.all (fun n => decide (0 <= n /\ n < 256)) && decide (ns.length <= 1000000), .bytes (ns.map fun n => n.toNat.toUInt8))
noncomputable def z1o (vs : List V) (st : St) : Option (Bool × V) := (one vs).bind (j34 st)
noncomputable def z8 (z : Z) : Bool := Z.casesOn z (fun i => decide (0 <= i /\ i < 256)) fun W0 k d => Dm.casesOn d (fun l => l.all fun j => decide (0 <= j + k /\ j + k < 256)) fun a b => decide (0 <= a + k /\ b + k < 256)
noncomputable def isS (z : Z) : Bool := Z.casesOn z (fun W0 => false) fun W0 W0 W0 => true
noncomputable def z1p (vs : List V) (st : St) : Option (Bool × V × St) := (one vs).bind fun v => (j8f v).bind fun us => (zsV us).bind fun zs => cond ((zs.isEmpty || zs.any isS) && zs.all z8 && Nat.ble zs.length 1000000) (some (true, .sb (.var st.nx zs.length), st.nxt)) none
noncomputable def bInt (vs : List V) : Option V := (one vs).bind fun v => match v with
 | .int n => some (.int n)
 | .bool b => some (.int (if b then 1 else 0))
 | _ => none
noncomputable def j4a (vs : List V) : Option V := (three vs).bind fun t => (vInt t.1).bind fun x => (vInt t.2.1).bind fun y => (vInt t.2.2).bind fun z => if z = 0 \/ Builtin.divisionGoesByPylong (y - x) z = true then none else some (.rng x y z)
noncomputable def z4w (vs : List V) : Option V := Option.casesOn (one vs) (j4a vs) fun v => (vInt v).map fun n => .rng 0 n 1
noncomputable abbrev Cb := Option (Bool × V × St)
noncomputable def z7u (a b : Cb) : Cb := Option.casesOn (motive := fun W0 => Cb) a b fun p => some p
noncomputable def q25 (st : St) : Option V -> Cb := Option.map fun v => (true, v, st)
noncomputable def z1h (st : St) : Option (Bool × V) -> Cb := Option.map fun p => (p.1, p.2, st)
noncomputable def j8j : Option (V × St) -> Cb := Option.map fun p => (true, p)
noncomputable def j40 (f : Value) (vs : List V) (st : St) : Cb := match f with
 | .builtin id =>
   if id = "len" then z1h st (bLen vs st)
   else if id = "list.append" then (z4t vs st).map fun st' => (true, .none, st')
   else if id = "list.pop" then j8j (bPop vs st)
   else if id = "max" then q25 st (bMax vs)
   else if id = "min" then q25 st (bMin vs)
   else if id = "dict.pop" then j8j (j89 vs st)
   else if id = "sum" then q25 st (bSum vs st)
   else if id = "sorted" then q25 st (z4y vs st)
   else if id = "bytes.join" then q25 st (j9a vs st)
   else none
 | .type id =>
   if id = "bytes" then z7u (z1p vs st) (z1h st (z1o vs st))
   else if id = "int" then q25 st (bInt vs)
   else if id = "range" then q25 st (z4w vs)
   else none
 | _ => none
section
variable {c : Cx} {P : Pt} {ρ : Loc} {st : St} {X : Exc} {Q : V -> St -> Prop}
theorem z87 {r : Option V} {b : Bool} {p : V × St} (e : q25 st r = some (b, p)) : r = some p.1 /\ p.2 = st := by
 (refine e12 (omi e :) fun a r => ?_; refine rwm r ?_; intro h)
 have h2 : (a, st) = p := congrArg Prod.snd h
 exact h2 ▸ ⟨rfl, rfl⟩
theorem j2t {r : Option (Bool × V)} {b : Bool} {p : V × St} (e : z1h st r = some (b, p)) : r = some (b, p.1) /\ p.2 = st := by
 (refine e12 (omi e :) fun a r => ?_; refine rwm r ?_; intro h)
 have h1 : a.1 = b := congrArg Prod.fst h
 have h2 : (a.2, st) = p := congrArg Prod.snd h
 exact h1 ▸ h2 ▸ ⟨rfl, rfl⟩
theorem z2u {r : Option (V × St)} {b : Bool} {p : V × St} (e : j8j r = some (b, p)) : r = some p := by
 (refine e12 (omi e :) fun a r => ?_; refine rwm r ?_; intro h)
 exact congrArg some (congrArg Prod.snd h)
theorem z0c {b : SB} (hz : b.len <= 1099511627776) (q : Q (.int b.len) st) : q0i c P ρ st (.prim (.builtin "len")) [.sb b] Q X := fun g W0 W0 W0 W0 W0 s p W0 W0 a hp K => by
 (refine e12 hp.one fun x r => ?_; refine rwm r ?_; intro h1)
 (refine e22 h1.sbI fun l t r => ?_; refine rwm r ?_; intro hl)
 rw [<- hl.length] at q hz
 exact len_bytes (by simpa using hz) (by simpa using K.now (tk := s.toks + 1 + 1) a (.int (l.length : Nat) _) q)
theorem q7k {b : SB} (q : Q (.sb b) st) : q0i c P ρ st (.prim (.type "bytes")) [.sb b] Q X := fun g W0 W0 W0 W0 W0 s p W0 W0 a hp K => by
 (refine e12 hp.one fun x r => ?_; refine rwm r ?_; intro h1)
 (refine e22 h1.sbI fun l t r => ?_; refine rwm r ?_; intro hl)
 exact q23 (K.now (tk := s.toks) a (.sb _ hl) q)
theorem j36 {vs : List V} {v : V} {q0 : Bool} (e : bLen vs st = some (q0, v)) (hq : q0 = true) (q : Q v st) : q0i c P ρ st (.prim (.builtin "len")) vs Q X := by
 refine e12 (obi e :) fun w h1 e => ?_
 refine rwm (q0y h1) ?_
 have go : ((q4r st w).map fun vs => (decide (vs.length <= 1000000), V.int vs.length)) = some (q0, v) -> q0i c P ρ st (.prim (.builtin "len")) [w] Q X := fun e => by
   refine e12 (omi e :) fun ws h1 e => ?_
   obtain ⟨h, q⟩ := pq (congrArg some e) hq q
   exact call_len_list (q0x h1) (q21 (of_decide_eq_true h)) q
 induction w using V.casesOn with
 | bytes b =>
   obtain ⟨h, q⟩ := pq e hq q
   exact q6f (Nat.le_trans (of_decide_eq_true h) (by decide)) q
 | sb b =>
   obtain ⟨h, q⟩ := pqi (p := b.len <= 1000000) e q
   exact z0c (Nat.le_trans h (by decide)) q
 | _ => exact go e
theorem z20 {vs : List V} {st' : St} (e : z4t vs st = some st') (q : Q .none st') : q0i c P ρ st (.prim (.builtin "list.append")) vs Q X := by
 refine e12 (obi e :) fun p h1 e => ?_
 refine e12 (obi e :) fun n h2 e => ?_
 refine e12 (obi e :) fun l h3 e => ?_
 obtain ⟨h, rfl⟩ := q0u e
 (refine rwm (two_is h1) ?_; refine rwm (q3e h2) ?_)
 exact z0b (q40 h3) (q21 h) q
theorem j39 {vs : List V} {p : V × St} (e : bPop vs st = some p) (q : Q p.1 p.2) : q0i c P ρ st (.prim (.builtin "list.pop")) vs Q X := by
 refine e12 (obi e :) fun r h1 e => ?_
 refine e12 (obi e :) fun n h2 e => ?_
 refine e12 (obi e :) fun k h3 e => ?_
 refine e12 (obi e :) fun l h4 e => ?_
 (refine rwm (two_is h1) ?_; refine rwm (q3e h2) ?_; refine rwm (q0p h3) ?_)
 induction l using List.casesOn with
 | nil => exact ns e
 | cons v l =>
   obtain ⟨⟨rfl, h⟩, rfl⟩ := q0u (c := k = 0 /\ l.length < 1000000) e
   exact z5g (q40 h4) (q21 (by refine rwm List.length_cons ?_; exact h)) q
theorem z9l {vs : List V} {p : V × St} (e : j89 vs st = some p) (q : Q p.1 p.2) : q0i c P ρ st (.prim (.builtin "dict.pop")) vs Q X := by
 refine e12 (obi e :) fun r h1 e => ?_
 refine e12 (obi e :) fun n h2 e => ?_
 refine e12 (obi e :) fun ws h3 e => ?_
 refine e12 (obi e :) fun zs h4 e => ?_
 refine e12 (obi e :) fun t h5 e => ?_
 obtain ⟨⟨h6, h7⟩, rfl⟩ := q0u e
 have hg := z1l h5
 rw [h6, h7] at hg
 (refine rwm (two_is h1) ?_; refine rwm (q3e h2) ?_; refine rwm (z84 h3) ?_; refine rwm (q91 h4) ?_)
 exact z5h hg q
theorem q8s {v : V} {a b r : SB} (i : v = .lst [.sb a, .sb b] \/ ∃ n, v = .ref n /\ st.get n = some (.list [.sb a, .sb b])) (hr : z7e a b = some r) (hz : a.len + b.len <= 16777216) (q : Q (.sb r) st) : q0i c P ρ st (.prim (.builtin "bytes.join")) [.bytes [], v] Q X := fun g W0 W0 W0 W0 W0 s p W0 W0 at_ hp K => by
 (refine e23 hp.two fun x0 y0 r => ?_; refine rwm r ?_; intro h0 h1)
 refine e11 h0.bytesI fun t r => rwm r ?_
 (refine e23 (at_.lst i h1 :) fun l its r => ?_; refine rwm r ?_; intro hl hrs)
 (refine e23 hrs.twoI fun y z r => ?_; subst r; intro h2 h4)
 (refine e22 h2.sbI fun l1 t1 r => ?_; subst r; intro r1)
 (refine e22 h4.sbI fun l2 t2 r => ?_; subst r; intro r2)
 refine wpAny_call_entry q1t (typeIs_bytes _ _ _) q2f (q61 hl (by (refine rwm List.size_toArray ?_; refine rwm List.size_toArray ?_; refine rwm r1.length ?_; refine rwm r2.length ?_); exact hz) fun t' k => ?_) (q2h _ _)
 refine rwm (List.append_toArray _ _) ?_
 exact K.now (tk := k) at_ (.sb t' (j07 hr r1 r2)) q
theorem z9m {vs : List V} {v : V} (e : j9a vs st = some v) (q : Q v st) : q0i c P ρ st (.prim (.builtin "bytes.join")) vs Q X := by
 refine hid fun hG => ?_
 refine e12 (obi e :) fun p h1 e => ?_
 refine e12 (obi e :) fun b h2 e => ?_
 obtain ⟨h3, e⟩ := q0c e
 refine e12 (obi e :) fun l h4 e => ?_
 refine ep2 (obi e :) fun x y h5 e => ?_
 refine hG ?_
 (refine rwm (two_is h1) ?_; refine rwm (q1i h2) ?_; refine rwm (List.isEmpty_iff.mp h3) ?_)
 have hl := q0x h4
 rw [two_is h5] at hl
 clear h1 h2 h3 h4 h5
 induction x using V.casesOn with
 | bytes a =>
   induction y using V.casesOn with
   | bytes b =>
     obtain ⟨h, rfl⟩ := q0u (c := a.length + b.length <= 1000000) e
     exact z28 hl (Nat.le_trans h (by decide)) q
   | _ => exact ns e
 | sb a =>
   induction y using V.casesOn with
   | sb b =>
     obtain ⟨h, e⟩ := q0c (show cond (Nat.ble (a.len + b.len) 1000000) _ none = some v from e)
     (refine e12 (omi e :) fun r hr r => ?_; subst r)
     exact q8s hl hr (Nat.le_trans (Nat.le_of_ble_eq_true h) (by decide)) q
   | _ => exact ns e
 | _ => exact ns e
theorem z2c {v : V} {p : Int × V} (e : j66 v = some p) : v = .tup [.int p.1, p.2] := by
 refine hid fun hG => ?_
 refine e12 (obi e :) fun vs h1 e => ?_
 refine e12 (obi e :) fun q h2 e => ?_
 refine hG ?_
 (refine e12 (omi e :) fun i h3 r => ?_; refine rwb r ?_)
 (refine rwm (z84 h1) ?_; refine rwm (two_is h2) ?_; refine rwm (q0p h3) ?_; rfl)
theorem z21 {vs : List V} {v : V} (e : z4y vs st = some v) (q : Q v st) : q0i c P ρ st (.prim (.builtin "sorted")) vs Q X := by
 refine hid fun hG => ?_
 refine e12 (obi e :) fun w h1 e => ?_
 refine e12 (obi e :) fun l h2 e => ?_
 refine ep2 (obi e :) fun x y h3 e => ?_
 refine e12 (obi e :) fun i h4 e => ?_
 refine e12 (obi e :) fun j h5 e => ?_
 refine hG ?_
 obtain ⟨h, rfl⟩ := z7d e
 have hl := q0x h2
 rw [two_is h3] at hl
 refine rwm (q0y h1) ?_
 obtain rfl := z2c h4
 obtain rfl := z2c h5
 exact q8t hl h q
theorem z4u {vs : List V} {v : V} {q0 : Bool} (hn : P.nh = true) (e : z1o vs st = some (q0, v)) (hq : q0 = true) (q : Q v st) : q0i c P ρ st (.prim (.type "bytes")) vs Q X := by
 refine e12 (obi e :) fun w h1 e => ?_
 refine rwm (q0y h1) ?_
 have go : (((q4r st w).bind q3a).map fun ns => (ns.all (fun n => decide (0 <= n /\ n < 256)) && decide (ns.length <= 1000000), V.bytes (ns.map fun n => n.toNat.toUInt8))) = some (q0, v) -> q0i c P ρ st (.prim (.type "bytes")) [w] Q X := fun e => by
   refine e12 (omi e :) fun ns h1 e => ?_
   refine e12 (obi h1 :) fun ws h2 h3 => ?_
   obtain ⟨h, q⟩ := pq (congrArg some e) hq q
   rw [Bool.and_eq_true, List.all_eq_true] at h
   exact q2k hn (by refine rwb (q2u h3) ?_; exact q0x h2) (fun n hn => of_decide_eq_true (h.1 n hn)) (q21 (of_decide_eq_true h.2)) q
 induction w using V.casesOn with
 | bytes b => exact q4n (pq e hq q).2
 | sb b => exact q7k (pq e hq q).2
 | int n =>
   obtain ⟨h, q⟩ := pq e hq q
   have h := of_decide_eq_true h
   exact q6e h.1 (Int.le_trans h.2 (by decide)) q
 | _ => exact go e
theorem vrs_zs {g : Gh} : ∀ {zs : List Z} {its : List Value}, VRs c g (zs.map Z.toV) its -> ∃ is : List Int, VRs c g (is.map .int) its /\ is.length = zs.length /\ ∀ i ∈ is, ∃ z ∈ zs, ZR g z i := by
 intro zs
 induction zs with
 | nil => intro its h; exact ⟨[], by refine rwm h.nilI ?_; exact .nil, rfl, fun i hi => nomatch hi⟩
 | cons z zs ih =>
   intro its h
   (refine e23 h.consI fun y ys r => ?_; refine rwm r ?_; intro h1 h2)
   (refine e22 h1.zI fun i t r => ?_; refine rwm r ?_; intro hz)
   refine e13 (ih h2 :) fun is h3 h4 h5 => ?_
   refine ⟨i :: is, .cons (.int _ _) h3, by (refine rwm List.length_cons ?_; refine rwm List.length_cons ?_; refine rwm h4 ?_; rfl), fun j hj => ?_⟩
   rcases mc hj with rfl | hj
   . exact ⟨z, .head _, hz⟩
   . refine e12 (h5 j hj :) fun w h6 h7 => ?_
     exact ⟨w, .tail _ h6, h7⟩
theorem z8_ok {g : Gh} {z : Z} {i : Int} (h : z8 z = true) (hz : ZR g z i) : 0 <= i /\ i < 256 := by
 induction z using Z.casesOn with
 | c j => cases hz; exact of_decide_eq_true h
 | s n k d =>
   induction d using Dm.casesOn with
   | set l =>
     obtain ⟨j, _, rfl, hj⟩ := hz
     exact of_decide_eq_true (aet h j hj)
   | rng a b =>
     obtain ⟨j, _, rfl, h1, h2⟩ := hz
     have h := of_decide_eq_true h
     exact ⟨Int.le_trans h.1 (Int.add_le_add_right h1 k), Int.lt_of_le_of_lt (Int.add_le_add_right h2 k) h.2⟩
theorem q7l {zs : List Z} (hn : P.nh = true) (hr : zs.all z8 = true) (hz : zs.length <= sizeLine) (q : ∀ b : List UInt8, b.length = zs.length -> Q (.bytes b) st) : q0i c P ρ st (.prim (.type "bytes")) [.lst (zs.map Z.toV)] Q X := fun g pv m ns news h0 s p Qc Ec a hp K => by
 (refine e12 hp.one fun x r => ?_; refine rwm r ?_; intro h1)
 (refine e33 h1.lstI fun b its k r => ?_; refine rwm r ?_; intro hh r)
 refine e13 (vrs_zs r :) fun is h2 h3 h4 => ?_
 refine q2k (st := st) (ns' := is) (v := .lst (is.map .int)) hn (.inl rfl) (fun i hi => ?_) (by omega) (q _ ?_) g pv m ns news h0 s (.type "bytes", [.ref b]) Qc Ec a ⟨.prim _, .cons (.lst hh h2) .nil⟩ K
 . refine e12 (h4 i hi :) fun z h5 h6 => ?_
   exact z8_ok (aet hr z h5) h6
 . (refine rwm (List.length_map _) ?_; refine rwm h3 ?_; rfl)
theorem z4v {vs : List V} {p : V × St} {q0 : Bool} (hn : P.nh = true) (e : z1p vs st = some (q0, p)) (q : Q p.1 p.2) : q0i c P ρ st (.prim (.type "bytes")) vs Q X := by
 refine hid fun hG => ?_
 refine e12 (obi e :) fun w h1 e => ?_
 refine e12 (obi e :) fun us h2 e => ?_
 refine e12 (obi e :) fun zs hz e => ?_
 obtain ⟨hc, e⟩ := q0c e
 refine hG ?_
 (refine rwm (q0y h1) ?_; refine rwm (q8d h2) ?_; refine rwm (q91 hz) ?_)
 rw [Bool.and_eq_true, Bool.and_eq_true] at hc
 have e : (V.sb (.var st.nx zs.length), st.nxt) = p := congrArg Prod.snd (oi e)
 exact TrG.named (q7l hn hc.1.2 (q21 (Nat.le_of_ble_eq_true hc.2)) fun b hb => .inr (.inl ⟨b, rfl, by refine rwm hb ?_; subst e; exact q⟩))
theorem j37 {vs : List V} {v : V} (hn : P.nh = true) (e : bMax vs = some v) (q : Q v st) : q0i c P ρ st (.prim (.builtin "max")) vs Q X := by
 refine e12 (obi e :) fun p h1 e => ?_
 refine e12 (obi e :) fun a h2 e => ?_
 (refine e12 (omi e :) fun b h3 r => ?_; subst r)
 (refine rwm (two_is h1) ?_; refine rwm (q0p h2) ?_; refine rwm (q0p h3) ?_)
 exact z5e hn q
theorem j38 {vs : List V} {v : V} (hn : P.nh = true) (e : bMin vs = some v) (q : Q v st) : q0i c P ρ st (.prim (.builtin "min")) vs Q X := by
 refine e12 (obi e :) fun p h1 e => ?_
 refine e12 (obi e :) fun a h2 e => ?_
 (refine e12 (omi e :) fun b h3 r => ?_; subst r)
 (refine rwm (two_is h1) ?_; refine rwm (q0p h2) ?_; refine rwm (q0p h3) ?_)
 exact z5f hn q
theorem j4b {vs : List V} {v : V} (hn : P.nh = true) (e : bSum vs st = some v) (q : Q v st) : q0i c P ρ st (.prim (.builtin "sum")) vs Q X := by
 refine e12 (obi e :) fun w h0 e => ?_
 (refine e12 (omi e :) fun ns h1 r => ?_; subst r)
 refine e12 (obi h1 :) fun ws h3 h4 => ?_
 refine rwm (q0y h0) ?_
 exact z90 (by refine rwb (q2u h4) ?_; exact q0x h3) hn q
theorem j35 {vs : List V} {v : V} (e : bInt vs = some v) (q : Q v st) : q0i c P ρ st (.prim (.type "int")) vs Q X := by
 refine e12 (obi e :) fun w h0 e => ?_
 refine rwm (q0y h0) ?_
 induction w using V.casesOn with
 | int n => exact z27 (oi e ▸ q)
 | bool b => exact z26 (oi e ▸ q)
 | _ => exact ns e
theorem z4x {vs : List V} {v : V} (e : z4w vs = some v) (q : Q v st) : q0i c P ρ st (.prim (.type "range")) vs Q X := by
 unfold z4w at e
 refine z3w (one vs) (fun w h0 => ?_) fun h0 => ?_
 .
   rw [h0] at e
   (refine e12 (omi (show (vInt w).map _ = some v from e) :) fun n h1 r => ?_; subst r)
   (refine rwm (q0y h0) ?_; refine rwm (q0p h1) ?_)
   exact z0d q
 .
   rw [h0] at e
   refine hid fun hG => ?_
   refine e12 (obi (show (three vs).bind _ = some v from e) :) fun t h1 e => ?_
   refine e12 (obi e :) fun x h2 e => ?_
   refine e12 (obi e :) fun y h3 e => ?_
   refine e12 (obi e :) fun z h4 e => ?_
   refine hG ?_
   obtain ⟨h, rfl⟩ := z7d e
   rw [not_or] at h
   (refine rwm (q30 h1) ?_; refine rwm (q0p h2) ?_; refine rwm (q0p h3) ?_; refine rwm (q0p h4) ?_)
   exact z0e h.1 (Bool.not_eq_true _ ▸ h.2) q
theorem q7j {f : Value} {vs : List V} {p : V × St} {q0 : Bool} (hn : P.nh = true) (e : j40 f vs st = some (q0, p)) (hq : q0 = true) (q : Q p.1 p.2) : q0i c P ρ st (.prim f) vs Q X := by
 have w : ∀ {r : Option V}, q25 st r = some (q0, p) -> r = some p.1 /\ Q p.1 st := fun e => by
   obtain ⟨e1, e2⟩ := z87 e
   exact ⟨e1, e2 ▸ q⟩
 have w' : ∀ {r : Option (Bool × V)}, z1h st r = some (q0, p) -> r = some (q0, p.1) /\ Q p.1 st := fun e => by
   obtain ⟨e1, e2⟩ := j2t e
   exact ⟨e1, e2 ▸ q⟩
 induction f using Value.casesOn with
 | builtin id =>
   refine q3q (C := fun z => z = some (q0, p) -> q0i c P ρ st (.prim (.builtin id)) vs Q X) (fun h e => by refine rwm h ?_; exact j36 (w' e).1 hq (w' e).2) (fun W0 => ?_) (show (if id = "len" then _ else _) = _ from e)
   refine q3q (C := fun z => z = some (q0, p) -> q0i c P ρ st (.prim (.builtin id)) vs Q X) (fun h e => ?_) (fun W0 => ?_)
   . refine e12 (omi e :) fun st' e1 e2 => ?_
     have e2 : (V.none, st') = p := congrArg Prod.snd e2
     subst e2
     exact h ▸ z20 e1 q
   refine q3q (C := fun z => z = some (q0, p) -> q0i c P ρ st (.prim (.builtin id)) vs Q X) (fun h e => by refine rwm h ?_; exact j39 (z2u e) q) (fun W0 => ?_)
   refine q3q (C := fun z => z = some (q0, p) -> q0i c P ρ st (.prim (.builtin id)) vs Q X) (fun h e => by refine rwm h ?_; exact j37 hn (w e).1 (w e).2) (fun W0 => ?_)
   refine q3q (C := fun z => z = some (q0, p) -> q0i c P ρ st (.prim (.builtin id)) vs Q X) (fun h e => by refine rwm h ?_; exact j38 hn (w e).1 (w e).2) (fun W0 => ?_)
   refine q3q (C := fun z => z = some (q0, p) -> q0i c P ρ st (.prim (.builtin id)) vs Q X) (fun h e => by refine rwm h ?_; exact z9l (z2u e) q) (fun W0 => ?_)
   refine q3q (C := fun z => z = some (q0, p) -> q0i c P ρ st (.prim (.builtin id)) vs Q X) (fun h e => by refine rwm h ?_; exact j4b hn (w e).1 (w e).2) (fun W0 => ?_)
   refine q3q (C := fun z => z = some (q0, p) -> q0i c P ρ st (.prim (.builtin id)) vs Q X) (fun h e => by refine rwm h ?_; exact z21 (w e).1 (w e).2) (fun W0 => ?_)
   exact q3q (C := fun z => z = some (q0, p) -> q0i c P ρ st (.prim (.builtin id)) vs Q X) (fun h e => by refine rwm h ?_; exact z9m (w e).1 (w e).2) (fun W0 e => ns e)
 | type id =>
   refine q3q (C := fun z => z = some (q0, p) -> q0i c P ρ st (.prim (.type id)) vs Q X) (fun h e => ?_) (fun W0 => ?_) (show (if id = "bytes" then _ else _) = _ from e)
   . subst h
     have e : z7u (z1p vs st) (z1h st (z1o vs st)) = some (q0, p) := e
     refine z3w (z1p vs st) (fun p' hb => ?_) fun hb => ?_
     .
       rw [hb] at e
       exact z4v hn (hb.trans e) q
     .
       rw [hb] at e
       change z1h st (z1o vs st) = some (q0, p) at e
       exact z4u hn (w' e).1 hq (w' e).2
   refine q3q (C := fun z => z = some (q0, p) -> q0i c P ρ st (.prim (.type id)) vs Q X) (fun h e => by refine rwm h ?_; exact j35 (w e).1 (w e).2) (fun W0 => ?_)
   exact q3q (C := fun z => z = some (q0, p) -> q0i c P ρ st (.prim (.type id)) vs Q X) (fun h e => by refine rwm h ?_; exact z4x (w e).1 (w e).2) (fun W0 e => ns e)
 | _ => exact ns e
end
noncomputable def eqNs (l : List Nat) : List Nat -> Bool := List.rec (fun m => List.casesOn m true fun W0 W0 => false) (fun a W0 ih m => List.casesOn m false fun b r => cond (Nat.beq a b) (ih r) false) l
theorem z53 : ∀ l m : List Nat, eqNs l m = (l == m)
 | [], [] => rfl
 | [], _ :: _ => rfl
 | _ :: _, [] => rfl
 | a :: l, b :: m => by
   show cond (Nat.beq a b) (eqNs l m) false = ((a == b) && (l == m))
   refine rwm (z53 l m) ?_
   have : (a == b) = Nat.beq a b := by (rewrite [Bool.eq_iff_iff, beq_iff_eq]; refine rwm Nat.beq_eq ?_; rfl)
   refine rwm this ?_
   cases Nat.beq a b <;> rfl
noncomputable def eqS (x y : Str) : Bool := eqNs x.cps.toList y.cps.toList
theorem q6u (x y : Str) : eqS x y = (x == y) := by
 unfold eqS
 (refine rwm (z53 _ _) ?_; rewrite [Bool.eq_iff_iff, beq_iff_eq, beq_iff_eq])
 constructor
 . intro h
   obtain ⟨⟨l⟩⟩ := x
   obtain ⟨⟨m⟩⟩ := y
   simp only at h
   (refine rwm h ?_; rfl)
 . rintro rfl; rfl
noncomputable def q0f {α : Type} (x : Str) (l : List (Str × α)) : Option α := List.rec none (fun p W0 ih => Prod.casesOn p fun k v => cond (eqS x k) (some v) ih) l
theorem q0b {α : Type} (x : Str) : ∀ l : List (Str × α), q0f x l = l.lookup x := by
 intro l
 induction l with
 | nil => exact rfl
 | cons q0 l ih =>
   obtain ⟨k, v⟩ := q0
   (refine rwm List.lookup_cons ?_; refine rwb (ih) ?_)
   show cond (eqS x k) (some v) (q0f x l) = _
   refine rwm (q6u _ _) ?_
   cases x == k <;> rfl
noncomputable def q8i {α : Type} (x : Str) (v : α) (l : List (Str × α)) : List (Str × α) := List.rec [(x, v)] (fun p l ih => Prod.casesOn p fun k w => cond (eqS x k) ((x, v) :: l) ((k, w) :: ih)) l
theorem q1s {α : Type} (x : Str) (v : α) : ∀ l : List (Str × α), q8i x v l = q6k x v l := by
 intro l
 induction l with
 | nil => exact rfl
 | cons q0 l ih =>
   obtain ⟨k, w⟩ := q0
   show cond (eqS x k) ((x, v) :: l) ((k, w) :: q8i x v l) = _
   (refine rwm (q6u _ _) ?_; refine rwm (ih) ?_)
   show _ = if (x == k) = true then (x, v) :: l else (k, w) :: q6k x v l
   cases x == k <;> rfl
noncomputable def z9d (x : Str) (l : List Str) : Bool := List.rec false (fun k W0 ih => cond (eqS x k) true ih) l
theorem z62 (x : Str) : ∀ l : List Str, z9d x l = l.contains x := by
 intro l
 induction l with
 | nil => exact rfl
 | cons k l ih =>
   (refine rwm List.contains_cons ?_; refine rwb (ih) ?_)
   show cond (eqS x k) true (z9d x l) = _
   refine rwm (q6u _ _) ?_
   cases x == k <;> rfl
noncomputable def frzL (n : Nat) (st : St) (o : Option AO) : V × St := match o with
 | some (.list vs) => (.lst vs, st.del n)
 | _ => (.ref n, st)
noncomputable def z9c (v : V) (st : St) : V × St := match v with
 | .ref n => frzL n st (st.get n)
 | v => (v, st)
theorem z0o {Q : V -> St -> Prop} {v : V} {st : St} (h : Q (z9c v st).1 (z9c v st).2) : Frz Q v st := by
 induction v using V.casesOn with
 | ref n =>
   have h2 : Q (frzL n st (st.get n)).1 (frzL n st (st.get n)).2 := h
   clear h
   refine q1v (st.get n) (fun e => ?_) fun o e => ?_
   . rw [e] at h2; exact .keep h2
   .
     rw [e] at h2
     induction o using AO.casesOn with
     | list vs => exact .list e (.keep h2)
     | _ => exact .keep h2
 | _ => exact .keep h
noncomputable def q60 (v : V) : Option (List V) := match v with
 | .lst vs => if vs.length <= 1000000 then some vs else none
 | .tup vs => if vs.length <= 1000000 then some vs else none
 | .rng a b d => if Builtin.Range.small a b d && decide (0 <= Builtin.Range.rangeSize a b d /\ Builtin.Range.rangeSize a b d <= 1000000) then some (q64 a d (Builtin.Range.rangeSize a b d).toNat) else none
 | _ => none
theorem q3s {c : Cx} {P : Pt} {v : V} {vs : List V} (hn : P.nh = true) (e : q60 v = some vs) : q4l c P v vs /\ vs.length <= sizeLine := by
 induction v using V.casesOn with
 | lst ws =>
   obtain ⟨h, e⟩ := q0u (r := ws) e
   subst e
   exact ⟨q89 hn, q21 h⟩
 | tup ws =>
   obtain ⟨h, e⟩ := q0u (r := ws) e
   subst e
   exact ⟨j06 hn, q21 h⟩
 | rng a b d =>
   obtain ⟨h, e⟩ := q0u (c := (Builtin.Range.small a b d && decide (0 <= Builtin.Range.rangeSize a b d /\ Builtin.Range.rangeSize a b d <= 1000000)) = true) e
   subst e
   rw [Bool.and_eq_true, decide_eq_true_eq] at h
   refine ⟨z3m hn h.1 (Int.toNat_of_nonneg h.2.1).symm, ?_⟩
   unfold q64
   (refine rwm (List.length_map _) ?_; refine rwm List.length_range ?_)
   exact q21 ((Int.toNat_le).mpr h.2.2)
 | _ => exact ns e
noncomputable def x1e (name : Str) (o : Option AO) : Option Value := match o with
 | some (.list _) => cond (eqS name "append") (some (.builtin "list.append")) (cond (eqS name "pop") (some (.builtin "list.pop")) none)
 | some (.tab _ _) => cond (eqS name "pop") (some (.builtin "dict.pop")) none
 | _ => none
noncomputable def j6l (lk : Lk) (name : Str) (C : Addr) (fs : List (Str × V)) : Option Value := match lk.me C name, q0f name fs with
 | some f, none => cond (lk.ent f).isSome (some (.ref f)) none
 | _, _ => none
noncomputable def j6m (lk : Lk) (name : Str) (v : V) (st : St) : Option Value := match q36 st v with
 | some (C, fs) => j6l lk name C fs
 | none => (match v with
   | .ref n => x1e name (st.get n)
   | .bytes _ => cond (eqS name "join") (some (.builtin "bytes.join")) none
   | _ => none)
noncomputable def q05 (S : Sx) (x : Str) : Option NameKind := q0f x S.sc.names
noncomputable def q00 : Option NameKind -> Bool
 | some .local => true
 | _ => false
noncomputable def q3p : NameKind -> Bool
 | .free => true
 | _ => false
noncomputable def q6z : Option NameKind -> Bool
 | some .cell => true
 | _ => false
noncomputable def isFn : ScopeKind -> Bool
 | .function => true
 | _ => false
noncomputable def relP (out : Scope) (n : Str) (k : NameKind) : Str × NameKind := cond (q3p k && isFn out.kind && q6z (q0f n out.names)) (n, .cell) (n, k)
noncomputable def z78 (scope out : Scope) : Scope := { scope with names := scope.names.map fun p => relP out p.1 p.2 }
noncomputable def q9f : Expr -> Bool
 | .Set .. => false
 | _ => true
noncomputable def q1c : Expr -> Bool
 | .ListComp .. | .SetComp .. | .DictComp .. => false
 | _ => true
noncomputable def q2p : List (Option Expr) -> Option (List Str)
 | [] => some []
 | some (.Constant (.str k) _ _) :: ks => (q2p ks).map (k :: ·)
 | _ => none
section
variable (lk : Lk)
noncomputable def j6f (f : Value) : Bool := match f with
 | .ref a => (lk.ent a).isSome
 | .builtin _ => true
 | .type _ => true
 | _ => false
noncomputable def z48 (k : Const) : CE := match k with
 | .int i => .val (.int i)
 | .bool b => .val (.bool b)
 | .none => .val .none
 | .str s => .val (.str s)
 | .bytes b => .val (.bytes b)
 | _ => .bad
noncomputable def z5a (x : Str) (k : Option NameKind) : CE := match k with
 | some .local => cond (eqS x "__debug__") .bad (.loc x)
 | some .cell => cond (eqS x "__debug__") .bad (.cel x)
 | some .free => cond (eqS x "__debug__") .bad (cond (eqS x "__classdict__") .bad (.cel x))
 | some .globalImplicit => Option.casesOn (lk.gl x) .bad .val
 | _ => .bad
noncomputable def q2i (S : Sx) (x : Str) : CE := z5a lk x (q05 S x)
section
variable (ih : Sx -> Expr -> CE) (S : Sx)
noncomputable def cUn (op : UnaryOp) (e : Expr) : CE := match op with
 | .USub => .neg (ih S e)
 | .Not => .not (ih S e)
 | _ => .bad
noncomputable def cCmp (l : Expr) (ops : List CmpOp) (rs : List Expr) : CE := match ops, rs with
 | [op], [r] => cond (behindInMarks op r) .bad (.cmp op (ih S l) (ih S r))
 | [o₁, o₂], [r₁, r₂] => cond (behindInMarks o₂ r₂) .bad (.cmp2 o₁ o₂ (ih S l) (ih S r₁) (ih S r₂))
 | _, _ => .bad
noncomputable def z47 (es : List Expr) (f : CE) : CE := match f with
 | .val (.prim f) => cond (j6f lk f && es.all q0e) (.call f (es.map (ih S))) .bad
 | _ => .bad
noncomputable def z46 (f : Expr) (es : List Expr) (ks : List Keyword) (pos : Pos) : CE := match f, ks with
 | .Name id _, [] => z47 lk ih S es (q2i lk S id)
 | .Attribute o name ap, [] => cond (q2c o && es.all q0e && decide (es.length < 30) && Nat.beq ap.endLine pos.line) (.meth (ih S o) name (es.map (ih S))) .bad
 | _, _ => .bad
noncomputable def z5b (e : Option Expr) : CE := match e with
 | none => .nil
 | some e => ih S e
noncomputable def j9o (o e : Expr) : CE := match e with
 | .Slice l u none _ => .sli (ih S o) (z5b ih S l) (z5b ih S u)
 | e => cond (q3u e) (.sub (ih S o) (ih S e)) .bad
noncomputable def j4v (keys : List (Option Expr)) (values : List Expr) : CE := match keys, values with
 | [], [] => .dic0
 | keys, values => cond (S.top && keys.all (·.isSome) && decide (keys.length = values.length /\ keys ≠ [] /\ keys.length <= 15)) (Option.casesOn (q2p keys) .bad fun ks => cond (decide ks.Nodup) (.dic ks (values.map (ih S))) .bad) .bad
noncomputable def j9p (scope : Scope) (es : List Expr) : Option (List Str) := (two es).bind fun q => (q31 q.1).bind fun x => (q31 q.2).bind fun y => cond (q00 (q0f x.1 scope.names) && q00 (q0f y.1 scope.names)) (some [x.1, y.1]) none
noncomputable def z9w (scope : Scope) (tgt : Expr) : Option (List Str) := match tgt with
 | .Tuple es _ _ => j9p scope es
 | .Name x _ => cond (q00 (q0f x scope.names)) (some [x]) none
 | _ => none
noncomputable def q6h (scope : Scope) (iter : Expr) : Bool :=
 q9f iter && scope.names.all (fun y => !q6z (some y.2)) && isFn scope.kind && scope.names.all (fun x => !q00 (some x.2) || q00 (q0f x.1 scope.names))
noncomputable def cLc1 (elt tgt iter : Expr) (scope : Scope) : CE := Option.casesOn (z9w scope tgt) .bad fun tg => cond (q6h scope iter) (.lc tg scope.names (ih ⟨z78 scope S.sc, false⟩ elt) (ih S iter)) .bad
noncomputable def be4O (l : Expr) (op : Operator) (r : Expr) : Option Str := match op with
 | .Add => j9e l r
 | _ => none
noncomputable def be4C (x : Str) : CE := cond (q00 (q05 S x) && !(eqS x "__debug__")) (.be4 x) .bad
noncomputable def cBin (l : Expr) (op : Operator) (r : Expr) : CE := Option.casesOn (be4O l op r) (.bin op (ih S l) (ih S r)) fun x => be4C S x
noncomputable def cLc (elt : Expr) (gs : List Comprehension) (scope : Scope) : CE := match gs with
 | [⟨tgt, iter, [], 0⟩] => cLc1 ih S elt tgt iter scope
 | _ => .bad
noncomputable def cE1 (e : Expr) : CE := match e with
 | .Constant k _ _ => z48 k
 | .Name x _ => q2i lk S x
 | .BinOp l op r _ => cBin ih S l op r
 | .UnaryOp op e _ => cUn ih S op e
 | .BoolOp op es _ => .boo op (es.map (ih S))
 | .IfExp t b o _ => .ife (ih S t) (ih S b) (ih S o)
 | .Compare l ops rs _ => cCmp ih S l ops rs
 | .Call f es ks pos => z46 lk ih S f es ks pos
 | .Attribute o x _ => cond (q2c o) (.attr (ih S o) x) .bad
 | .Subscript o e _ => j9o ih S o e
 | .Tuple es _ _ => cond (es.all q0e) (.tup (es.map (ih S))) .bad
 | .List es _ => cond (es.all q0e) (.lst (es.map (ih S))) .bad
 | .Dict keys values _ => j4v ih S keys values
 | .ListComp elt gs scope _ => cLc ih S elt gs scope
 | _ => .bad
noncomputable def cNl (e : Expr) : CE := match e with
 | .List es _ => cond (es.all q0e) (.nls (es.map (ih S))) .bad
 | e => ih S e
end
noncomputable def cE (n : Nat) : Sx -> Expr -> CE := Nat.rec (fun W0 W0 => .bad) (fun W0 ih S e => cE1 lk ih S e) n
section
variable (S : Sx)
noncomputable def q1f (x : Str) : Bool := S.top && q00 (q05 S x)
noncomputable def tgK (x : Str) (k : Option NameKind) : Option Tg := match k with
 | some .local => some (.l x)
 | some .cell => some (.c x)
 | _ => none
noncomputable def j72 (t : Expr) : Option Tg := match t with
 | .Name x _ => tgK x (q05 S x)
 | _ => none
noncomputable def q4u : List Expr -> Option (List Tg)
 | [] => some []
 | t :: ts => (match j72 S t, q4u ts with
   | some g, some gs => some (g :: gs)
   | _, _ => none)
noncomputable def cLcA (x : Str) (p lp : Pos) (elt : Expr) (gs : List Comprehension) (scope : Scope) (n : Nat) : CS :=
 cond (q1f S x && Nat.beq p.line lp.line && isFn S.sc.kind && !(scope.names.any fun q => eqS q.1 x && (q00 (some q.2) || q6z (some q.2)))) (.asg x (cLc (cE lk n) S elt gs scope)) .bad
noncomputable def j29 (x : Str) (p : Pos) (e : Expr) (n : Nat) : CS := match e with
 | .ListComp elt gs scope lp => cLcA lk S x p lp elt gs scope n
 | e => cond (q1f S x && q1c e) (.asg x (cNl (cE lk n) S e)) .bad
noncomputable def cUnp (ts : List Expr) (e : Expr) (n : Nat) : CS := Option.casesOn (q4u S ts) .bad fun gs => .unp gs (cE lk n S e)
noncomputable def j4w (x y : Str) (px py : Pos) (e1 e2 : Expr) (k : Nat) (p : Pos) (n : Nat) : CS :=
 cond (q1f S x && q1f S y && Nat.beq px.line py.line && !(eqS x y) && isFn S.sc.kind && q0e e1 && q0e e2 && !(constantsAlone 8 e1 && constantsAlone 8 e2) && !(foldedForSure 8 e1 && foldedForSure 8 e2)) (.pair x y (cE lk n S (.Tuple [e1, e2] k p))) .bad
noncomputable def j4z (ts es : List Expr) (k' : Nat) (p' : Pos) (n : Nat) : CS := cond (es.all (foldedForSure 8)) (cUnp lk S ts (.Tuple es k' p') n) .bad
noncomputable def twoNames (ts : List Expr) : Option ((Str × Pos) × Str × Pos) := (two ts).bind fun q => (q31 q.1).bind fun x => (q31 q.2).bind fun y => some (x, y)
noncomputable def j4y (ts es : List Expr) (k' : Nat) (p' : Pos) (n : Nat) : CS := Option.casesOn (twoNames ts) (j4z lk S ts es k' p' n) fun q => Option.casesOn (two es) (j4z lk S ts es k' p' n) fun e => j4w lk S q.1.1 q.2.1 q.1.2 q.2.2 e.1 e.2 k' p' n
noncomputable def cTup (ts : List Expr) (e : Expr) (n : Nat) : CS := match e with
 | .Tuple es k' p' => j4y lk S ts es k' p' n
 | e => cUnp lk S ts e n
noncomputable def cAsg (t e : Expr) (n : Nat) : CS := match t with
 | .Name x p => j29 lk S x p e n
 | .Attribute o x _ => cond (q1c e) (.atr (cE lk n S o) x (cNl (cE lk n) S e)) .bad
 | .Subscript o i _ => cond (q1c e && q3u i) (.sbs (cE lk n S o) (cE lk n S i) (cE lk n S e)) .bad
 | .Tuple ts _ _ => cond (S.top && q1c e && ts.all q0e) (cTup lk S ts e n) .bad
 | _ => .bad
noncomputable def cAug (t : Expr) (op : Operator) (e : Expr) (n : Nat) : CS := match t, op with
 | .Name x _, .Add => cond (q1f S x) (.aug x (cE lk n S e)) .bad
 | _, _ => .bad
noncomputable def cFor (tgt e : Expr) (body : List CS) (n : Nat) : CS := cond (S.top && q9f e) (match tgt with
 | .Tuple ts _ _ => cond (ts.all q0e) (Option.casesOn (q4u S ts) .bad fun gs => .forN gs (cE lk n S e) body) .bad
 | t => Option.casesOn (j72 S t) .bad fun g => .for1 g (cE lk n S e) body) .bad
noncomputable def cRet (e : Option Expr) (n : Nat) : CS := match e with
 | some e => .ret (cE lk n S e)
 | none => .ret0
noncomputable def j6c (e : Option Ent) : Bool := match e with
 | some (.xc _ _) => true
 | _ => false
noncomputable def z9v (f : CE) : CS := match f with
 | .val (.prim (.ref C)) => cond (j6c (lk.ent C)) (.rai C) .bad
 | _ => .bad
noncomputable def j2w (es : List Expr) : Option (Str × Nat × Pos) := match es with
 | [.Constant (.str s) k p] => some (s, k, p)
 | _ => none
noncomputable def cRai1 (e : Expr) : CS := match e with
 | .Call f es [] _ => Option.casesOn (q31 f) .bad fun x => Option.casesOn (j2w es) .bad fun W0 => z9v lk (q2i lk S x.1)
 | _ => .bad
noncomputable def cRai (e : Option Expr) (cause : Option Expr) : CS := Option.casesOn e .bad fun e => Option.casesOn cause (cRai1 lk S e) fun W0 => .bad
noncomputable def z9x (ih : Stmt -> CS) (e : Expr) (n : Nat) (suite : List Stmt) (alt : CS) (f : CE) : CS := match f with
 | .val (.prim (.ref C)) => cond (S.top && j6c (lk.ent C)) (.tre (cE lk n S e) C (suite.map ih)) alt
 | _ => alt
noncomputable def j2u (body : List Stmt) : Option (Expr × Pos) := match body with
 | [.Return (some e) p] => some (e, p)
 | _ => none
noncomputable def xHd (h : ExceptHandler) : Option (Str × Pos × Stmt × List Stmt × Pos) := match h with
 | .ExceptHandler (some t) none (b :: l) p => (q31 t).bind fun x => some (x.1, x.2, b, l, p)
 | _ => none
noncomputable def cTry (ih : Stmt -> CS) (n : Nat) (body : List Stmt) (hs : List ExceptHandler) : CS := List.casesOn hs .bad fun hd W0 => Option.casesOn (j2u body) (.tri (body.map ih)) fun e => Option.casesOn (xHd hd) (.tri (body.map ih)) fun q => z9x lk S ih e.1 n (q.2.2.1 :: q.2.2.2.1) (.tri (body.map ih)) (q2i lk S q.1)
noncomputable def cS1 (ih : Stmt -> CS) (n : Nat) (s : Stmt) : CS := match s with
 | .Return e _ => cRet lk S e n
 | .Pass _ => .pass
 | .Continue _ => .cont
 | .Expr e _ => cond (q1c e) (.exp (cE lk n S e)) .bad
 | .If t b o _ => .ifs (cE lk n S t) (b.map ih) (o.map ih)
 | .Assign ts e _ => List.casesOn ts .bad fun t r => List.casesOn r (cAsg lk S t e n) fun W0 W0 => .bad
 | .AugAssign t op e _ => cAug lk S t op e n
 | .For tgt e body o _ => List.casesOn o (cFor lk S tgt e (body.map ih) n) fun W0 W0 => .bad
 | .While t body o _ => List.casesOn o (.whl (cE lk n S t) (body.map ih)) fun W0 W0 => .bad
 | .Try body hs o f _ => List.casesOn o (List.casesOn f (cTry lk S ih n body hs) fun W0 W0 => .bad) fun W0 W0 => .bad
 | .Raise e cause _ => cRai lk S e cause
 | _ => .bad
end
noncomputable def cS (n : Nat) (S : Sx) : Stmt -> CS := Nat.rec (fun W0 => .bad) (fun n ih s => cS1 lk S ih n s) n
end
noncomputable def j9r (o : Option AO) : Option V := match o with
 | some (.cell (some v)) => some v
 | _ => none
noncomputable def z68 (o : Option AO) : Bool := match o with
 | some (.cell _) => true
 | _ => false
noncomputable def j43 (F : Fx) (x : Str) (st : St) : Option V := match q0f x F.cn with
 | some n => j9r (st.get n)
 | none => none
noncomputable def storeC (F : Fx) (x : Str) (v : V) (ρ : Loc) (st : St) : Option (Loc × St) := match q0f x F.cn with
   | some n => cond (z68 (st.get n)) (some (ρ, st.set n (.cell (some v)))) none
   | none => none
noncomputable def z4d (F : Fx) (t : Tg) (v : V) (ρ : Loc) (st : St) : Option (Loc × St) := match t with
 | .l x => some (q8i x v ρ, st)
 | .c x => storeC F x v ρ st
noncomputable def asgL (F : Fx) (ts : List Tg) : List V -> Loc -> St -> Option (Loc × St) := List.rec (fun vs ρ st => List.casesOn vs (some (ρ, st)) fun W0 W0 => none)
 (fun t W0 ih vs ρ st => List.casesOn vs none fun v vs => Option.casesOn (z4d F t v ρ st) none fun p => Prod.casesOn p fun ρ' st' => ih vs ρ' st') ts
noncomputable def asgU (F : Fx) (ts : List Tg) (v : V) (ρ : Loc) (st : St) : Option (Loc × St) := (x17 st v).bind fun vs => cond (Nat.beq ts.length vs.length) (asgL F ts vs ρ st) none
noncomputable def tgtV (tg : List Str) (v : V) : Option Loc := match tg with
 | [x] => some [(x, v)]
 | [x, y] => (match v with
   | .tup [v, w] => some (q8i y w [(x, v)])
   | _ => none)
 | _ => none
noncomputable def z7h (cn : List (Str × Nat)) (l : List (Str × NameKind)) : List (Str × Nat) -> Option (List (Str × Nat)) := List.rec some
 (fun p W0 ih acc => Prod.casesOn p fun n k => cond (q3p k) (Option.casesOn (q0f n cn) none fun i => ih ((n, i) :: acc)) (ih acc)) l
noncomputable def j03 (o : Option Nat) (n : Nat) : Bool := match o with
 | some m => Nat.beq m n
 | none => false
noncomputable def z5r (F : Fx) (cn : List (Str × Nat)) : Bool := F.nh && cn.all (fun p => j03 (q0f p.1 F.cn) p.2) && cn.all (fun p => j03 (q0f p.1 cn) p.2)
noncomputable def Fx.comp (F : Fx) (cn : List (Str × Nat)) : Fx := { cn := cn, d := F.d, tn := false, nh := F.nh }
section
variable (lk : Lk) (T : Tb) (F : Fx)
noncomputable def q8m (es : List CE) : Loc -> St -> Out (List V) := List.rec (fun ρ st => .ok [] st) (fun e W0 ih ρ st => (T.ev F e ρ st).bind fun v st => (ih ρ st).bind fun vs st => .ok (v :: vs) st) es
noncomputable def allT (op : BoolOp) (es : List CE) : Loc -> St -> Out Bool := List.rec (fun ρ st => BoolOp.casesOn op (.ok true st) (.ok false st))
 (fun e W0 ih ρ st => (T.evT F e ρ st).bind fun b st => BoolOp.casesOn op (cond b (ih ρ st) (.ok false st)) (cond b (.ok true st) (ih ρ st))) es
noncomputable def boT (op : BoolOp) (es : List CE) : Loc -> St -> Out V := List.rec (fun W0 W0 => .bad)
 (fun e es ih ρ st => List.casesOn es (T.ev F e ρ st) fun W0 W0 => (T.ev F e ρ st).bind fun v st => (ofO (j8a v) st).bind fun b st => BoolOp.casesOn op (cond b (ih ρ st) (.ok v st)) (cond b (.ok v st) (ih ρ st))) es
noncomputable def z1d (p : Fl × Loc) (st : St) (next : Loc -> St -> Out (Fl × Loc)) : Out (Fl × Loc) := Prod.casesOn p fun fl ρ => Fl.casesOn fl (next ρ st) (.ok (.brk, ρ) st) (.ok (.cont, ρ) st) fun v => .ok (.ret v, ρ) st
noncomputable def q12 (ss : List CS) : Loc -> St -> Out (Fl × Loc) := List.rec (fun ρ st => .ok (.next, ρ) st) (fun s W0 ih ρ st => (T.ex F s ρ st).bind fun p st => z1d p st ih) ss
noncomputable def j2p (p : Fl × Loc) (st : St) (next : Loc -> St -> Out (Fl × Loc)) : Out (Fl × Loc) := Prod.casesOn p fun fl ρ => Fl.casesOn fl (next ρ st) (.ok (.next, ρ) st) (next ρ st) fun v => .ok (.ret v, ρ) st
noncomputable def j0y (sto : V -> Loc -> St -> Option (Loc × St)) (body : List CS) (vs : List V) : Loc -> St -> Out (Fl × Loc) := List.rec (fun ρ st => .ok (.next, ρ) st)
 (fun v W0 ih ρ st => Option.casesOn (sto v ρ st) .bad fun p => Prod.casesOn p fun ρ₁ st₁ => (q12 T F body ρ₁ st₁).noEx fun p st₂ => j2p p st₂ ih) vs
noncomputable def whT (test : CE) (body : List CS) (n : Nat) : Loc -> St -> Out (Fl × Loc) := Nat.rec (fun W0 W0 => .bad)
 (fun W0 ih ρ st => (T.evT F test ρ st).noEx fun b st₁ => cond b ((q12 T F body ρ st₁).noEx fun p st₂ => j2p p st₂ ih) (.ok (.next, ρ) st₁)) n
noncomputable def lcT (tg : List Str) (elt : CE) (vs : List V) : List V -> St -> Out V := List.rec (fun ys st => .ok (.lst ys) st)
 (fun v W0 ih ys st => Option.casesOn (tgtV tg v) .bad fun ρ₁ => (T.ev F elt ρ₁ st).noEx fun y st₁ => ih (ys ++ [y]) st₁) vs
noncomputable def outP (p : Option (V × St)) : Out V := match p with
 | some (v, st) => .ok v st
 | none => .bad
noncomputable def outC (vc : Bool) (p : Cb) : Out V := Option.casesOn p .bad fun q => Prod.casesOn q fun c p => Prod.casesOn p fun v st => j44 vc c (.ok v st)
noncomputable def j41 (f : Value) (vs : List V) (st : St) : Out V := cond F.nh (match f with
 | .ref a => T.call F.d F.tn a vs st
 | f => outC T.vc (j40 f vs st)) .bad
noncomputable def intO (v : V) : Option (Option Int) := match v with
 | .int i => some (some i)
 | _ => none
noncomputable def q20 : CE -> Bool
 | .nil => true
 | _ => false
noncomputable def j1v (e : CE) (ρ : Loc) (st : St) : Out (Option Int) := cond (q20 e) (.ok none st) ((T.ev F e ρ st).bind fun v st => ofO (intO v) st)
noncomputable def lcI (cn : List (Str × Nat)) (tg : List Str) (elt : CE) (p : V × St) : Out V := Prod.casesOn p fun v st => Option.casesOn (q60 v) .bad fun vs => (lcT T (F.comp cn) tg elt vs [] st).noEx fun v st => .ok v st
noncomputable def lcS (tg : List Str) (names : List (Str × NameKind)) (elt iter : CE) (ρ : Loc) (st : St) : Out V := Option.casesOn (z7h F.cn names []) .bad fun cn => cond (z5r F cn) ((T.ev F iter ρ st).bind fun v st₁ => lcI T F cn tg elt (z9c v st₁)) .bad
noncomputable def binN (op : Operator) (a b : V) (st : St) : Out V := match op, a, b with
 | .Add, .sb x, .bytes y => cond (Nat.ble (x.len + y.length) 1000000) (.ok (.sb (.var st.nx (x.len + y.length))) st.nxt) .bad
 | _, _, _ => .bad
noncomputable def binO (vc : Bool) (op : Operator) (a b : V) (st : St) : Out V := Option.casesOn (binV op a b st) (binN op a b st) fun p => Prod.casesOn p fun c a => j44 vc c (.ok a st)
noncomputable def be4V (v : Option V) (st : St) : Out V := match v with
 | some (.sb (.icmp _ _ z _)) => .ok z.toV st
 | _ => .bad
noncomputable def evBin (op : Operator) (l r : CE) (ρ : Loc) (st : St) : Out V := (T.ev F l ρ st).bind fun a st => (T.ev F r ρ st).bind fun b st => binO T.vc op a b st
noncomputable def negV (v : V) : Option V := match v with
 | .int i => some (.int (-i))
 | _ => none
noncomputable def evNeg (e : CE) (ρ : Loc) (st : St) : Out V := (T.ev F e ρ st).bind fun v st => ofO (negV v) st
noncomputable def evNot (e : CE) (ρ : Loc) (st : St) : Out V := (T.ev F e ρ st).bind fun v st => (ofO (j8a v) st).bind fun b st => .ok (.bool (!b)) st
noncomputable def evIf (t b o : CE) (ρ : Loc) (st : St) : Out V := (T.evT F t ρ st).bind fun x st => cond x (T.ev F b ρ st) (T.ev F o ρ st)
noncomputable def j9n (b : Bool) (st : St) : Out V := .ok (.bool b) st
noncomputable def j98 (op : CmpOp) (l r : CE) (ρ : Loc) (st : St) : Out V := (T.ev F l ρ st).bind fun a st => (T.ev F r ρ st).bind fun b st => (ofO (z9b op a b st) st).bind j9n
noncomputable def brk2 {α : Type} (vc t : Bool) (r o : Out α) : Out α := cond vc (.need t r) (cond t r o)
noncomputable def j99 (o₁ o₂ : CmpOp) (l r₁ r₂ : CE) (ρ : Loc) (st : St) : Out V := (T.ev F l ρ st).bind fun a st => (T.ev F r₁ ρ st).bind fun b st => (ofO (z9b o₁ a b st) st).bind fun t st =>
     brk2 T.vc t ((T.ev F r₂ ρ st).bind fun d st => (ofO (z9b o₂ b d st) st).bind j9n) (.ok (.bool t) st)
noncomputable def j97 (f : Value) (es : List CE) (ρ : Loc) (st : St) : Out V := (q8m T F es ρ st).bind fun vs st => j41 T F f vs st
noncomputable def x0a (o : CE) (name : Str) (es : List CE) (ρ : Loc) (st : St) : Out V := (T.ev F o ρ st).bind fun v st =>
   Option.casesOn (j6m lk name v st) .bad fun f => (q8m T F es ρ st).bind fun vs st => j41 T F f (v :: vs) st
noncomputable def attrV (x : Str) (st : St) (i : Option (Addr × List (Str × V))) : Out V := match i with
 | some (C, fs) => cond (lk.at_ C x) (Option.casesOn (q0f x fs) .bad fun w => cond w.clear (.ok w st) .bad) .bad
 | none => .bad
noncomputable def j3c (o : CE) (x : Str) (ρ : Loc) (st : St) : Out V := (T.ev F o ρ st).bind fun v st => attrV lk x st (q36 st v)
noncomputable def j5j (o l u : CE) (ρ : Loc) (st : St) : Out V := (T.ev F o ρ st).bind fun v st => (j1v T F l ρ st).bind fun lo st => (j1v T F u ρ st).bind fun hi st => ofP T.vc (slV v lo hi st) st
noncomputable def evSub (o e : CE) (ρ : Loc) (st : St) : Out V := (T.ev F o ρ st).bind fun v st => (T.ev F e ρ st).bind fun i st => ofP T.vc (subV v i st) st
noncomputable def small (n : Nat) : Bool := Nat.ble n 1000000
noncomputable def evTup (es : List CE) (ρ : Loc) (st : St) : Out V := (q8m T F es ρ st).bind fun vs st => cond (small vs.length) (.ok (.tup vs) st) .bad
noncomputable def evLst (es : List CE) (ρ : Loc) (st : St) : Out V := (q8m T F es ρ st).bind fun vs st => cond (small vs.length) (.ok (.lst vs) st) .bad
noncomputable def evNls (es : List CE) (ρ : Loc) (st : St) : Out V := (q8m T F es ρ st).bind fun vs st => cond (small vs.length) (.ok (.ref st.nx) (st.new (.list vs))) .bad
noncomputable def evDic (ks : List Str) (es : List CE) (ρ : Loc) (st : St) : Out V := (q8m T F es ρ st).noEx fun vs st => .ok (.dct ks vs) st
noncomputable def evD (e : CE) : Lk -> Tb -> Fx -> Loc -> St -> Out V := CE.rec (motive_1 := fun W0 => Lk -> Tb -> Fx -> Loc -> St -> Out V) (motive_2 := fun W0 => PUnit)
 (fun W0 W0 W0 W0 W0 => .bad)
 (fun W0 W0 W0 W0 W0 => .bad)
 (fun v W0 W0 W0 W0 st => .ok v st)
 (fun x W0 W0 W0 ρ st => ofO (q0f x ρ) st)
 (fun x W0 W0 F W0 st => ofO (j43 F x st) st)
 (fun op l r W0 W0 W0 T F => evBin T F op l r)
 (fun e W0 W0 T F => evNeg T F e)
 (fun e W0 W0 T F => evNot T F e)
 (fun op es W0 W0 T F => boT T F op es)
 (fun t b o W0 W0 W0 W0 T F => evIf T F t b o)
 (fun op l r W0 W0 W0 T F => j98 T F op l r)
 (fun o₁ o₂ l r₁ r₂ W0 W0 W0 W0 T F => j99 T F o₁ o₂ l r₁ r₂)
 (fun f es W0 W0 T F => j97 T F f es)
 (fun o name es W0 W0 lk T F => x0a lk T F o name es)
 (fun o x W0 lk T F => j3c lk T F o x)
 (fun o l u W0 W0 W0 W0 T F => j5j T F o l u)
 (fun o e W0 W0 W0 T F => evSub T F o e)
 (fun es W0 W0 T F => evTup T F es)
 (fun es W0 W0 T F => evLst T F es)
 (fun es W0 W0 T F => evNls T F es)
 (fun W0 W0 W0 W0 st => .ok (.ref st.nx) (st.new (.tab [] none)))
 (fun ks es W0 W0 T F => evDic T F ks es)
 (fun tg names elt iter W0 W0 W0 T F => lcS T F tg names elt iter)
 (fun x W0 W0 W0 ρ st => be4V (q0f x ρ) st)
 PUnit.unit (fun W0 W0 W0 W0 => PUnit.unit) e
noncomputable def evS (e : CE) : Loc -> St -> Out V := evD e lk T F
noncomputable def tsNot (e : CE) (ρ : Loc) (st : St) : Out Bool := (T.evT F e ρ st).bind fun b st => .ok (!b) st
noncomputable def x2w (op : CmpOp) (l r : CE) (ρ : Loc) (st : St) : Out Bool := (T.ev F l ρ st).bind fun a st => (T.ev F r ρ st).bind fun b st => ofO (z9b op a b st) st
noncomputable def x2x (o₁ o₂ : CmpOp) (l r₁ r₂ : CE) (ρ : Loc) (st : St) : Out Bool := (T.ev F l ρ st).bind fun a st => (T.ev F r₁ ρ st).bind fun b st => (ofO (z9b o₁ a b st) st).bind fun t st =>
     brk2 T.vc t ((T.ev F r₂ ρ st).bind fun d st => ofO (z9b o₂ b d st) st) (.ok false st)
noncomputable def q6n (e : CE) (ρ : Loc) (st : St) : Out Bool := (T.ev F e ρ st).bind fun v st => ofO (j8a v) st
noncomputable def evTD (e : CE) : Tb -> Fx -> Loc -> St -> Out Bool := CE.rec (motive_1 := fun W0 => Tb -> Fx -> Loc -> St -> Out Bool) (motive_2 := fun W0 => PUnit)
 (fun W0 W0 W0 W0 => .bad)
 (fun W0 W0 W0 W0 => .bad)
 (fun v W0 W0 W0 st => ofO (j8a v) st)
 (fun x T F => q6n T F (.loc x))
 (fun x T F => q6n T F (.cel x))
 (fun W0 W0 W0 W0 W0 W0 W0 W0 W0 => .bad)
 (fun W0 W0 W0 W0 W0 W0 => .bad)
 (fun e W0 T F => tsNot T F e)
 (fun op es W0 T F => allT T F op es)
 (fun W0 W0 W0 W0 W0 W0 W0 W0 W0 W0 => .bad)
 (fun op l r W0 W0 T F => x2w T F op l r)
 (fun o₁ o₂ l r₁ r₂ W0 W0 W0 T F => x2x T F o₁ o₂ l r₁ r₂)
 (fun f es W0 T F => q6n T F (.call f es))
 (fun o name es W0 W0 T F => q6n T F (.meth o name es))
 (fun o x W0 T F => q6n T F (.attr o x))
 (fun W0 W0 W0 W0 W0 W0 W0 W0 W0 W0 => .bad)
 (fun o e W0 W0 T F => q6n T F (.sub o e))
 (fun W0 W0 W0 W0 W0 W0 => .bad)
 (fun W0 W0 W0 W0 W0 W0 => .bad)
 (fun W0 W0 W0 W0 W0 W0 => .bad)
 (fun W0 W0 W0 W0 => .bad)
 (fun W0 W0 W0 W0 W0 W0 W0 => .bad)
 (fun W0 W0 W0 W0 W0 W0 W0 W0 W0 W0 => .bad)
 (fun W0 W0 W0 W0 W0 => .bad)
 PUnit.unit (fun W0 W0 W0 W0 => PUnit.unit) e
noncomputable def q5j (e : CE) : Loc -> St -> Out Bool := evTD e T F
noncomputable def ndD (pol : Bool) (e : CE) (ρ : Loc) (st : St) : Out Unit := (T.evT F e ρ st).bind fun b st => j44 T.vc (b == pol) (.ok () st)
noncomputable def j6o (pol : Bool) (es : List CE) : Loc -> St -> Out Unit := List.rec (fun ρ st => .ok () st) (fun e W0 ih ρ st => (T.nd F pol e ρ st).bind fun W0 st => ih ρ st) es
noncomputable def ndBoo (op : BoolOp) (pol : Bool) (es : List CE) (ρ : Loc) (st : St) : Out Unit := BoolOp.casesOn op (cond pol (j6o T F true es ρ st) (ndD T F pol (.boo op es) ρ st)) (cond pol (ndD T F pol (.boo op es) ρ st) (j6o T F false es ρ st))
noncomputable def x1g (o₁ o₂ : CmpOp) (l r₁ r₂ : CE) (ρ : Loc) (st : St) : Out Unit := (T.ev F l ρ st).bind fun a st => (T.ev F r₁ ρ st).bind fun b st => (ofO (z9b o₁ a b st) st).bind fun t st => j44 T.vc t
     ((T.ev F r₂ ρ st).bind fun d st => (ofO (z9b o₂ b d st) st).bind fun t st => j44 T.vc t (.ok () st))
noncomputable def ndS (pol : Bool) (e : CE) (ρ : Loc) (st : St) : Out Unit := match e with
 | .not e => T.nd F (!pol) e ρ st
 | .boo op es => ndBoo T F op pol es ρ st
 | .cmp2 o₁ o₂ l r₁ r₂ => cond pol (x1g T F o₁ o₂ l r₁ r₂ ρ st) (ndD T F pol (.cmp2 o₁ o₂ l r₁ r₂) ρ st)
 | e => ndD T F pol e ρ st
noncomputable def x00 : CS -> Bool
 | .bad => true
 | .rai _ => true
 | _ => false
noncomputable def j8q (b : List CS) : Bool := List.casesOn b false fun s r => List.casesOn r (x00 s) fun W0 W0 => false
noncomputable def q3t (ρ : Loc) (st : St) : Out (Fl × Loc) := .ok (.next, ρ) st
noncomputable def setO (n : Nat) (x : Str) (w : V) (ρ : Loc) (st : St) (o : Option AO) : Out (Fl × Loc) := match o with
 | some (.inst C fs) => cond (lk.at_ C x && Nat.ble fs.length 900) (q3t ρ (st.set n (.inst C (q8i x w fs)))) .bad
 | _ => .bad
noncomputable def setA (x : Str) (w v : V) (ρ : Loc) (st : St) : Out (Fl × Loc) := match v with
 | .ref n => setO lk n x w ρ st (st.get n)
 | _ => .bad
noncomputable def j3e (o : CE) (x : Str) (e : CE) (ρ : Loc) (st : St) : Out (Fl × Loc) := (T.ev F e ρ st).bind fun w st => (T.ev F o ρ st).bind fun v st => setA lk x w v ρ st
noncomputable def setI (n : Nat) (j w : V) (ρ : Loc) (st : St) (o : Option AO) : Out (Fl × Loc) := match o, j with
 | some (.list vs), .int k => cond (decide (0 <= k /\ k < vs.length /\ vs.length <= 1000000)) (q3t ρ (st.set n (.list (vs.set k.toNat w)))) .bad
 | some (.tab [] none), .tup ws => Option.casesOn (zsV ws) .bad fun zs => q3t ρ (st.set n (.tab [(zs, w)] none))
 | _, _ => .bad
noncomputable def setS (j w v : V) (ρ : Loc) (st : St) : Out (Fl × Loc) := match v with
 | .ref n => setI n j w ρ st (st.get n)
 | _ => .bad
noncomputable def x0j (o i e : CE) (ρ : Loc) (st : St) : Out (Fl × Loc) := (T.ev F e ρ st).bind fun w st => (T.ev F o ρ st).bind fun v st => (T.ev F i ρ st).bind fun j st => setS j w v ρ st
noncomputable def x2f (x y : Str) (ρ : Loc) (st : St) (v : V) : Out (Fl × Loc) := match v with
 | .tup [v1, v2] => q3t (q8i x v1 (q8i y v2 ρ)) st
 | _ => .bad
noncomputable def x0h (x y : Str) (e : CE) (ρ : Loc) (st : St) : Out (Fl × Loc) := cond F.nh ((T.ev F e ρ st).bind fun v st => x2f x y ρ st v) .bad
noncomputable def outL (q : Option (Loc × St)) : Out (Fl × Loc) := Option.casesOn q .bad fun q => Prod.casesOn q fun ρ' st' => q3t ρ' st'
noncomputable def exUnp (ts : List Tg) (e : CE) (ρ : Loc) (st : St) : Out (Fl × Loc) := cond F.nh ((T.ev F e ρ st).bind fun v st => outL (asgU F ts v ρ st)) .bad
noncomputable def addV (v w : V) : Option V := match v, w with
 | .int a, .int b => some (.int (a + b))
 | _, _ => none
noncomputable def exAug (x : Str) (e : CE) (ρ : Loc) (st : St) : Out (Fl × Loc) := Option.casesOn (q0f x ρ) .bad fun v => (T.ev F e ρ st).bind fun w st => (ofO (addV v w) st).bind fun v st => q3t (q8i x v ρ) st
noncomputable def forI (sto : V -> Loc -> St -> Option (Loc × St)) (body : List CS) (ρ : Loc) (p : V × St) : Out (Fl × Loc) := Prod.casesOn p fun v st => Option.casesOn (q60 v) .bad fun vs => j0y T F sto body vs ρ st
noncomputable def z6i (sto : V -> Loc -> St -> Option (Loc × St)) (e : CE) (body : List CS) (ρ : Loc) (st : St) : Out (Fl × Loc) := cond F.nh ((T.ev F e ρ st).bind fun v st₁ => forI T F sto body ρ (z9c v st₁)) .bad
noncomputable def x0g (t : CE) (b o : List CS) (ρ : Loc) (st : St) : Out (Fl × Loc) := cond (T.vc && j8q b) ((T.nd F false t ρ st).bind fun W0 st => q12 T F o ρ st) ((T.evT F t ρ st).bind fun x st => cond x (q12 T F b ρ st) (q12 T F o ρ st))
noncomputable def exRai (C : Addr) (st : St) : Out (Fl × Loc) := cond (F.nh && Nat.ble 1 F.d) (.ex C st) .bad
noncomputable def treT (C : Addr) (suite : List CS) (ρ : Loc) (r : Out V) : Out (Fl × Loc) := Out.rec (fun v st => .ok (.ret v, ρ) st) (fun C' st => cond (Nat.beq C' C) ((q12 T { F with nh := false } suite ρ st).noEx fun p st => .ok p st) .bad) (fun c W0 ih => .need c ih) (fun W0 W0 il ir => .both il ir) .bad r
noncomputable def exTre (e : CE) (C : Addr) (suite : List CS) (ρ : Loc) (st : St) : Out (Fl × Loc) := cond F.tn (treT T F C suite ρ (T.ev { F with tn := false } e ρ st)) .bad
noncomputable def exD (s : CS) : Lk -> Tb -> Fx -> Loc -> St -> Out (Fl × Loc) := CS.rec (motive_1 := fun W0 => Lk -> Tb -> Fx -> Loc -> St -> Out (Fl × Loc)) (motive_2 := fun W0 => PUnit)
 (fun W0 W0 W0 W0 W0 => .bad)
 (fun e W0 T F ρ st => (T.ev F e ρ st).bind fun v st => .ok (.ret v, ρ) st)
 (fun W0 W0 W0 ρ st => .ok (.ret .none, ρ) st)
 (fun W0 W0 W0 => q3t)
 (fun W0 W0 W0 ρ st => .ok (.cont, ρ) st)
 (fun e W0 T F ρ st => (T.ev F e ρ st).bind fun W0 st => q3t ρ st)
 (fun t b o W0 W0 W0 T F => x0g T F t b o)
 (fun x e W0 T F ρ st => (T.ev F e ρ st).bind fun v st => q3t (q8i x v ρ) st)
 (fun o x e lk T F => j3e lk T F o x e)
 (fun o i e W0 T F => x0j T F o i e)
 (fun x y e W0 T F => x0h T F x y e)
 (fun ts e W0 T F => exUnp T F ts e)
 (fun x e W0 T F => exAug T F x e)
 (fun t e body W0 W0 T F => z6i T F (z4d F t) e body)
 (fun ts e body W0 W0 T F => z6i T F (asgU F ts) e body)
 (fun t body W0 W0 T F => whT T F t body 100)
 (fun body W0 W0 T F ρ st => (q12 T F body ρ st).noEx fun p st => .ok p st)
 (fun C W0 W0 F W0 st => exRai F C st)
 (fun e C suite W0 W0 T F => exTre T F e C suite)
 PUnit.unit (fun W0 W0 W0 W0 => PUnit.unit) s
noncomputable def exS (s : CS) : Loc -> St -> Out (Fl × Loc) := exD s lk T F
end
noncomputable def z79 (p : Fl × Loc) (st : St) : Out V := Prod.casesOn (z9c p.1.val st) fun v st => .ok v st
noncomputable def q1p (lk : Lk) (r : FnRec) : List CS := r.body.map (cS lk 40 ⟨r.sc, true⟩)
noncomputable def j4s (lk : Lk) (T : Tb) (d : Nat) (tn : Bool) (r : FnRec) (b : List (Str × V)) (st : St) (cs : List Str) : Out V := match cs with
   | [] => (q12 T { cn := [], d := d, tn := tn, nh := true } (q1p lk r) b st).bind z79
   | cs => (q12 T { cn := q6t (fun x => q0f x b) cs st, d := d, tn := tn, nh := true } (q1p lk r) (b.filter fun p => q00 (q0f p.1 r.sc.names)) (q5g (fun x => q0f x b) cs st)).noEx z79
noncomputable def q0r (lk : Lk) (T : Tb) (d : Nat) (tn : Bool) (r : FnRec) (vs : List V) (st : St) : Out V :=
 cond (Nat.ble vs.length r.ns.length && Nat.ble r.ns.length (vs.length + r.dvs.length)) (j4s lk T d tn r (r.ns.zip (q6j r.ns.length vs r.dvs)) st r.cells) .bad
noncomputable def frzI (n : Nat) (st : St) (o : Option AO) : Out V := Option.casesOn (z4m o) .bad fun p => .ok (.ob p.1 p.2) (st.del n)
noncomputable def j6b (v : V) : Bool := (j8g v).isSome
noncomputable def z5j (T : Tb) (d : Nat) (tn : Bool) (C fI : Addr) (frz : Bool) (vs : List V) (st : St) : Out V :=
 (T.call d tn fI (.ref st.nx :: vs) (st.new (.inst C []))).bind fun v st' => cond (j6b v) (cond frz (frzI st.nx st' (st'.get st.nx)) (.ok (.ref st.nx) st')) .bad
noncomputable def j3m (tn : Bool) (r : Out V) : Out V := cond tn (r.noEx .ok) r
noncomputable def callE (lk : Lk) (T : Tb) (d : Nat) (tn : Bool) (a : Addr) (vs : List V) (st : St) (e : Ent) : Out V := match e with
 | .orc f => f T.vc d tn vs st
 | .fn r => Nat.casesOn d .bad fun d => j3m (T.vc || tn) (q0r lk T d tn r vs st)
 | .cl fI frz => Nat.casesOn d .bad fun d => z5j T d tn a fI frz vs st
 | .xc _ _ => .bad
noncomputable def j9q (lk : Lk) (T : Tb) (d : Nat) (tn : Bool) (a : Addr) (vs : List V) (st : St) : Out V := Option.casesOn (lk.ent a) .bad (callE lk T d tn a vs st)
noncomputable def x2c (lk : Lk) (T : Tb) : Tb := ⟨T.vc, evS lk T, q5j T, ndS T, exS lk T, j9q lk T⟩
noncomputable def badT (vc : Bool) : Tb := ⟨vc, fun W0 W0 W0 W0 => .bad, fun W0 W0 W0 W0 => .bad, fun W0 W0 W0 W0 W0 => .bad, fun W0 W0 W0 W0 => .bad, fun W0 W0 W0 W0 W0 => .bad⟩
noncomputable def q0q (lk : Lk) (vc : Bool) (n : Nat) : Tb := Nat.rec (badT vc) (fun W0 T => x2c lk T) n
noncomputable def j1z (lk : Lk) (n : Nat) : Tb := q0q lk false n
theorem q0s {α : Type} {b : Bool} {r : Out α} {Q : α -> St -> Prop} {X : Exc} (h : Sat (cond b r .bad) Q X) : b = true /\ Sat r Q X := by
 induction b using Bool.casesOn with
 | true => exact ⟨rfl, h⟩
 | false => exact h.elim
theorem sat_opt {α β : Type} {o : Option β} {f : β -> Out α} {Q : α -> St -> Prop} {X : Exc} (h : Sat (Option.casesOn (motive := fun W0 => Out α) o .bad f) Q X) : ∃ a, o = some a /\ Sat (f a) Q X := by
 induction o using Option.casesOn with
 | none => exact h.elim
 | some a => exact ⟨a, rfl, h⟩
structure FnOk (c : Cx) (a : Addr) (r : FnRec) : Prop where
 is_ : ∃ ds qual cdv, FnIs c.K a r.ns r.body r.sc ds qual cdv /\ ∀ g, VRs c g r.dvs ds
 nd : r.ns.Nodup
 ld : r.dvs.length <= r.ns.length
 co : r.sc.isCoroutine = false
 gen : r.sc.isGenerator = false
 kind : r.sc.kind = .function
 c0 : r.cells = [] -> (∀ x ∈ r.sc.names, x.2 ≠ .cell) /\ ∀ y ∈ r.ns, r.sc.names.lookup y = some .local
 c1 : r.cells ≠ [] -> (cellsFrom 0 r.sc.names []).map (·.1) = r.cells /\ r.cells.Nodup /\ (∀ x ∈ r.cells, r.sc.names.lookup x = some .cell) /\ ∀ y ∈ r.ns, r.sc.names.lookup y = some .local \/ (r.sc.names.lookup y = some .cell /\ y ∈ r.cells)
structure ClOk (c : Cx) (C fI : Addr) : Prop where
 m : makesIn c.K C = true
 i : findIn c.K (.ref C) "__init__" = some (some (.ref fI))
 t : typeIn c.K (.ref fI) = some (.type "function")
noncomputable def q01 (c : Cx) (a : Addr) : Ent -> Prop
 | .fn r => FnOk c a r
 | .cl fI _ => ClOk c a fI
 | .xc fI attr => XcIn c.K a fI attr /\ XiIs c.K fI attr /\ ktsIn c.K a "BaseException" = true
 | .orc f => ∀ vc d tn vs st Q X, Sat (f vc d tn vs st) Q X -> q0d c d tn st (.prim (.ref a)) vs Q X
structure LkOk (c : Cx) (lk : Lk) : Prop where
 sys : q8k c
 gl : ∀ x v, lk.gl x = some v -> ∀ (P : Pt), P.env.scope.names.lookup x = some .globalImplicit -> ∀ ρ st Q X pos, Q v st -> EvE c P ρ st (.Name x pos) Q X
 dbg : ∀ x v, lk.gl x = some v -> (x == ("__debug__" : Str)) = false
 glx : ∀ x C, lk.gl x = some (.prim (.ref C)) -> nsIn c.K mainGlobals x = some (some (.ref C))
 ent : ∀ a e, lk.ent a = some e -> keepIn c.K (.ref a) = true /\ q01 c a e
 at_ : ∀ C x, lk.at_ C x = true -> q8o c.K C x = true /\ z39 c.K C x = true
 me : ∀ C x f, lk.me C x = some f -> q9c c.K C x f = true
theorem LkOk.keep {c : Cx} {lk : Lk} (L : LkOk c lk) {a : Addr} (h : (lk.ent a).isSome = true) : keepIn c.K (.ref a) = true := by
 obtain ⟨e, he⟩ := Option.isSome_iff_exists.mp h
 exact (L.ent _ _ he).1
noncomputable def LcIs (c : Cx) (P : Pt) (ρ : Loc) (st : St) (elt : Expr) (gs : List Comprehension) (scope : Scope) (Q : V -> St -> Prop) (X : Exc) : Prop :=
 ∃ tgt iter cn, gs = [⟨tgt, iter, [], 0⟩] /\ LcOk P scope iter cn /\ EvE c P ρ st iter (fun v st₁ => ∃ vs, vs.length <= sizeLine /\ q4l c P v vs /\ LcP c P scope cn elt tgt Q vs [] st₁) X
structure TbOk (c : Cx) (lk : Lk) (T : Tb) : Prop where
 ev : ∀ {P S F n e ρ st Q X}, PI P S F -> Sat (T.ev F (cE lk n S e) ρ st) Q X -> EvE c P ρ st e Q X
 evn : ∀ {P S F n e ρ st Q X}, PI P S F -> Sat (T.ev F (cNl (cE lk n) S e) ρ st) Q X -> EvE c P ρ st e Q X
 lc : ∀ {P S F n elt gs scope ρ st Q X}, PI P S F -> Sat (T.ev F (cLc (cE lk n) S elt gs scope) ρ st) Q X -> LcIs c P ρ st elt gs scope Q X
 evT : ∀ {P S F n e ρ st Q X}, PI P S F -> Sat (T.evT F (cE lk n S e) ρ st) Q X -> EvT c P ρ st e Q X
 nd : ∀ {P S F n pol e ρ st} {Q : Unit -> St -> Prop} {X}, PI P S F -> Sat (T.nd F pol (cE lk n S e) ρ st) Q X -> EvT c P ρ st e (fun b st' => b = pol /\ Q () st') X
 ex : ∀ {P S F n s ρ st Q X}, PI P S F -> Sat (T.ex F (cS lk n S s) ρ st) (fun p st => Q p.1 p.2 st) X -> Ex1 c P ρ st s Q X
 call : ∀ {d tn a vs st Q X}, Sat (T.call d tn a vs st) Q X -> q0d c d tn st (.prim (.ref a)) vs Q X
theorem EvE.mono {c : Cx} {P : Pt} {ρ : Loc} {st : St} {e : Expr} {Q Q' : V -> St -> Prop} {X : Exc} (h : EvE c P ρ st e Q X) (hq : ∀ v st, Q v st -> Q' v st) : EvE c P ρ st e Q' X := TrG.mono h hq
theorem q0d.monoX {c : Cx} {d : Nat} {tn : Bool} {st : St} {f : V} {vs : List V} {Q : V -> St -> Prop} {X X' : Exc} (h : q0d c d tn st f vs Q X) (hx : ∀ C st', X C st' -> X' C st') : q0d c d tn st f vs Q X' :=
 fun P ρ h1 h2 h3 g pv m ns news h0 s x xs R a hf hxs K => h P ρ h1 h2 h3 g pv m ns news h0 s x xs R a hf hxs ⟨K.ok, fun g' st' h0' h' tk C e l v r q => K.ex g' st' h0' h' tk C e l v r (hx _ _ q)⟩
section
variable {c : Cx} {lk : Lk} {T : Tb} {P : Pt} {S : Sx} {F : Fx} {ρ : Loc} {st : St} {X : Exc}
theorem q6v {x y : Str} (h : eqS x y = false) : (x == y) = false := by refine rwb (q6u _ _) ?_; exact h
theorem q3m {x y : Str} (h : eqS x y = true) : x = y := by rw [q6u] at h; exact eq_of_beq h
theorem q0h (I : PI P S F) (x : Str) : P.env.kindOf x = q05 S x := by unfold Env.kindOf q05; (refine rwm I.sc ?_; refine rwm (q0b _ _) ?_; rfl)
theorem z92 {o : Option AO} {v : V} (e : j9r o = some v) : o = some (.cell (some v)) := by
 induction o using Option.casesOn with
 | none => exact ns e
 | some o =>
   induction o using AO.casesOn with
   | cell w => (refine rwm (show w = some v from (by cases w <;> exact e)) ?_; rfl)
   | _ => exact ns e
theorem cellV_eq {x : Str} {v : V} (I : PI P S F) (e : j43 F x st = some v) : ∃ n, P.cn.lookup x = some n /\ st.get n = some (.cell (some v)) := by
 unfold j43 at e
 refine q1v (q0f x F.cn) (fun hn => ?_) fun n hn => ?_
 . rw [hn] at e; exact ns e
 .
   rw [hn] at e
   exact ⟨n, by (refine rwm I.cn ?_; refine rwb (q0b _ _) ?_); exact hn, z92 e⟩
theorem q3i (H : TbOk c lk T) (I : PI P S F) {pos : Pos} {n : Nat} : ∀ {es : List Expr} {st : St} {Q : List V -> St -> Prop}, es.all q0e = true -> Sat (q8m T F (es.map (cE lk n S)) ρ st) Q X -> q22 c P ρ st pos es Q X := by
 intro es
 induction es with
 | nil => intro st Q _ h; exact q17 h
 | cons e es ih =>
   intro st Q hs h
   rw [List.all_cons, Bool.and_eq_true] at hs
   exact q02 hs.1 (EvE.mono (H.ev I (q0a h)) fun v st' h' => TrG.mono (ih hs.2 (q0a h')) fun vs st'' q => q)
theorem j3z (H : TbOk c lk T) (I : PI P S F) {op : BoolOp} {n : Nat} : ∀ {es : List Expr} {st : St} {Q : Bool -> St -> Prop}, Sat (allT T F op (es.map (cE lk n S)) ρ st) Q X -> q7b c P ρ st op es Q X := by
 intro es
 induction es with
 | nil =>
   intro st Q h
   induction op using BoolOp.casesOn with
   | And => exact q5b h
   | Or => exact q6q h
 | cons e es ih =>
   intro st Q h
   have h := q0a h
   induction op using BoolOp.casesOn with
   | And => exact z4j (TrG.mono (H.evT I h) fun b st' h' => by
       induction b using Bool.casesOn with
       | true => exact ih h'
       | false => exact h')
   | Or => exact j25 (TrG.mono (H.evT I h) fun b st' h' => by
       induction b using Bool.casesOn with
       | true => exact h'
       | false => exact ih h')
theorem j9l (H : TbOk c lk T) (I : PI P S F) {op : BoolOp} {pos : Pos} {n : Nat} : ∀ {es : List Expr} {st : St} {Q : V -> St -> Prop}, Sat (boT T F op (es.map (cE lk n S)) ρ st) Q X -> j3x c P ρ st pos op es Q X := by
 intro es
 induction es with
 | nil => intro st Q h; exact h.elim
 | cons e es ih =>
   intro st Q h
   induction es using List.casesOn with
   | nil => exact j4q (H.ev I h)
   | cons e' es =>
   have h := q0a h
   induction op using BoolOp.casesOn with
   | And => exact j9m (EvE.mono (H.ev I h) fun v st' h' => by
       refine e12 (sat_ofO (q0a h') :) fun b hb h' => ?_
       refine q58 hb ?_
       induction b using Bool.casesOn with
       | true => exact ih h'
       | false => exact h')
   | Or => exact bo_or (EvE.mono (H.ev I h) fun v st' h' => by
       refine e12 (sat_ofO (q0a h') :) fun b hb h' => ?_
       refine q58 hb ?_
       induction b using Bool.casesOn with
       | true => exact h'
       | false => exact ih h')
theorem strKeys_is {key : Option Expr} {keys : List (Option Expr)} {ks : List Str} (h : q2p (key :: keys) = some ks) : ∃ k kd kp ks', key = some (.Constant (.str k) kd kp) /\ q2p keys = some ks' /\ ks = k :: ks' := by
 induction key using Option.casesOn with
 | none => exact ns h
 | some e =>
   induction e using Expr.casesOn with
   | Constant k kd kp =>
     cases k with
     | str k =>
       refine e12 (omi h :) fun ks' hk e => ?_
       exact ⟨k, kd, kp, ks', rfl, hk, e.symm⟩
     | _ => exact ns h
   | _ => exact ns h
theorem j1u (H : TbOk c lk T) (I : PI P S F) {pos : Pos} {n : Nat} : ∀ {keys : List (Option Expr)} {es : List Expr} {ks : List Str} {st : St} {Q : List V -> St -> Prop}, q2p keys = some ks -> keys.length = es.length -> Sat (q8m T F (es.map (cE lk n S)) ρ st) Q X -> q5a c P ρ st pos keys es ks Q X := by
 intro keys
 induction keys with
 | nil =>
   intro es ks st Q e hl h
   refine rwb (oi e) ?_
   obtain rfl := List.length_eq_zero_iff.mp hl.symm
   exact z70 h
 | cons key keys ih =>
   intro es ks st Q ek hl h
   induction es using List.casesOn with
   | nil => exact absurd hl (Nat.succ_ne_zero _)
   | cons e es =>
   (refine e43 (strKeys_is ek :) fun k kd kp ks' r => ?_; refine rwm r ?_; intro hk r; refine rwm r ?_)
   exact z32 (EvE.mono (H.ev I (q0a h)) fun v st' h' => TrG.mono (ih hk (Nat.succ.inj hl) (q0a h')) fun vs st'' q => q)
theorem q10 (H : TbOk c lk T) (I : PI P S F) {n : Nat} : ∀ {ss : List Stmt} {ρ : Loc} {st : St} {Q : Fl -> Loc -> St -> Prop}, Sat (q12 T F (ss.map (cS lk n S)) ρ st) (fun p st => Q p.1 p.2 st) X -> ExS c P ρ st ss Q X := by
 intro ss
 induction ss with
 | nil => intro ρ st Q h; exact z6m h
 | cons s ss ih =>
   intro ρ st Q h
   have h := q0a h
   refine q1r (H.ex (Q := fun b ρ' st' => match b with | .next => ExS c P ρ' st' ss Q X | b => Q b ρ' st') I (Sat.mono h fun p st' h' => ?_))
   obtain ⟨b, ρ'⟩ := p
   change Sat (z1d (b, ρ') st' (q12 T F (ss.map (cS lk n S)))) _ _ at h'
   induction b using Fl.casesOn with
   | next => exact ih h'
   | brk => exact h'
   | cont => exact h'
   | ret v => exact h'
inductive TgIs (S : Sx) : Tg -> Expr -> Prop
 | l {x : Str} {p : Pos} : q05 S x = some .local -> TgIs S (.l x) (.Name x p)
 | c {x : Str} {p : Pos} : q05 S x = some .cell -> TgIs S (.c x) (.Name x p)
theorem z8v {t : Expr} {g : Tg} (e : j72 S t = some g) : TgIs S g t := by
 induction t using Expr.casesOn with
 | Name x p =>
   have e : tgK x (q05 S x) = some g := e
   refine q1v (q05 S x) (fun h => ?_) fun k h => ?_
   . rw [h] at e; exact ns e
   .
     rw [h] at e
     cases k with
     | «local» => refine rwb (oi e) ?_; exact .l h
     | cell => refine rwb (oi e) ?_; exact .c h
     | _ => exact ns e
 | _ => exact ns e
theorem z3k {o : Option AO} (h : z68 o = true) : ∃ w, o = some (.cell w) := by
 induction o using Option.casesOn with
 | none => exact ft h
 | some o =>
   induction o using AO.casesOn with
   | cell w => exact ⟨w, rfl⟩
   | _ => exact ft h
theorem z4q {g : Tg} {tgt : Expr} {v : V} {ρ' : Loc} {st' : St} {Q : Loc -> St -> Prop} (I : PI P S F) (ht : S.top = true) (G : TgIs S g tgt) (e : z4d F g v ρ st = some (ρ', st')) (q : Q ρ' st') : z4f c P ρ st tgt v Q := by
 cases G with
 | l h =>
   obtain ⟨rfl, rfl⟩ := Prod.mk.inj (oi e)
   rw [q1s] at q
   exact z1m (I.top ht) ((q0h I _).trans h) q
 | @c x p h =>
   change storeC F x v ρ st = _ at e
   unfold storeC at e
   refine q1v (q0f x F.cn) (fun hn => ?_) fun n hn => ?_
   . rw [hn] at e; exact ns e
   .
     rw [hn] at e
     obtain ⟨hc, e⟩ := q0c e
     obtain ⟨w, hw⟩ := z3k hc
     obtain ⟨rfl, rfl⟩ := Prod.mk.inj (oi e)
     exact z9j ((q0h I _).trans h) (by (refine rwm I.cn ?_; refine rwb (q0b _ _) ?_); exact hn) hw q
theorem tgsOf_is {t : Expr} {ts : List Expr} {gs : List Tg} (h : q4u S (t :: ts) = some gs) : ∃ g gs', j72 S t = some g /\ q4u S ts = some gs' /\ gs = g :: gs' := by
 unfold q4u at h
 refine q1v (j72 S t) (fun h1 => ?_) fun g h1 => ?_
 . rw [h1] at h; exact ns h
 .
   rw [h1] at h
   refine q1v (q4u S ts) (fun h2 => ?_) fun gs' h2 => ?_
   . rw [h2] at h; exact ns h
   . rw [h2] at h; exact ⟨g, gs', rfl, rfl, (oi h).symm⟩
theorem j33 (I : PI P S F) (ht : S.top = true) : ∀ {ts : List Expr} {gs : List Tg} {vs : List V} {ρ : Loc} {st : St} {ρ' : Loc} {st' : St} {Q : Loc -> St -> Prop}, q4u S ts = some gs -> asgL F gs vs ρ st = some (ρ', st') -> Q ρ' st' -> j81 c P ts vs Q ρ st := by
 intro ts
 induction ts with
 | nil =>
   intro gs vs ρ st ρ' st' Q eg e q
   obtain rfl := oi eg
   induction vs using List.casesOn with
   | nil =>
     obtain ⟨rfl, rfl⟩ := Prod.mk.inj (oi e)
     exact q
   | cons => exact ns e
 | cons t ts ih =>
   intro gs vs ρ st ρ' st' Q eg e q
   (refine e23 (tgsOf_is eg :) fun g gs' h1 h2 r => ?_; subst r)
   clear eg
   induction vs using List.casesOn with
   | nil => exact ns e
   | cons v vs =>
     change Option.casesOn (motive := fun W0 => Option (Loc × St)) (z4d F g v ρ st) none (fun p => Prod.casesOn p fun ρ' st' => asgL F gs' vs ρ' st') = _ at e
     refine q1v (z4d F g v ρ st) (fun h => ?_) fun p h => ?_
     . rw [h] at e; exact ns e
     .
       rw [h] at e
       exact z4q I ht (z8v h1) (ρ' := p.1) (st' := p.2) h (ih h2 e q)
theorem z8w : ∀ {ts : List Expr} {gs : List Tg}, q4u S ts = some gs -> gs.length = ts.length := by
 intro ts
 induction ts with
 | nil => intro gs e; refine rwb (oi e) ?_; rfl
 | cons t ts ih =>
   intro gs e
   (refine e23 (tgsOf_is e :) fun g gs' h1 h2 r => ?_; refine rwm r ?_)
   exact congrArg (· + 1) (ih h2)
theorem z38 {v : V} {vs : List V} (h : x17 st v = some vs) : v = .tup vs \/ v = .lst vs \/ ∃ n, v = .ref n /\ st.get n = some (.list vs) := by
 have go : q4r st v = some vs -> v = .tup vs \/ v = .lst vs \/ ∃ n, v = .ref n /\ st.get n = some (.list vs) := fun h => .inr (q0x h)
 induction v using V.casesOn with
 | tup ws => exact .inl (congrArg V.tup (oi h))
 | _ => exact go h
theorem z4r {ts : List Expr} {gs : List Tg} {k : Nat} {p : Pos} {v : V} {ρ' : Loc} {st' : St} {Q : Loc -> St -> Prop} (I : PI P S F) (ht : S.top = true) (hn : F.nh = true) (hs : ts.all q0e = true) (hg : q4u S ts = some gs) (e : asgU F gs v ρ st = some (ρ', st')) (q : Q ρ' st') : z4f c P ρ st (.Tuple ts k p) v Q := by
 refine e12 (obi e :) fun vs h1 e => ?_
 obtain ⟨hl, e⟩ := q0c e
 exact z4s (I.nh.trans hn) hs (z38 h1) ((z8w hg).symm.trans (Nat.eq_of_beq_eq_true hl)) (j33 I ht hg e q)
theorem j51 (H : TbOk c lk T) (I : PI P S F) {n : Nat} {tgt : Expr} {sto : V -> Loc -> St -> Option (Loc × St)} (hst : ∀ {v ρ st ρ' st'} {Q : Loc -> St -> Prop}, sto v ρ st = some (ρ', st') -> Q ρ' st' -> z4f c P ρ st tgt v Q) {body : List Stmt} : ∀ {vs : List V} {ρ : Loc} {st : St} {Q : Fl -> Loc -> St -> Prop}, Sat (j0y T F sto (body.map (cS lk n S)) vs ρ st) (fun p st => Q p.1 p.2 st) X -> j23 c P tgt body Q vs ρ st := by
 intro v
 induction v with
 | nil => intro ρ st Q h; exact h
 | cons v vs ih =>
   intro ρ st Q h
   refine e12 (sat_opt h :) fun p ha h => ?_
   obtain ⟨ρ₁, st₁⟩ := p
   refine hst ha (q10 H I (Q := fun fl ρ₂ st₂ => match fl with
       | .next | .cont => j23 c P tgt body Q vs ρ₂ st₂
       | .brk => Q .next ρ₂ st₂
       | .ret v => Q (.ret v) ρ₂ st₂) (Sat.mono (q08 (X' := noX) h) fun p st' h' => ?_))
   obtain ⟨b, ρ'⟩ := p
   change Sat (j2p (b, ρ') st' (j0y T F sto (body.map (cS lk n S)) vs)) _ _ at h'
   cases b with
     | next => exact ih h'
     | brk => exact h'
     | cont => exact ih h'
     | ret v => exact h'
theorem x2z (H : TbOk c lk T) (I : PI P S F) {n m : Nat} {test : Expr} {body : List Stmt} : ∀ {k : Nat} {ρ : Loc} {st : St} {Q : Fl -> Loc -> St -> Prop}, Sat (whT T F (cE lk m S test) (body.map (cS lk n S)) k ρ st) (fun p st => Q p.1 p.2 st) X -> WhP c P test body Q k ρ st := by
 intro k
 induction k with
 | zero => intro ρ st Q h; exact h
 | succ k ih =>
   intro ρ st Q h
   refine TrG.mono (H.evT I (q08 (X' := noX) h)) fun b st₁ h1 => ?_
   induction b using Bool.casesOn with
   | false => exact h1
   | true =>
     refine q10 H I (Q := fun fl ρ₂ st₂ => match fl with
       | .next | .cont => WhP c P test body Q k ρ₂ st₂
       | .brk => Q .next ρ₂ st₂
       | .ret v => Q (.ret v) ρ₂ st₂) (Sat.mono (q08 (X' := noX) h1) fun p st' h' => ?_)
     obtain ⟨b, ρ'⟩ := p
     change Sat (j2p (b, ρ') st' (whT T F (cE lk m S test) (body.map (cS lk n S)) k)) _ _ at h'
     induction b using Fl.casesOn with
     | next => exact ih h'
     | brk => exact h'
     | cont => exact ih h'
     | ret v => exact h'
theorem j4m {x : SB} {y : List UInt8} {Q : V -> St -> Prop} (hz : x.len + y.length <= 1000000) (q : Q (.sb (.var st.nx (x.len + y.length))) st.nxt) : q4z c P ρ st .Add (.sb x) (.bytes y) Q X := TrG.named fun g pv m ns news h0 s p Qc Ec a hp K => by
 obtain ⟨u, v⟩ := p
 (refine e22 hp.1.sbI fun l t r => ?_; subst r; intro hl)
 exact q8p (b := l) (d := y) (by refine rwm hl.length ?_; exact Nat.le_trans hz (by decide)) (.inr (.inl ⟨l ++ y, rfl, by (refine rwm List.length_append ?_; refine rwm hl.length ?_); exact q⟩)) g pv m ns news h0 s _ Qc Ec a ⟨.bytes l t, hp.2⟩ K
theorem binN_is {op : Operator} {a b : V} {Q : V -> St -> Prop} (h : Sat (binN op a b st) Q X) : ∃ x y, op = .Add /\ a = .sb x /\ b = .bytes y /\ Sat (cond (Nat.ble (x.len + y.length) 1000000) (.ok (.sb (.var st.nx (x.len + y.length))) st.nxt) .bad) Q X := by
 induction op using Operator.casesOn with
 | Add =>
   induction a using V.casesOn with
   | sb x =>
     induction b using V.casesOn with
     | bytes y => exact ⟨x, y, rfl, rfl, rfl, h⟩
     | _ => exact h.elim
   | _ => exact h.elim
 | _ => exact h.elim
theorem j4i {op : Operator} {a b : V} {vc : Bool} {Q : V -> St -> Prop} (h : Sat (binO vc op a b st) Q X) : q4z c P ρ st op a b Q X := by
 unfold binO at h
 refine z3w (binV op a b st) (fun p e => ?_) fun e => ?_
 .
   rw [e] at h
   obtain ⟨q0, v⟩ := p
   obtain ⟨hq, q⟩ := q2o h
   exact j4j e hq q
 .
   rw [e] at h
   change Sat (binN op a b st) Q X at h
   (refine e24 (binN_is h :) fun x y r => ?_; refine rwm r ?_; intro r; refine rwm r ?_; intro r; refine rwm r ?_; intro h)
   obtain ⟨hz, q⟩ := q0s h
   exact j4m (Nat.le_of_ble_eq_true hz) q
theorem z1s (H : TbOk c lk T) (I : PI P S F) {f : Value} {vs : List V} {Q : V -> St -> Prop} (h : Sat (j41 T F f vs st) Q X) : q0i c P ρ st (.prim f) vs Q X := by
 obtain ⟨hn, h⟩ := q0s h
 have hP : P.nh = true := I.nh.trans hn
 have go : Sat (outC T.vc (j40 f vs st)) Q X -> q0i c P ρ st (.prim f) vs Q X := fun h => by
   refine ep2 (sat_opt h :) fun q0 p e h => ?_
   obtain ⟨hq, h⟩ := q2o h
   exact q7j hP e hq h
 induction f using Value.casesOn with
 | ref a => exact z2v.toP (H.call h P ρ I.d I.tn hP)
 | _ => exact go h
theorem j09 (L : LkOk c lk) {f : Value} (h : j6f lk f = true) : q4d c f := by
 induction f using Value.casesOn with
 | ref a => exact q9a (L.keep h)
 | builtin b => exact q0w
 | type t => exact z7f
 | _ => exact ft h
theorem q2x {b : Bool} {x : CE} (h : q20 x = false) : q20 (cond b x .bad) = false := by cases b <;> first | rfl | exact h
theorem q9d {b : Bool} {x : CE} (h : q20 x = false) : q20 (cond b .bad x) = false := by cases b <;> first | rfl | exact h
theorem q3k {ih : Sx -> Expr -> CE} {l : Expr} {C : CE -> Prop} {ops : List CmpOp} {rs : List Expr} (hb : C .bad) (h1 : ∀ op r, ops = [op] -> rs = [r] -> C (cond (behindInMarks op r) .bad (.cmp op (ih S l) (ih S r))))
   (h2 : ∀ o₁ o₂ r₁ r₂, ops = [o₁, o₂] -> rs = [r₁, r₂] -> C (cond (behindInMarks o₂ r₂) .bad (.cmp2 o₁ o₂ (ih S l) (ih S r₁) (ih S r₂)))) : C (cCmp ih S l ops rs) := by
 induction ops using List.casesOn with
 | nil => exact hb
 | cons o ops =>
   induction ops using List.casesOn with
   | nil =>
     induction rs using List.casesOn with
     | nil => exact hb
     | cons r rs =>
       induction rs using List.casesOn with
       | nil => exact h1 o r rfl rfl
       | cons _ _ => exact hb
   | cons o₂ ops =>
     induction ops using List.casesOn with
     | cons _ _ => exact hb
     | nil =>
       induction rs using List.casesOn with
       | nil => exact hb
       | cons r rs =>
         induction rs using List.casesOn with
         | nil => exact hb
         | cons r₂ rs =>
           induction rs using List.casesOn with
           | nil => exact h2 o o₂ r r₂ rfl rfl
           | cons _ _ => exact hb
theorem q19 {ih : Sx -> Expr -> CE} {es : List Expr} {C : CE -> Prop} {f : CE} (hb : C .bad) (h1 : ∀ g, f = .val (.prim g) -> C (cond (j6f lk g && es.all q0e) (.call g (es.map (ih S))) .bad)) : C (z47 lk ih S es f) := by
 cases f with
 | val v =>
   induction v using V.casesOn with
   | prim f => exact h1 f rfl
   | _ => exact hb
 | _ => exact hb
theorem q2r {ih : Sx -> Expr -> CE} {es : List Expr} {C : CE -> Prop} {f : Expr} {ks : List Keyword} {pos : Pos} (hb : C .bad) (h1 : ∀ id p, f = .Name id p -> ks = [] -> C (z47 lk ih S es (q2i lk S id)))
   (h2 : ∀ o name ap, f = .Attribute o name ap -> ks = [] -> C (cond (q2c o && es.all q0e && decide (es.length < 30) && Nat.beq ap.endLine pos.line) (.meth (ih S o) name (es.map (ih S))) .bad)) : C (z46 lk ih S f es ks pos) := by
 induction f using Expr.casesOn with
 | Name id p =>
   induction ks using List.casesOn with
   | nil => exact h1 id p rfl rfl
   | cons => exact hb
 | Attribute o name ap =>
   induction ks using List.casesOn with
   | nil => exact h2 o name ap rfl rfl
   | cons => exact hb
 | _ => exact hb
theorem q3l {ih : Sx -> Expr -> CE} {o e : Expr} {C : CE -> Prop} (h1 : ∀ l u p, e = .Slice l u none p -> C (.sli (ih S o) (z5b ih S l) (z5b ih S u))) (h2 : C (cond (q3u e) (.sub (ih S o) (ih S e)) .bad)) : C (j9o ih S o e) := by
 induction e using Expr.casesOn with
 | Slice l u s p =>
   induction s using Option.casesOn with
   | none => exact h1 l u p rfl
   | some _ => exact h2
 | _ => exact h2
theorem q2s {ih : Sx -> Expr -> CE} {keys : List (Option Expr)} {values : List Expr} {C : CE -> Prop} (hb : C .bad) (h1 : keys = [] -> values = [] -> C .dic0)
   (h2 : ∀ ks, (S.top && keys.all (·.isSome) && decide (keys.length = values.length /\ keys ≠ [] /\ keys.length <= 15)) = true -> q2p keys = some ks -> ks.Nodup -> C (.dic ks (values.map (ih S)))) : C (j4v ih S keys values) := by
 have go : C (cond (S.top && keys.all (·.isSome) && decide (keys.length = values.length /\ keys ≠ [] /\ keys.length <= 15)) (Option.casesOn (motive := fun W0 => CE) (q2p keys) .bad fun ks => cond (decide ks.Nodup) (.dic ks (values.map (ih S))) .bad) .bad) := by
   refine z9u ((S.top && keys.all (·.isSome) && decide (keys.length = values.length /\ keys ≠ [] /\ keys.length <= 15))) (fun hc => ?_) fun hc => ?_
   . exact hb
   .
     refine q1v (q2p keys) (fun hk => ?_) fun ks hk => ?_
     . exact hb
     .
       refine rwm q2l ?_
       dsimp only
       refine z9u (decide ks.Nodup) (fun hd => ?_) fun hd => ?_
       . exact hb
       . exact h2 ks hc hk (of_decide_eq_true hd)
 induction keys using List.casesOn with
 | nil =>
   induction values using List.casesOn with
   | nil => exact h1 rfl rfl
   | cons => exact go
 | cons => exact go
theorem q41 {ih : Sx -> Expr -> CE} {elt : Expr} {gs : List Comprehension} {scope : Scope} {C : CE -> Prop} (hb : C .bad) (h1 : ∀ tgt iter tg, gs = [⟨tgt, iter, [], 0⟩] -> z9w scope tgt = some tg -> q6h scope iter = true -> C (.lc tg scope.names (ih ⟨z78 scope S.sc, false⟩ elt) (ih S iter))) : C (cLc ih S elt gs scope) := by
 induction gs using List.casesOn with
 | nil => exact hb
 | cons g gs =>
   obtain ⟨tgt, iter, ifs, k⟩ := g
   induction ifs using List.casesOn with
   | cons _ _ => cases gs <;> exact hb
   | nil =>
     induction gs using List.casesOn with
     | cons _ _ =>
       induction k using Int.casesOn with
       | negSucc _ => exact hb
       | ofNat k => cases k <;> exact hb
     | nil =>
       induction k using Int.casesOn with
       | negSucc _ => exact hb
       | ofNat k =>
       induction k using Nat.casesOn with
       | succ _ => exact hb
       | zero =>
         change C (cLc1 ih S elt tgt iter scope)
         unfold cLc1
         refine q1v (z9w scope tgt) (fun ht => ?_) fun tg ht => ?_
         . exact hb
         .
           dsimp only
           refine z9u (q6h scope iter) (fun hl => ?_) fun hl => ?_
           . exact hb
           . exact h1 tgt iter tg rfl ht hl
theorem q1q {C : CE -> Prop} {x : Str} {k : Option NameKind} (hb : C .bad) (h1 : k = some .local -> eqS x "__debug__" = false -> C (.loc x)) (h2 : k = some .cell -> eqS x "__debug__" = false -> C (.cel x)) (h3 : k = some .free -> eqS x "__debug__" = false -> eqS x "__classdict__" = false -> C (.cel x))
   (h4 : ∀ v, k = some .globalImplicit -> lk.gl x = some v -> C (.val v)) : C (z5a lk x k) := by
 induction k using Option.casesOn with
 | none => exact hb
 | some k =>
   cases k with
   | «local» =>
     change C (cond (eqS x "__debug__") _ _)
     refine q27 (eqS x "__debug__") (fun hd => ?_) fun hd => ?_
     . exact hb
     . exact h1 rfl hd
   | cell =>
     change C (cond (eqS x "__debug__") _ _)
     refine q27 (eqS x "__debug__") (fun hd => ?_) fun hd => ?_
     . exact hb
     . exact h2 rfl hd
   | free =>
     change C (cond (eqS x "__debug__") _ (cond (eqS x "__classdict__") _ _))
     refine q27 (eqS x "__debug__") (fun hd => ?_) fun hd => ?_
     . exact hb
     .
       refine q27 (eqS x "__classdict__") (fun hc => ?_) fun hc => ?_
       . exact hb
       . exact h3 rfl hd hc
   | globalImplicit =>
     change C (Option.casesOn (motive := fun W0 => CE) (lk.gl x) .bad .val)
     refine q1v (lk.gl x) (fun hg => ?_) fun v hg => ?_
     . exact hb
     . exact h4 v rfl hg
   | globalExplicit => exact hb
theorem q3j {ih : Sx -> Expr -> CE} {l r : Expr} {op : Operator} {C : CE -> Prop} (hb : C .bad) (h1 : C (.bin op (ih S l) (ih S r))) (h2 : ∀ x, op = .Add -> j9e l r = some x -> q00 (q05 S x) = true -> eqS x "__debug__" = false -> C (.be4 x)) : C (cBin ih S l op r) := by
 induction op using Operator.casesOn with
 | Add =>
   change C (Option.casesOn (motive := fun W0 => CE) (j9e l r) _ _)
   refine q1v (j9e l r) (fun hx => ?_) fun x hx => ?_
   . exact h1
   .
     change C (cond (q00 (q05 S x) && !(eqS x "__debug__")) _ _)
     refine z9u (q00 (q05 S x) && !(eqS x "__debug__")) (fun hc => ?_) fun hc => ?_
     . exact hb
     .
       rw [Bool.and_eq_true, Bool.not_eq_true'] at hc
       exact h2 x rfl hx hc.1 hc.2
 | _ => exact h1
theorem z49 {n : Nat} {e : Expr} : q20 (cE lk n S e) = false := by
 induction n using Nat.casesOn with
 | zero => rfl
 | succ n =>
   change q20 (cE1 lk (cE lk n) S e) = false
   induction e using Expr.casesOn with
   | Constant k _ _ => cases k <;> rfl
   | Name x _ => exact q1q (C := fun z => q20 z = false) rfl (fun W0 W0 => rfl) (fun W0 W0 => rfl) (fun W0 W0 W0 => rfl) fun W0 W0 W0 => rfl
   | BinOp l op r _ => exact q3j (C := fun z => q20 z = false) rfl rfl fun W0 W0 W0 W0 W0 => rfl
   | UnaryOp op e _ => cases op <;> rfl
   | Compare l ops rs _ => exact q3k (C := fun z => q20 z = false) rfl (fun W0 W0 W0 W0 => q9d rfl) fun W0 W0 W0 W0 W0 W0 => q9d rfl
   | Call f es ks pos => exact q2r (C := fun z => q20 z = false) rfl (fun W0 W0 W0 W0 => q19 (C := fun z => q20 z = false) rfl fun W0 W0 => q2x rfl) fun W0 W0 W0 W0 W0 => q2x rfl
   | Attribute o x _ => exact q2x rfl
   | Subscript o e _ => exact q3l (C := fun z => q20 z = false) (fun W0 W0 W0 W0 => rfl) (q2x rfl)
   | Tuple es _ _ => exact q2x rfl
   | List es _ => exact q2x rfl
   | Dict keys values _ => exact q2s (C := fun z => q20 z = false) rfl (fun W0 W0 => rfl) fun W0 W0 W0 W0 => rfl
   | ListComp elt gs scope _ => exact q41 (C := fun z => q20 z = false) rfl fun W0 W0 W0 W0 W0 W0 => rfl
   | _ => rfl
theorem z2d (H : TbOk c lk T) (I : PI P S F) {e : Option Expr} {n : Nat} {Q : Option Int -> St -> Prop} (h : Sat (j1v T F (z5b (cE lk n) S e) ρ st) Q X) : q8j c P ρ st e Q X := by
 unfold j1v at h
 induction e using Option.casesOn with
 | none => exact z71 h
 | some e =>
   change Sat (cond (q20 (cE lk n S e)) _ _) _ _ at h
   rw [z49] at h
   refine z72 (EvE.mono (H.ev I (q0a h)) fun v st' h' => ?_)
   refine e12 (sat_ofO h' :) fun i hi h' => ?_
   induction v using V.casesOn with
   | int j => refine rwm (oi hi) ?_; exact ⟨_, rfl, h'⟩
   | _ => exact ns hi
end
theorem j1d {cn0 : List (Str × Nat)} : ∀ {l : List (Str × NameKind)} {acc cn : List (Str × Nat)}, z7h cn0 l acc = some cn -> ∀ p ∈ acc, p ∈ cn := by
 intro l
 induction l with
 | nil => intro acc cn h p hp; exact oi h ▸ hp
 | cons q0 l ih =>
   obtain ⟨a, b⟩ := q0; intro acc cn h p hp
   change cond (q3p b) (Option.casesOn (motive := fun W0 => Option (List (Str × Nat))) (q0f a cn0) none fun i => z7h cn0 l ((a, i) :: acc)) (z7h cn0 l acc) = _ at h
   refine q27 (q3p b) (fun hk => ?_) fun hk => ?_
   .
     rw [hk] at h
     refine q1v (q0f a cn0) (fun hi => ?_) fun i hi => ?_
     . rw [hi] at h; exact ns h
     . rw [hi] at h; exact ih h p (.tail _ hp)
   . rw [hk] at h; exact ih h p hp
theorem z7b (k : NameKind) : (k == .free) = q3p k := by cases k <;> rfl
theorem z29 {env : Env} {A : Str -> Addr} {cn0 : List (Str × Nat)} : ∀ {l : List (Str × NameKind)} {acc cn : List (Str × Nat)}, z7h cn0 l acc = some cn -> (∀ p ∈ cn, env.cells.lookup p.1 = some (A p.1)) ->
   (forIn l (acc.map fun p => (p.1, A p.1)) fun (p : Str × NameKind) (cs : List (Str × Addr)) => (do
     if p.2 == .free then
       let a <- cellOf env p.1
       pure (ForInStep.yield ((p.1, a) :: cs))
     else pure (ForInStep.yield cs) : Sem _)) = pure (cn.map fun p => (p.1, A p.1)) := by
 intro l
 induction l with
 | nil => intro acc cn h _; refine rwm (oi h) ?_; rfl
 | cons q0 r ih =>
   obtain ⟨n, k⟩ := q0; intro acc cn h hA
   rw [List.forIn_cons]
   dsimp only
   refine rwm (z7b _) ?_
   change cond (q3p k) (Option.casesOn (motive := fun W0 => Option (List (Str × Nat))) (q0f n cn0) none fun i => z7h cn0 r ((n, i) :: acc)) (z7h cn0 r acc) = _ at h
   refine q27 (q3p k) (fun hk => ?_) fun hk => ?_
   .
     rw [hk] at h
     refine q1v (q0f n cn0) (fun hi => ?_) fun i hi => ?_
     . rw [hi] at h; exact ns h
     .
       rw [hi] at h
       have hc : cellOf env n = pure (A n) := by unfold cellOf; (refine rwm (hA _ (j1d h (n, i) (.head _))) ?_; rfl)
       (refine rwm (if_pos rfl) ?_; refine rwm hc ?_; refine rwm (pure_bind _ _) ?_)
       exact ih (acc := (n, i) :: acc) h hA
   .
     rw [hk] at h
     refine rwm (if_neg Bool.false_ne_true) ?_
     exact ih h hA
theorem z3a {env : Env} {A : Str -> Addr} {scope : Scope} {cn0 cn : List (Str × Nat)} (h : z7h cn0 scope.names [] = some cn) (hA : ∀ p ∈ cn, env.cells.lookup p.1 = some (A p.1)) : closureFor scope env = pure (cn.map fun p => (p.1, A p.1)) := by
 have := z29 h hA
 unfold closureFor
 simp only [List.map_nil] at this
 refine Eq.trans ?_ this
 (refine rwm (bind_pure _) ?_; rfl)
theorem q2m {e : Expr} (h : q9f e = true) (env : Env) (x : Value) : foldedSetIterable e env x = pure x := by
 cases e <;> first | rfl | exact ft h
theorem j7f {scope out : Scope} {env : Env} (h : env.scope = out) : relabel scope env = z78 scope out := by
 unfold relabel z78 Env.kindOf
 refine rwm h ?_
 congr 1
 refine List.map_congr_left fun p hp => ?_
 obtain ⟨n, k⟩ := p
 show (if (k == .free && out.kind == .function && out.names.lookup n == some .cell) = true then (n, NameKind.cell) else (n, k)) = relP out n k
 unfold relP
 have e1 : (k == NameKind.free) = q3p k := by cases k <;> rfl
 have e2 : (out.kind == ScopeKind.function) = isFn out.kind := by cases out.kind <;> rfl
 have e3 : (out.names.lookup n == some NameKind.cell) = q6z (q0f n out.names) := by
   refine rwm (q0b _ _) ?_
   cases out.names.lookup n with
   | none => rfl
   | some q => cases q <;> rfl
 (refine rwm e1 ?_; refine rwm e2 ?_; refine rwm e3 ?_)
 cases (q3p k && isFn out.kind && q6z (q0f n out.names)) <;> rfl
section
variable {c : Cx} {lk : Lk} {T : Tb} {P : Pt} {S : Sx} {F : Fx} {ρ : Loc} {st : St} {X : Exc}
theorem j1f (L : LkOk c lk) {name : Str} {v : V} {f : Value} (e : j6m lk name v st = some f) : q4d c f /\ q95 c P ρ st name v f [v] st := by
 unfold j6m at e
 refine z3w (q36 st v) (fun p hi => ?_) fun hi => ?_
 .
   obtain ⟨C, fs⟩ := p
   rw [hi] at e
   have e : j6l lk name C fs = some f := e
   unfold j6l at e
   refine q1v (lk.me C name) (fun hm => ?_) fun a hm => ?_
   . rw [hm] at e; exact ns e
   .
     refine z3w (q0f name fs) (fun W0 hf => ?_) fun hf => ?_
     . rw [hm, hf] at e; exact ns e
     .
       rw [hm, hf] at e
       obtain ⟨hk, e⟩ := q0c e
       refine rwb (oi e) ?_
       exact ⟨q9a (L.keep hk), z7j (q43 hi) (L.me _ _ _ hm) (by refine rwb (q0b _ _) ?_; exact hf)⟩
 .
   rw [hi] at e
   induction v using V.casesOn with
   | ref n =>
     have e : x1e name (st.get n) = some f := e
     refine q1v (st.get n) (fun hg => ?_) fun o hg => ?_
     . rw [hg] at e; exact ns e
     .
       rw [hg] at e
       induction o using AO.casesOn with
       | list vs =>
         have e : cond (eqS name "append") _ _ = some f := e
         refine q27 (eqS name "append") (fun hn => ?_) fun hn => ?_
         . rw [hn] at e; obtain rfl := oi e; refine rwm (q3m hn) ?_; exact ⟨q0w, z00 rfl hg⟩
         .
           rw [hn] at e
           obtain ⟨hp, e⟩ := q0c e
           refine rwb (oi e) ?_; refine rwm (q3m hp) ?_; exact ⟨q0w, j1g rfl hg⟩
       | tab _ _ =>
         obtain ⟨hp, e⟩ := q0c (b := eqS name "pop") (r := some (Value.builtin "dict.pop")) (v := f) e
         refine rwb (oi e) ?_; refine rwm (q3m hp) ?_; exact ⟨q0w, z01 rfl hg⟩
       | _ => exact ns e
   | bytes _ =>
     obtain ⟨hp, e⟩ := q0c (b := eqS name "join") (r := some (Value.builtin "bytes.join")) (v := f) e
     refine rwb (oi e) ?_; refine rwm (q3m hp) ?_; exact ⟨q0w, z7k⟩
   | _ => exact ns e
theorem q37 {o : Option NameKind} (h : q00 o = true) : o = some .local := by
 induction o using Option.casesOn with
 | none => exact ft h
 | some k => cases k <;> first | rfl | exact ft h
theorem q2w {scope : Scope} {x : Str} (h : q00 (q0f x scope.names) = true) : scope.names.lookup x = some .local := by
 refine rwb (q0b _ _) ?_; exact q37 h
theorem j4x {scope : Scope} {tgt : Expr} {tg : List Str} (h : z9w scope tgt = some tg) : (∃ x p, tgt = .Name x p /\ scope.names.lookup x = some .local /\ tg = [x]) \/ ∃ x y px py k p, tgt = .Tuple [.Name x px, .Name y py] k p /\ scope.names.lookup x = some .local /\ scope.names.lookup y = some .local /\ tg = [x, y] := by
 induction tgt using Expr.casesOn with
 | Name x p =>
   obtain ⟨hx, e⟩ := q0c h
   exact .inl ⟨x, p, rfl, q2w hx, (oi e).symm⟩
 | Tuple es k p =>
   refine hid fun hG => ?_
   refine e12 (obi (show j9p scope es = some tg from h) :) fun q h1 h => ?_
   refine e12 (obi h :) fun x h2 h => ?_
   refine e12 (obi h :) fun y h3 h => ?_
   obtain ⟨hl, e⟩ := q0c h
   refine hG ?_
   rw [Bool.and_eq_true] at hl
   exact .inr ⟨x.1, y.1, x.2, y.2, k, p, by (refine rwm (two_is h1) ?_; refine rwm (q1n h2) ?_; refine rwm (q1n h3) ?_; rfl), q2w hl.1, q2w hl.2, (oi e).symm⟩
 | _ => exact ns h
theorem j73 {scope : Scope} {tgt : Expr} {tg : List Str} {v : V} {ρ₁ : Loc} (hc : z9w scope tgt = some tg) (e : tgtV tg v = some ρ₁) : TgtK scope tgt v ρ₁ := by
 obtain ⟨x, p, rfl, hx, rfl⟩ | ⟨x, y, px, py, k, p, rfl, hx, hy, rfl⟩ := j4x hc
 . refine rwb (oi e) ?_
   exact .name hx
 . induction v using V.casesOn with
   | tup vs =>
     match vs with
     | [v, w] =>
       refine rwb (oi e) ?_
       rw [q1s]
       exact .pair hx hy
     | [] => exact ns e
     | [_] => exact ns e
     | _ :: _ :: _ :: _ => exact ns e
   | _ => exact ns e
theorem PI.comp (I : PI P S F) {scope : Scope} {cn : List (Str × Nat)} {cl : List (Str × Addr)} {C : Addr} : PI (P.comp scope cl C cn) ⟨z78 scope S.sc, false⟩ (F.comp cn) :=
 ⟨j7f I.sc, rfl, I.d, rfl, I.nh, (fun h => nomatch h), (fun h => nomatch h)⟩
theorem x1a (H : TbOk c lk T) (I : PI P S F) {n : Nat} {scope : Scope} {cn : List (Str × Nat)} {elt tgt : Expr} {tg : List Str} (hc : z9w scope tgt = some tg) : ∀ {vs ys : List V} {st : St} {Q : V -> St -> Prop} {X : Exc}, Sat (lcT T (F.comp cn) tg (cE lk n ⟨z78 scope S.sc, false⟩ elt) vs ys st) Q X -> LcP c P scope cn elt tgt Q vs ys st := by
 intro vs
 induction vs with
 | nil => intro ys st Q X h; exact h
 | cons v vs ih =>
   intro ys st Q X h
   refine e12 (sat_opt h :) fun ρ₁ ht h => ?_
   exact ⟨ρ₁, j73 hc ht, fun cl C => EvE.mono (H.ev I.comp (q08 (X' := noX) h)) fun y st₁ h1 => ih h1⟩
theorem z0s {k : ScopeKind} (h : isFn k = true) : k = .function := by cases k <;> first | rfl | exact ft h
theorem z12 {o : Option Nat} {n : Nat} (h : j03 o n = true) : o = some n := by
 induction o using Option.casesOn with
 | none => exact ft h
 | some m => exact congrArg some (Nat.eq_of_beq_eq_true h)
theorem q94 (I : PI P S F) {scope : Scope} {iter : Expr} {cn : List (Str × Nat)} (hc : z7h F.cn scope.names [] = some cn) (h : q6h scope iter = true) (hn : z5r F cn = true) : LcOk P scope iter cn := by
 unfold q6h at h
 unfold z5r at hn
 simp only [Bool.and_eq_true] at h hn
 refine hid fun hG => ?_
 obtain ⟨⟨⟨h1, h2⟩, h3⟩, h4⟩ := h
 obtain ⟨⟨h5, h6⟩, h7⟩ := hn
 refine hG ?_
 rw [List.all_eq_true] at h2 h4 h6 h7
 refine { hs := q2m h1 P.env, cell := fun y hy e => ?_, kind := z0s h3, names := fun x hx e => ?_, nh := I.nh.trans h5, up := fun p hp => by (refine rwm I.cn ?_; refine rwb (q0b _ _) ?_); exact z12 (h6 p hp), nd := fun p hp => by refine rwb (q0b _ _) ?_; exact z12 (h7 p hp), cl := fun A hA => z3a hc hA }
 . have := h2 y hy
   rw [e] at this
   exact ft this
 have := h4 x hx
 rw [e, Bool.or_eq_true] at this
 rcases this with h | h
 . exact ft h
 . exact q2w h
theorem cLc_inv {ih : Sx -> Expr -> CE} {elt : Expr} {gs : List Comprehension} {scope : Scope} {Q : V -> St -> Prop} {lk' : Lk} (h : Sat (evS lk' T F (cLc ih S elt gs scope) ρ st) Q X) :
   ∃ tgt iter tg, gs = [⟨tgt, iter, [], 0⟩] /\ z9w scope tgt = some tg /\ q6h scope iter = true /\ Sat (lcS T F tg scope.names (ih ⟨z78 scope S.sc, false⟩ elt) (ih S iter) ρ st) Q X := by
 exact q41 (C := fun z => Sat (evS lk' T F z ρ st) Q X -> ∃ tgt iter tg, gs = [⟨tgt, iter, [], 0⟩] /\ z9w scope tgt = some tg /\ q6h scope iter = true /\ Sat (lcS T F tg scope.names (ih ⟨z78 scope S.sc, false⟩ elt) (ih S iter) ρ st) Q X)
   (fun h => h.elim) (fun tgt iter tg e ht hl h => ⟨tgt, iter, tg, e, ht, hl, h⟩) h
theorem lcS_ok (H : TbOk c lk T) (I : PI P S F) {n : Nat} {elt tgt iter : Expr} {tg : List Str} {scope : Scope} {Q : V -> St -> Prop} (ht : z9w scope tgt = some tg) (hb : q6h scope iter = true) (h : Sat (lcS T F tg scope.names (cE lk n ⟨z78 scope S.sc, false⟩ elt) (cE lk n S iter) ρ st) Q X) :
   ∃ cn, LcOk P scope iter cn /\ EvE c P ρ st iter (fun v st₁ => ∃ vs, vs.length <= sizeLine /\ q4l c P v vs /\ LcP c P scope cn elt tgt Q vs [] st₁) X := by
 refine hid fun hG => ?_
 refine e12 (sat_opt h :) fun cn hc h => ?_
 obtain ⟨hok, h⟩ := q0s h
 refine hG ?_
 have K := q94 I hc hb hok
 refine ⟨cn, K, TrG.frz (EvE.mono (H.ev I (q0a h)) fun v st₁ h1 => z0o (Q := fun v st₁ => ∃ vs, vs.length <= sizeLine /\ q4l c P v vs /\ LcP c P scope cn elt tgt Q vs [] st₁) ?_)⟩
 unfold lcI at h1
 refine hid fun hG => ?_
 refine e12 (sat_opt h1 :) fun vs hv h1 => ?_
 obtain ⟨q1, q2⟩ := q3s (c := c) K.nh hv
 refine hG ?_
 exact ⟨vs, q2, q1, x1a H I ht (q08 (X' := noX) h1)⟩
theorem j0g {es : List Expr} {pos : Pos} {Q : V -> St -> Prop} (h : q22 c P ρ st pos es (fun vs st₁ => vs.length <= sizeLine /\ Q (.lst vs) st₁) X) : EvE c P ρ st (.List es pos) Q X :=
 fun W0 W0 W0 W0 W0 W0 W0 W0 W0 W0 a W0 K => wpAny_List (TrG.use (i := ()) h a trivial K fun W0 W0 W0 s1 xs W0 W0 W0 a1 r1 q1 K1 => ⟨by refine rwm r1.length ?_; exact q1.1, by
   refine e23 (a1.newFList r1 :) fun g' news' l a2 r2 => ?_
   exact K1.here (tk := s1.toks) l a2 r2 q1.2⟩)
end
section
variable {c : Cx} {lk : Lk} {T : Tb} {P : Pt} {S : Sx} {F : Fx} {ρ : Loc} {st : St} {X : Exc} {Q : V -> St -> Prop} {n : Nat}
theorem q8v {op : CmpOp} {a b : V} (L : LkOk c lk) {f : Bool -> St -> Prop} (h : Sat (ofO (z9b op a b st) st) f X) : ∃ v, f v st /\ ∀ {Q : V -> St -> Prop} {X : Exc}, Q (.bool v) st -> q1o c P ρ st op a b Q X := by
 refine e12 (sat_ofO h :) fun v hv q => ?_
 exact ⟨v, q, fun q => j46 L.sys hv q⟩
theorem q28 {b : Bool} {x : CE} (h : Sat (evS lk T F (cond b x .bad) ρ st) Q X) : b = true /\ Sat (evS lk T F x ρ st) Q X := by
 induction b using Bool.casesOn with
 | true => exact ⟨rfl, h⟩
 | false => exact h.elim
theorem z1w {b : Bool} {x : CE} (h : Sat (evS lk T F (cond b .bad x) ρ st) Q X) : b = false /\ Sat (evS lk T F x ρ st) Q X := by
 induction b using Bool.casesOn with
 | true => exact h.elim
 | false => exact ⟨rfl, h⟩
theorem q8a {b : Bool} {x : CE} {Q : Bool -> St -> Prop} (h : Sat (q5j T F (cond b x .bad) ρ st) Q X) : b = true /\ Sat (q5j T F x ρ st) Q X := by
 induction b using Bool.casesOn with
 | true => exact ⟨rfl, h⟩
 | false => exact h.elim
theorem z2q {b : Bool} {x : CE} {Q : Bool -> St -> Prop} (h : Sat (q5j T F (cond b .bad x) ρ st) Q X) : b = false /\ Sat (q5j T F x ρ st) Q X := by
 induction b using Bool.casesOn with
 | true => exact h.elim
 | false => exact ⟨rfl, h⟩
theorem q8y (L : LkOk c lk) (I : PI P S F) {x : Str} {pos : Pos} (h : Sat (evS lk T F (q2i lk S x) ρ st) Q X) : EvE c P ρ st (.Name x pos) Q X := by
 have hk := q0h I x
 exact q1q (C := fun z => Sat (evS lk T F z ρ st) Q X -> EvE c P ρ st (.Name x pos) Q X) (fun h => h.elim)
   (fun hx hd h => by
     refine e12 (sat_ofO h :) fun v hv q => ?_
     exact q04 (hk.trans hx) (by refine rwb (q0b _ _) ?_; exact hv) q (q6v hd))
   (fun hx hd h => by
     refine hid fun hG => ?_
     refine e12 (sat_ofO h :) fun v hv q => ?_
     refine e12 (cellV_eq I hv :) fun m h1 h2 => ?_
     refine hG ?_
     exact z6b (hk.trans hx) h1 h2 q (q6v hd))
   (fun hx hd hd2 h => by
     refine e12 (sat_ofO h :) fun v hv q => ?_
     refine e12 (cellV_eq I hv :) fun m h1 h2 => ?_
     exact j5q (hk.trans hx) h1 h2 q (q6v hd) (q6v hd2))
   (fun v hx hg h => L.gl x v hg P (hk.trans hx) ρ st Q X pos h) h
theorem q2j (L : LkOk c lk) (I : PI P S F) {x : Str} {pos : Pos} {v : V} (e : q2i lk S x = .val v) (q : Q v st) : EvE c P ρ st (.Name x pos) Q X :=
 q8y (T := badT false) L I (by refine rwm e ?_; exact q)
theorem z3e {k : Const} {m : Nat} {pos : Pos} (h : Sat (evS lk T F (z48 k) ρ st) Q X) : EvE c P ρ st (.Constant k m pos) Q X := by
 cases k with
 | int i => exact q6w h
 | bool b => exact z0k h
 | none => exact z6f h
 | str s => exact z6g h
 | bytes b => exact z1v h
 | _ => exact h.elim
theorem z2m {α : Type} {vc t : Bool} {r o : Out α} {Q : α -> St -> Prop} {X : Exc} (h : Sat (brk2 vc t r o) Q X) : Sat (cond t r o) Q X := by
 induction vc using Bool.casesOn with
 | false => exact h
 | true =>
   obtain ⟨h1, h2⟩ := h
   refine rwm h1 ?_
   exact h2
theorem j5m (H : TbOk c lk T) (I : PI P S F) {op : UnaryOp} {e : Expr} {pos : Pos} (h : Sat (evS lk T F (cUn (cE lk n) S op e) ρ st) Q X) : EvE c P ρ st (.UnaryOp op e pos) Q X := by
 induction op using UnaryOp.casesOn with
 | USub =>
   refine x0e (EvE.mono (H.ev I (q0a h)) fun v st h => ?_)
   refine e12 (sat_ofO h :) fun w hw q => ?_
   induction v using V.casesOn with
   | int i => obtain rfl := oi hw; exact ⟨_, rfl, q⟩
   | _ => exact ns hw
 | Not =>
   exact x0f (EvE.mono (H.ev I (q0a h)) fun v st h => by
     refine e12 (sat_ofO (q0a h) :) fun b hb q => ?_
     exact q58 hb q)
 | _ => exact h.elim
theorem j0c (L : LkOk c lk) (H : TbOk c lk T) (I : PI P S F) {l : Expr} {ops : List CmpOp} {rs : List Expr} {pos : Pos} (h : Sat (evS lk T F (cCmp (cE lk n) S l ops rs) ρ st) Q X) : EvE c P ρ st (.Compare l ops rs pos) Q X := by
 refine q3k (C := fun z => Sat (evS lk T F z ρ st) Q X -> EvE c P ρ st (.Compare l ops rs pos) Q X) (fun h => h.elim) (fun op r e1 e2 h => ?_) (fun o₁ o₂ r₁ r₂ e1 e2 h => ?_) h
 . subst e1 e2
   obtain ⟨hm, h⟩ := z1w h
   exact x0c hm (EvE.mono (H.ev I (q0a h)) fun a st h => EvE.mono (H.ev I (q0a h)) fun b st h => by
     refine e12 (q8v (P := P) (ρ := ρ) L (q0a h) :) fun v q k => ?_
     exact k q)
 . subst e1 e2
   obtain ⟨hm, h⟩ := z1w h
   exact j5o hm (EvE.mono (H.ev I (q0a h)) fun a st h => EvE.mono (H.ev I (q0a h)) fun b st h => by
     refine e12 (q8v (P := P) (ρ := ρ) L (q0a h) :) fun v q k => ?_
     refine k (q2e ?_)
     have q := z2m q
     induction v using Bool.casesOn with
     | true =>
       refine EvE.mono (H.ev I (q0a q)) fun d st h => ?_
       refine e12 (q8v (P := P) (ρ := ρ) L (q0a h) :) fun v q k => ?_
       exact k q
     | false => exact q)
theorem z56 (L : LkOk c lk) (H : TbOk c lk T) (I : PI P S F) {f : Expr} {es : List Expr} {ks : List Keyword} {pos : Pos} (h : Sat (evS lk T F (z46 lk (cE lk n) S f es ks pos) ρ st) Q X) : EvE c P ρ st (.Call f es ks pos) Q X := by
 refine q2r (C := fun z => Sat (evS lk T F z ρ st) Q X -> EvE c P ρ st (.Call f es ks pos) Q X) (fun h => h.elim) (fun id p e1 e2 h => ?_) (fun o name ap e1 e2 h => ?_) h
 . subst e1 e2
   refine q19 (C := fun z => Sat (evS lk T F z ρ st) Q X -> EvE c P ρ st (.Call (.Name id p) es [] pos) Q X) (fun h => h.elim) (fun f hf h => ?_) h
   obtain ⟨hk, h⟩ := q28 h
   rw [Bool.and_eq_true] at hk
   exact q5k (j09 L hk.1) hk.2 (q2j L I hf ⟨rfl, TrG.mono (q3i H I hk.2 (q0a h)) fun vs st h => z1s H I h⟩)
 . subst e1 e2
   refine hid fun hG => ?_
   obtain ⟨hc, h⟩ := q28 h
   rw [Bool.and_eq_true, Bool.and_eq_true, Bool.and_eq_true] at hc
   obtain ⟨⟨⟨h1, h2⟩, h3⟩, h4⟩ := hc
   refine hG ?_
   refine z6e h1 h2 (of_decide_eq_true h3) (by refine rwm (Nat.eq_of_beq_eq_true h4) ?_; exact beq_self_eq_true _) (EvE.mono (H.ev I (q0a h)) fun v st h => ?_)
   refine hid fun hG => ?_
   refine e12 (sat_opt h :) fun f hf h => ?_
   obtain ⟨k, m⟩ := j1f (P := P) (ρ := ρ) L hf
   refine hG ?_
   exact ⟨f, [v], st, m, k, TrG.mono (q3i H I h2 (q0a h)) fun vs st h => z1s H I h⟩
theorem z54 (L : LkOk c lk) (H : TbOk c lk T) (I : PI P S F) {o : Expr} {x : Str} {pos : Pos} (hn : q2c o = true) (h : Sat (j3c lk T F (cE lk n S o) x ρ st) Q X) : EvE c P ρ st (.Attribute o x pos) Q X := by
 refine z0j hn (EvE.mono (H.ev I (q0a h)) fun v st h => ?_)
 refine q1v (q36 st v) (fun hi => ?_) fun p hi => ?_
 . rw [hi] at h; exact h.elim
 .
   rw [hi] at h
   refine hid fun hG => ?_
   obtain ⟨C, fs⟩ := p
   obtain ⟨ha, h⟩ := q0s h
   refine e12 (sat_opt h :) fun w hw h => ?_
   obtain ⟨hc, h⟩ := q0s h
   refine hG ?_
   exact ⟨C, fs, w, q43 hi, (L.at_ _ _ ha).1, by refine rwb (q0b _ _) ?_; exact hw, hc, h⟩
theorem j0e (H : TbOk c lk T) (I : PI P S F) {o e : Expr} {pos : Pos} (h : Sat (evS lk T F (j9o (cE lk n) S o e) ρ st) Q X) : EvE c P ρ st (.Subscript o e pos) Q X := by
 refine q3l (C := fun z => Sat (evS lk T F z ρ st) Q X -> EvE c P ρ st (.Subscript o e pos) Q X) (fun l u p e1 h => ?_) (fun h => ?_) h
 . subst e1
   exact j0i (EvE.mono (H.ev I (q0a h)) fun v st h => TrG.mono (z2d H I (q0a h)) fun lo st h => TrG.mono (z2d H I (q0a h)) fun hi st h => by
     refine e23 (sat_ofP h :) fun q0 w hw hq q => ?_
     exact x18 hw hq q)
 . obtain ⟨hs, h⟩ := q28 h
   exact q8z hs (EvE.mono (H.ev I (q0a h)) fun v st h => EvE.mono (H.ev I (q0a h)) fun i st h => by
     refine e23 (sat_ofP h :) fun q0 w hw hq q => ?_
     exact q78 hw hq q)
theorem q77 {n : Nat} (h : small n = true) : n <= sizeLine := q21 (Nat.le_of_ble_eq_true h)
theorem z57 (H : TbOk c lk T) (I : PI P S F) {keys : List (Option Expr)} {values : List Expr} {pos : Pos} (h : Sat (evS lk T F (j4v (cE lk n) S keys values) ρ st) Q X) : EvE c P ρ st (.Dict keys values pos) Q X := by
 refine q2s (C := fun z => Sat (evS lk T F z ρ st) Q X -> EvE c P ρ st (.Dict keys values pos) Q X) (fun h => h.elim) (fun e1 e2 h => ?_) (fun ks hc hk hnd h => ?_) h
 . subst e1 e2
   exact j0f h
 . rw [Bool.and_eq_true, Bool.and_eq_true] at hc
   refine hid fun hG => ?_
   obtain ⟨⟨h1, h2⟩, h3⟩ := hc
   refine e03 (of_decide_eq_true h3 :) fun h3 h4 h5 => ?_
   refine hG ?_
   exact j5p (I.top h1) h2 h3 h4 h5 hnd (TrG.mono (j1u H I hk h3 (q08 (X' := noX) h)) fun vs st h => h)
theorem j5h (H : TbOk c lk T) (I : PI P S F) {elt : Expr} {gs : List Comprehension} {scope : Scope} {pos : Pos} (h : Sat (evS lk T F (cLc (cE lk n) S elt gs scope) ρ st) Q X) : EvE c P ρ st (.ListComp elt gs scope pos) Q X := by
 (refine e34 (cLc_inv h :) fun tgt iter tg r => ?_; refine rwm r ?_; intro ht hb h)
 refine e12 (lcS_ok H I ht hb h :) fun cn K E => ?_
 exact ev_lc K E
theorem j4h {v : Option V} (h : Sat (be4V v st) Q X) : ∃ k c z d, v = some (.sb (.icmp k c z d)) /\ Q z.toV st := by
 induction v using Option.casesOn with
 | none => exact h.elim
 | some v =>
   induction v using V.casesOn with
   | sb b =>
     induction b using SB.casesOn with
     | icmp k c z d => exact ⟨k, c, z, d, rfl, h⟩
     | _ => exact h.elim
   | _ => exact h.elim
theorem z55 (H : TbOk c lk T) (I : PI P S F) {l r : Expr} {op : Operator} {pos : Pos} (h : Sat (evS lk T F (cBin (cE lk n) S l op r) ρ st) Q X) : EvE c P ρ st (.BinOp l op r pos) Q X := by
 refine q3j (C := fun z => Sat (evS lk T F z ρ st) Q X -> EvE c P ρ st (.BinOp l op r pos) Q X) (fun h => h.elim) (fun h => ?_) (fun x e hb hl hd h2 => ?_) h
 . exact q4e (EvE.mono (H.ev I (q0a h)) fun a st h => EvE.mono (H.ev I (q0a h)) fun b st h => j4i h)
 . subst e
   refine e42 (j4h (v := q0f x ρ) h2 :) fun k cd z d hx h => ?_
   exact x0b ((q0h I x).trans (q37 hl)) (q6v hd) hb (by refine rwb (q0b _ _) ?_; exact hx) h
theorem j3d (L : LkOk c lk) (H : TbOk c lk T) (I : PI P S F) {e : Expr} (h : Sat (evS lk T F (cE lk n S e) ρ st) Q X) : EvE c P ρ st e Q X := by
 induction n using Nat.casesOn with
 | zero => exact h.elim
 | succ n =>
 change Sat (evS lk T F (cE1 lk (cE lk n) S e) ρ st) Q X at h
 cases e with
 | Constant k m p => exact z3e h
 | Name x p => exact q8y L I h
 | BinOp l op r p => exact z55 H I h
 | UnaryOp op e p => exact j5m H I h
 | BoolOp op es p => exact z6a (j9l H I h)
 | IfExp t b o p => exact j0h (TrG.mono (H.evT I (q0a h)) fun x st h => by
     induction x using Bool.casesOn with
     | true => exact H.ev I h
     | false => exact H.ev I h)
 | Compare l ops rs p => exact j0c L H I h
 | Call f es ks p => exact z56 L H I h
 | Attribute o x p =>
   obtain ⟨hn, h⟩ := q28 h
   exact z54 L H I hn h
 | Subscript o e p => exact j0e H I h
 | Tuple es k p =>
   obtain ⟨hn, h⟩ := q28 h
   exact j0j (TrG.mono (q3i H I hn (q0a h)) fun vs st h => ⟨q77 (q0s h).1, (q0s h).2⟩)
 | List es p =>
   obtain ⟨hn, h⟩ := q28 h
   exact j0g (TrG.mono (q3i H I hn (q0a h)) fun vs st h => ⟨q77 (q0s h).1, (q0s h).2⟩)
 | Dict ks vs p => exact z57 H I h
 | ListComp elt gs sc p => exact j5h H I h
 | _ => exact h.elim
theorem j2n (L : LkOk c lk) (H : TbOk c lk T) (I : PI P S F) {l : Expr} {ops : List CmpOp} {rs : List Expr} {pos : Pos} {Q : Bool -> St -> Prop} (h : Sat (q5j T F (cCmp (cE lk n) S l ops rs) ρ st) Q X) : EvT c P ρ st (.Compare l ops rs pos) Q X := by
 refine q3k (C := fun z => Sat (q5j T F z ρ st) Q X -> EvT c P ρ st (.Compare l ops rs pos) Q X) (fun h => h.elim) (fun op r e1 e2 h => ?_) (fun o₁ o₂ r₁ r₂ e1 e2 h => ?_) h
 . subst e1 e2
   obtain ⟨hm, h⟩ := z2q h
   exact j5l hm (EvE.mono (H.ev I (q0a h)) fun a st h => EvE.mono (H.ev I (q0a h)) fun b st h => by
     refine e12 (q8v (P := P) (ρ := ρ) L h :) fun v q k => ?_
     exact k (q2e q))
 . subst e1 e2
   obtain ⟨hm, h⟩ := z2q h
   exact z1u hm (EvE.mono (H.ev I (q0a h)) fun a st h => EvE.mono (H.ev I (q0a h)) fun b st h => by
     refine e12 (q8v (P := P) (ρ := ρ) L (q0a h) :) fun v q k => ?_
     refine k (q2e ?_)
     have q := z2m q
     induction v using Bool.casesOn with
     | true =>
       refine EvE.mono (H.ev I (q0a q)) fun d st h => ?_
       refine e12 (q8v (P := P) (ρ := ρ) L h :) fun v q k => ?_
       exact k (q2e q)
     | false => exact q)
theorem q47 (H : TbOk c lk T) (I : PI P S F) {e : Expr} {m : Nat} {Q : Bool -> St -> Prop} (he : ∀ env whole, isTrue e env whole = (do let v <- whole; standAt e.pos; holding [v] (truthy v))) (h : Sat (q6n T F (cE lk m S e) ρ st) Q X) : EvT c P ρ st e Q X :=
 z59 he (EvE.mono (H.ev I (q0a h)) fun v st h => by
   refine e12 (sat_ofO h :) fun b hb q => ?_
   exact q58 hb q)
theorem q69 {e : Expr} {v : V} {Q : Bool -> St -> Prop} (he : ∀ env whole, isTrue e env whole = (do let v <- whole; standAt e.pos; holding [v] (truthy v))) (hv : ∀ {Q : V -> St -> Prop}, Q v st -> EvE c P ρ st e Q X) (h : Sat (ofO (j8a v) st) Q X) : EvT c P ρ st e Q X :=
 z59 he (hv (by
   refine e12 (sat_ofO h :) fun b hb q => ?_
   exact q58 hb q))
theorem z80 (L : LkOk c lk) (H : TbOk c lk T) (I : PI P S F) {x : Str} {pos : Pos} {Q : Bool -> St -> Prop} (h : Sat (q5j T F (q2i lk S x) ρ st) Q X) : EvT c P ρ st (.Name x pos) Q X := by
 have go : ∀ {z : CE}, z = cE lk 1 S (.Name x pos) -> Sat (q6n T F z ρ st) Q X -> EvT c P ρ st (.Name x pos) Q X := fun e h => q47 (m := 1) H I (fun W0 W0 => rfl) (e ▸ h)
 have hE : z5a lk x (q05 S x) = cE lk 1 S (.Name x pos) := rfl
 refine q1q (C := fun z => z = cE lk 1 S (.Name x pos) -> Sat (q5j T F z ρ st) Q X -> EvT c P ρ st (.Name x pos) Q X) (fun W0 h => h.elim) (fun W0 W0 e h => go e h) (fun W0 W0 e h => go e h) (fun W0 W0 W0 e h => go e h) (fun v hx hg W0 h => ?_) hE h
 exact q69 (fun W0 W0 => rfl) (fun q => L.gl x v hg P ((q0h I x).trans hx) ρ st _ X pos q) h
theorem z4b {k : Const} {m : Nat} {pos : Pos} {Q : Bool -> St -> Prop} (h : Sat (q5j T F (z48 k) ρ st) Q X) : EvT c P ρ st (.Constant k m pos) Q X := by
 cases k with
 | int i => exact q69 (fun W0 W0 => rfl) (fun q => q6w q) h
 | bool b => exact q69 (fun W0 W0 => rfl) (fun q => z0k q) h
 | none => exact q69 (fun W0 W0 => rfl) (fun q => z6f q) h
 | str s => exact q69 (fun W0 W0 => rfl) (fun q => z6g q) h
 | bytes b => exact q69 (fun W0 W0 => rfl) (fun q => z1v q) h
 | _ => exact h.elim
theorem z8z (H : TbOk c lk T) (I : PI P S F) {f : Expr} {es : List Expr} {ks : List Keyword} {pos : Pos} {Q : Bool -> St -> Prop} (h : Sat (q5j T F (z46 lk (cE lk n) S f es ks pos) ρ st) Q X) : EvT c P ρ st (.Call f es ks pos) Q X := by
 have go : ∀ {z : CE}, z = cE lk (n + 1) S (.Call f es ks pos) -> Sat (q6n T F z ρ st) Q X -> EvT c P ρ st (.Call f es ks pos) Q X := fun e h => q47 (m := n + 1) H I (fun W0 W0 => rfl) (e ▸ h)
 have gc : ∀ {b : Bool} {z : CE}, cond b z .bad = cE lk (n + 1) S (.Call f es ks pos) -> (Sat (q5j T F z ρ st) Q X -> Sat (q6n T F z ρ st) Q X) -> Sat (q5j T F (cond b z .bad) ρ st) Q X -> EvT c P ρ st (.Call f es ks pos) Q X := fun {b z} e k h => by
   induction b using Bool.casesOn with
   | false => exact h.elim
   | true => exact go e (k h)
 have hE : z46 lk (cE lk n) S f es ks pos = cE lk (n + 1) S (.Call f es ks pos) := rfl
 refine q2r (C := fun z => z = cE lk (n + 1) S (.Call f es ks pos) -> Sat (q5j T F z ρ st) Q X -> EvT c P ρ st (.Call f es ks pos) Q X) (fun W0 h => h.elim) (fun id p W0 W0 => ?_) (fun o name ap W0 W0 e h => gc e (fun h => h) h) hE h
 exact q19 (C := fun z => z = cE lk (n + 1) S (.Call f es ks pos) -> Sat (q5j T F z ρ st) Q X -> EvT c P ρ st (.Call f es ks pos) Q X) (fun W0 h => h.elim) (fun g hf e h => gc e (fun h => h) h)
theorem z8y (H : TbOk c lk T) (I : PI P S F) {o : Expr} {x : Str} {pos : Pos} {Q : Bool -> St -> Prop} (h : Sat (q5j T F (cond (q2c o) (.attr (cE lk n S o) x) .bad) ρ st) Q X) : EvT c P ρ st (.Attribute o x pos) Q X := by
 have hE : cE lk (n + 1) S (.Attribute o x pos) = cond (q2c o) (.attr (cE lk n S o) x) .bad := rfl
 obtain ⟨hk, h⟩ := q8a h
 refine q47 (m := n + 1) H I (fun W0 W0 => rfl) ?_
 (refine rwm hE ?_; refine rwm hk ?_)
 exact h
theorem j2o (H : TbOk c lk T) (I : PI P S F) {o e : Expr} {pos : Pos} {Q : Bool -> St -> Prop} (h : Sat (q5j T F (j9o (cE lk n) S o e) ρ st) Q X) : EvT c P ρ st (.Subscript o e pos) Q X := by
 have hE : j9o (cE lk n) S o e = cE lk (n + 1) S (.Subscript o e pos) := rfl
 refine q3l (C := fun z => z = cE lk (n + 1) S (.Subscript o e pos) -> Sat (q5j T F z ρ st) Q X -> EvT c P ρ st (.Subscript o e pos) Q X) (fun W0 W0 W0 W0 W0 h => h.elim) (fun hE h => ?_) hE h
 obtain ⟨hk, h⟩ := q8a h
 rw [hk] at hE
 exact q47 (m := n + 1) H I (fun W0 W0 => rfl) (hE ▸ h)
theorem j5k (L : LkOk c lk) (H : TbOk c lk T) (I : PI P S F) {e : Expr} {Q : Bool -> St -> Prop} (h : Sat (q5j T F (cE lk n S e) ρ st) Q X) : EvT c P ρ st e Q X := by
 induction n using Nat.casesOn with
 | zero => exact h.elim
 | succ n =>
 change Sat (q5j T F (cE1 lk (cE lk n) S e) ρ st) Q X at h
 induction e using Expr.casesOn with
 | Constant k m p => exact z4b h
 | Name x p => exact z80 L H I h
 | BinOp l op r p => exact q3j (C := fun z => Sat (q5j T F z ρ st) Q X -> EvT c P ρ st (.BinOp l op r p) Q X) (fun h => h.elim) (fun h => h.elim) (fun W0 W0 W0 W0 W0 h => h.elim) h
 | UnaryOp op e p =>
   induction op using UnaryOp.casesOn with
   | Not => exact z58 (TrG.mono (H.evT I (q0a h)) fun b st h => h)
   | _ => exact h.elim
 | BoolOp op es p => exact q7q (j3z H I h)
 | Compare l ops rs p => exact j2n L H I h
 | Call f es ks p => exact z8z H I h
 | Attribute o x p => exact z8y H I h
 | Subscript o e p => exact j2o H I h
 | Tuple es k p => exact (q8a h).2.elim
 | List es p => exact (q8a h).2.elim
 | Dict ks vs p => exact q2s (C := fun z => Sat (q5j T F z ρ st) Q X -> EvT c P ρ st (.Dict ks vs p) Q X) (fun h => h.elim) (fun W0 W0 h => h.elim) (fun W0 W0 W0 W0 h => h.elim) h
 | ListComp elt gs sc p => exact q41 (C := fun z => Sat (q5j T F z ρ st) Q X -> EvT c P ρ st (.ListComp elt gs sc p) Q X) (fun h => h.elim) (fun W0 W0 W0 W0 W0 W0 h => h.elim) h
 | _ => exact h.elim
noncomputable def kd : CE -> Nat
 | .not _ => 1
 | .boo _ _ => 2
 | .cmp2 .. => 3
 | _ => 0
theorem q38 {b : Bool} {x : CE} (h : kd x = 0) : kd (cond b x .bad) = 0 := by cases b <;> first | rfl | exact h
theorem j08 {b : Bool} {x : CE} (h : kd x = 0) : kd (cond b .bad x) = 0 := by cases b <;> first | rfl | exact h
theorem cE_kd {n : Nat} {e : Expr} (hne : kd (cE lk n S e) ≠ 0) : ∃ m, n = m + 1 /\ ((∃ e₀ pos, e = .UnaryOp .Not e₀ pos) \/ (∃ op es pos, e = .BoolOp op es pos) \/ ∃ l o₁ o₂ r₁ r₂ pos, e = .Compare l [o₁, o₂] [r₁, r₂] pos /\ behindInMarks o₂ r₂ = false) := by
 induction n using Nat.casesOn with
 | zero => exact absurd rfl hne
 | succ n =>
   refine ⟨n, rfl, ?_⟩
   change kd (cE1 lk (cE lk n) S e) ≠ 0 at hne
   induction e using Expr.casesOn with
   | UnaryOp op e p =>
     induction op using UnaryOp.casesOn with
     | Not => exact .inl ⟨_, _, rfl⟩
     | _ => exact absurd rfl hne
   | BoolOp op es p => exact .inr (.inl ⟨_, _, _, rfl⟩)
   | Compare l ops rs p =>
     refine q3k (C := fun z => kd z ≠ 0 -> _ \/ _ \/ ∃ l' o₁ o₂ r₁ r₂ pos, Expr.Compare l ops rs p = .Compare l' [o₁, o₂] [r₁, r₂] pos /\ behindInMarks o₂ r₂ = false) (fun h => absurd rfl h) (fun op r e1 e2 h => absurd (j08 rfl) h) (fun o₁ o₂ r₁ r₂ e1 e2 h => ?_) hne
     subst e1 e2
     refine .inr (.inr ⟨_, _, _, _, _, _, rfl, ?_⟩)
     refine z9u (behindInMarks o₂ r₂) (fun hb => ?_) fun hb => ?_
     . rfl
     . rw [hb] at h; exact absurd rfl h
   | Constant k m p => exact absurd (by cases k <;> rfl) hne
   | Name x p => exact absurd (q1q (C := fun z => kd z = 0) rfl (fun W0 W0 => rfl) (fun W0 W0 => rfl) (fun W0 W0 W0 => rfl) fun W0 W0 W0 => rfl) hne
   | BinOp l op r p => exact absurd (q3j (C := fun z => kd z = 0) rfl rfl fun W0 W0 W0 W0 W0 => rfl) hne
   | Call f es ks p => exact absurd (q2r (C := fun z => kd z = 0) rfl (fun W0 W0 W0 W0 => q19 (C := fun z => kd z = 0) rfl fun W0 W0 => q38 rfl) fun W0 W0 W0 W0 W0 => q38 rfl) hne
   | Attribute o x p => exact absurd (q38 rfl) hne
   | Subscript o e p => exact absurd (q3l (C := fun z => kd z = 0) (fun W0 W0 W0 W0 => rfl) (q38 rfl)) hne
   | Tuple es k p => exact absurd (q38 rfl) hne
   | List es p => exact absurd (q38 rfl) hne
   | Dict ks vs p => exact absurd (q2s (C := fun z => kd z = 0) rfl (fun W0 W0 => rfl) fun W0 W0 W0 W0 => rfl) hne
   | ListComp elt gs sc p => exact absurd (q41 (C := fun z => kd z = 0) rfl fun W0 W0 W0 W0 W0 W0 => rfl) hne
   | _ => exact absurd rfl hne
theorem z17 (H : TbOk c lk T) (I : PI P S F) {e : Expr} {pol : Bool} {Q : Unit -> St -> Prop} (h : Sat (ndD T F pol (cE lk n S e) ρ st) Q X) : EvT c P ρ st e (fun b st' => b = pol /\ Q () st') X :=
 TrG.mono (H.evT I (q0a h)) fun b st h => ⟨eq_of_beq (q2o h).1, (q2o h).2⟩
theorem z16 (H : TbOk c lk T) (I : PI P S F) {op : BoolOp} {pol : Bool} (hp : (op = .And /\ pol = true) \/ (op = .Or /\ pol = false)) : ∀ {es : List Expr} {st : St} {Q : Unit -> St -> Prop}, Sat (j6o T F pol (es.map (cE lk n S)) ρ st) Q X -> q7b c P ρ st op es (fun b st' => b = pol /\ Q () st') X := by
 intro es
 induction es with
 | nil =>
   intro st Q h
   rcases hp with ⟨rfl, rfl⟩ | ⟨rfl, rfl⟩
   . exact q5b ⟨rfl, h⟩
   . exact q6q ⟨rfl, h⟩
 | cons e es ih =>
   intro st Q h
   have h := q0a h
   rcases hp with ⟨rfl, rfl⟩ | ⟨rfl, rfl⟩
   . exact z4j (TrG.mono (H.nd I h) fun b st' h' => by
       obtain ⟨rfl, h'⟩ := h'
       exact ih h')
   . exact j25 (TrG.mono (H.nd I h) fun b st' h' => by
       obtain ⟨rfl, h'⟩ := h'
       exact ih h')
theorem x1h (L : LkOk c lk) (H : TbOk c lk T) (I : PI P S F) {e : Expr} {pol : Bool} {Q : Unit -> St -> Prop} (h : Sat (ndS T F pol (cE lk n S e) ρ st) Q X) : EvT c P ρ st e (fun b st' => b = pol /\ Q () st') X := by
 by_cases hk : kd (cE lk n S e) = 0
 . have : ndS T F pol (cE lk n S e) ρ st = ndD T F pol (cE lk n S e) ρ st := by
     generalize cE lk n S e = z at hk
     cases z <;> first | rfl | exact absurd hk (Nat.succ_ne_zero _)
   rw [this] at h
   exact z17 H I h
 . obtain ⟨m, rfl, ⟨e₀, pos, rfl⟩ | ⟨op, es, pos, rfl⟩ | ⟨l, o₁, o₂, r₁, r₂, pos, rfl, hb⟩⟩ := cE_kd hk
   . exact z58 (TrG.mono (H.nd (n := m) (pol := !pol) I h) fun b st h => ⟨by (refine rwm h.1 ?_; refine rwm (Bool.not_not _) ?_; rfl), h.2⟩)
   . induction op using BoolOp.casesOn with
     | And =>
       induction pol using Bool.casesOn with
       | true => exact q7q (z16 H I (.inl ⟨rfl, rfl⟩) h)
       | false => exact z17 (n := m + 1) H I h
     | Or =>
       induction pol using Bool.casesOn with
       | true => exact z17 (n := m + 1) H I h
       | false => exact q7q (z16 H I (.inr ⟨rfl, rfl⟩) h)
   . have e1 : cE lk (m + 1) S (.Compare l [o₁, o₂] [r₁, r₂] pos) = .cmp2 o₁ o₂ (cE lk m S l) (cE lk m S r₁) (cE lk m S r₂) := by
       show cond (behindInMarks o₂ r₂) CE.bad _ = _
       refine rwm hb ?_
       rfl
     induction pol using Bool.casesOn with
     | false =>
       rw [e1] at h
       refine z17 (n := m + 1) H I ?_
       refine rwm e1 ?_
       exact h
     | true =>
       rw [e1] at h
       exact z1u hb (EvE.mono (H.ev I (q0a h)) fun a st h => EvE.mono (H.ev I (q0a h)) fun b st h => by
         refine hid fun hG => ?_
         refine e12 (q8v (P := P) (ρ := ρ) L (q0a h) :) fun v q k => ?_
         obtain ⟨hv, q⟩ := q2o q
         refine hG ?_
         refine k (q2e ?_)
         refine rwm hv ?_
         refine EvE.mono (H.ev I (q0a q)) fun d st h => ?_
         refine e12 (q8v (P := P) (ρ := ρ) L (q0a h) :) fun v q k => ?_
         exact k (q2e (q2o q)))
theorem j5i (L : LkOk c lk) (H : TbOk c lk T) (I : PI P S F) {e : Expr} (h : Sat (evS lk T F (cNl (cE lk n) S e) ρ st) Q X) : EvE c P ρ st e Q X := by
 induction e using Expr.casesOn with
 | List es p =>
   obtain ⟨hs, h⟩ := q28 h
   exact z6d (TrG.mono (q3i H I hs (q0a h)) fun vs st h => ⟨q77 (q0s h).1, (q0s h).2⟩)
 | _ => exact j3d L H I h
theorem j0d (H : TbOk c lk T) (I : PI P S F) {elt : Expr} {gs : List Comprehension} {scope : Scope} (h : Sat (evS lk T F (cLc (cE lk n) S elt gs scope) ρ st) Q X) : LcIs c P ρ st elt gs scope Q X := by
 (refine e34 (cLc_inv h :) fun tgt iter tg r => ?_; refine rwm r ?_; intro ht hb h)
 refine e12 (lcS_ok H I ht hb h :) fun cn K E => ?_
 exact ⟨tgt, iter, cn, rfl, K, E⟩
end
theorem q3z {e : Expr} (h : q1c e = true) (t : Option Expr) (l : Nat) (env : Env) : swapsWith e t l env = pure false := by
 cases e <;> first | rfl | exact ft h
theorem z8t {elt tgt iter : Expr} {scope : Scope} {lp p : Pos} {x : Str} {l : Nat} {env : Env} (h1 : env.scope.kind = .function) (h2 : env.kindOf x = some .local) (h3 : (p.line == lp.line) = true) (h4 : (scope.names.any fun (n, k) => n == x && (k == .local || k == .cell)) = false) :
   swapsWith (.ListComp elt [⟨tgt, iter, [], 0⟩] scope lp) (some (.Name x p)) l env = pure true := by
 have hb : env.blockKind = .function := by unfold Env.blockKind; refine rwm h1 ?_; rfl
 show (pure (env.blockKind == .function && env.kindOf x == some .local && p.line == lp.line && !(scope.names.any fun (n, k) => n == x && (k == .local || k == .cell))) : Sem Bool) = _
 (refine rwm hb ?_; refine rwm h2 ?_; refine rwm h3 ?_; refine rwm h4 ?_)
 rfl
theorem q4j {ts : List Expr} {k : Nat} {p : Pos} {e : Expr} {l : Nat} {env : Env} (h : q1c e = true) : swapsWithSole [.Tuple ts k p] e l env = pure false := q3z h (some (.Tuple ts k p)) l env
theorem j86 {e1 e2 : Expr} {f : Expr -> Bool} (hf : ∀ e, q0e e = true -> f e = false) (s1 : q0e e1 = true) (s2 : q0e e2 = true) : ¬ ([e1, e2].any f = true) := by
 (refine rwm List.any_cons ?_; refine rwm List.any_cons ?_; refine rwm List.any_nil ?_; refine rwm (hf _ s1) ?_; refine rwm (hf _ s2) ?_)
 exact Bool.false_ne_true
theorem x0q {a b : Expr} {x y : Str} {g : Expr -> Option Str} (h1 : g a = some x) (h2 : g b = some y) : [a, b].filterMap g = [x, y] := by
 (refine rwm List.filterMap_cons ?_; refine rwm h1 ?_)
 dsimp only
 (refine rwm List.filterMap_cons ?_; refine rwm h2 ?_)
 rfl
noncomputable def q9v : Expr -> Bool
 | .Tuple es _ _ => es.all (foldedForSure 8)
 | _ => true
theorem j6d {c : Prop} [Decidable c] {α : Type} {x y : α} (h : y = x) : (if c then x else y) = x := by
 by_cases hc : c
 . exact if_pos hc
 . exact (if_neg hc).trans h
theorem q9r {ts : List Expr} {k : Nat} {p : Pos} {e : Expr} (env : Env) (h : q9v e = true) : swappedStores [.Tuple ts k p] e env = pure none := by
 induction e using Expr.casesOn with
 | Tuple es k' p' =>
   have h : es.all (foldedForSure 8) = true := h
   exact j6d (j6d (j6d (if_pos h)))
 | _ => rfl
theorem q9s {x y : Str} {px py p q : Pos} {k k' : Nat} {e1 e2 : Expr} {env : Env} (h1 : env.scope.kind = .function) (hx : env.kindOf x = some .local) (hy : env.kindOf y = some .local) (hl : (px.line == py.line) = true) (hn : (x != y) = true) (s1 : q0e e1 = true) (s2 : q0e e2 = true)
   (hc : (constantsAlone 8 e1 && constantsAlone 8 e2) = false) (hf : (foldedForSure 8 e1 && foldedForSure 8 e2) = false) : swappedStores [.Tuple [.Name x px, .Name y py] k p] (.Tuple [e1, e2] k' q) env = pure (some [x, y]) := by
 have hb : env.blockKind = .function := by unfold Env.blockKind; refine rwm h1 ?_; rfl
 have hy2 : (py.line == px.line) = true := by rw [beq_iff_eq] at hl ⊢; exact hl.symm
 refine (if_neg (c := (_ : Bool) = true) ?_).trans ?_
 . refine rwm hb ?_; exact Bool.false_ne_true
 refine (if_neg (j86 ?_ s1 s2)).trans ?_
 . intro e h
   cases e <;> first | rfl | exact zft h
 simp only []
 rw [x0q (x := x) (y := y)]
 case h1 =>
   show (if (env.kindOf x == some NameKind.local && px.line == px.line) = true then some x else none) = _
   (refine rwm (if_pos (by rw [hx]; simp)) ?_; rfl)
 case h2 =>
   show (if (env.kindOf y == some NameKind.local && py.line == px.line) = true then some y else none) = _
   (refine rwm (if_pos (by rw [hy, hy2]; rfl)) ?_; rfl)
 have hd : ([x, y].eraseDups.length != [x, y].length) = false := by
   have : (y == x) = false := by
     rw [beq_eq_false_iff_ne]
     intro z
     rw [z] at hn
     simp at hn
   simp [List.eraseDups_cons, this]
 refine rwm hd ?_
 simp only [List.length_cons, List.length_nil, bne_self_eq_false, Bool.or_self, Bool.false_eq_true, if_false, List.all_cons, List.all_nil, Bool.and_true, hf, hc]
section
variable {c : Cx} {lk : Lk} {T : Tb} {P : Pt} {S : Sx} {F : Fx} {ρ : Loc} {st : St} {X : Exc} {n : Nat}
theorem q1g (I : PI P S F) {x : Str} (h : q1f S x = true) : P.env.locals = P.L /\ P.env.kindOf x = some .local := by
 unfold q1f at h
 rw [Bool.and_eq_true] at h
 exact ⟨I.top h.1, (q0h I x).trans (q37 h.2)⟩
theorem z6n {e o i : Expr} {p pos : Pos} {Q : Fl -> Loc -> St -> Prop} (hs : swapsWith e (some (.Subscript o i p)) pos.line P.env = pure false)
   (h : EvE c P ρ st e (fun w st₁ => EvE c P ρ st₁ o (fun v st₂ => EvE c P ρ st₂ i (fun j st₃ => (∃ n vs k, v = .ref n /\ j = .int k /\ st₃.get n = some (.list vs) /\ 0 <= k /\ k < vs.length /\ vs.length <= sizeLine /\ Q .next ρ (st₃.set n (.list (vs.set k.toNat w)))) \/
     (∃ n zs, v = .ref n /\ j = .tup (zs.map Z.toV) /\ st₃.get n = some (.tab [] none) /\ Q .next ρ (st₃.set n (.tab [(zs, w)] none)))) X) X) X) :
   Ex1 c P ρ st (.Assign [.Subscript o i p] e pos) Q X :=
 fun g pv m news h0 s Qc Ec a K => wpAny_Assign_Subscript (h.useS a K fun W0 W0 W0 s1 z W0 W0 W0 a1 r1 q1 K1 => q1.useS a1 K1 fun W0 W0 W0 s2 y W0 W0 l2 a2 r2 q2 K2 => q2.useS a2 K2 fun W0 W0 W0 s3 j W0 W0 l3 a3 r3 q3 K3 => by
   rcases q3 with ⟨n, vs, k, rfl, rfl, e, k0, k1, hz, q⟩ | ⟨n, zs, rfl, rfl, e, q⟩
   . exact a3.setitem e k0 k1 hz (r2.mono l3) r3 ((r1.mono l2).mono l3) fun news' h' a4 => K3.here (tk := s3.toks) a4 .next q
   . exact a3.putTab e (r2.mono l3) r3 ((r1.mono l2).mono l3) fun news' h' tk a4 => K3.here (tk := tk) a4 .next q) hs
theorem j1k {x : Str} {l : List (Str × NameKind)} (h : ∀ q ∈ l, eqS q.1 x = true -> q00 (some q.2) = false /\ q6z (some q.2) = false) : (l.any fun (n, k) => n == x && (k == .local || k == .cell)) = false := by
 rw [List.any_eq_false]
 rintro ⟨n, k⟩ hq hh
 have hh : (n == x && (k == .local || k == .cell)) = true := hh
 rw [Bool.and_eq_true] at hh
 obtain ⟨q1, q2⟩ := h _ hq (by refine rwm (q6u _ _) ?_; exact hh.1)
 have := hh.2
 cases k <;> first | exact Bool.false_ne_true this | exact Bool.false_ne_true (q1 : true = false).symm | exact Bool.false_ne_true (q2 : true = false).symm
theorem q1j {b : Bool} {x : CS} {Q : Fl × Loc -> St -> Prop} (h : Sat (exS lk T F (cond b x .bad) ρ st) Q X) : b = true /\ Sat (exS lk T F x ρ st) Q X := by
 induction b using Bool.casesOn with
 | true => exact ⟨rfl, h⟩
 | false => exact h.elim
theorem outL_ok {q : Option (Loc × St)} {Q : Fl × Loc -> St -> Prop} (h : Sat (outL q) Q X) : ∃ ρ' st', q = some (ρ', st') /\ Q (.next, ρ') st' := by
 (refine e12 (sat_opt h :) fun p r => ?_; refine rwm r ?_; intro h)
 exact ⟨p.1, p.2, rfl, h⟩
theorem z1x (H : TbOk c lk T) (I : PI P S F) (ht : S.top = true) {ts : List Expr} {k : Nat} {p pos : Pos} {e : Expr} {Q : Fl -> Loc -> St -> Prop} (hs : ts.all q0e = true) (hc : q1c e = true) (hf : q9v e = true)
   (h : Sat (exS lk T F (cUnp lk S ts e n) ρ st) (fun p st => Q p.1 p.2 st) X) : Ex1 c P ρ st (.Assign [.Tuple ts k p] e pos) Q X := by
 unfold cUnp at h
 refine q1v (q4u S ts) (fun hg => ?_) fun gs hg => ?_
 . rw [hg] at h; exact h.elim
 .
   rw [hg] at h
   obtain ⟨hn, h⟩ := q0s h
   refine q5o (q4j hc) (q9r _ hf) (EvE.mono (H.ev I (q0a h)) fun v st h => ?_)
   refine e22 (outL_ok h :) fun ρ' st' ha q => ?_
   exact z4r I ht hn hs hg ha q
theorem swapV_is {x y : Str} {v : V} {Q : Fl × Loc -> St -> Prop} (h : Sat (x2f x y ρ st v) Q X) : ∃ v1 v2, v = .tup [v1, v2] /\ Q (.next, q8i x v1 (q8i y v2 ρ)) st := by
 induction v using V.casesOn with
 | tup vs =>
   induction vs using List.casesOn with
   | nil => exact h.elim
   | cons a vs =>
     induction vs using List.casesOn with
     | nil => exact h.elim
     | cons b vs =>
       induction vs using List.casesOn with
       | nil => exact ⟨a, b, rfl, h⟩
       | cons _ _ => exact h.elim
 | _ => exact h.elim
theorem z6k (H : TbOk c lk T) (I : PI P S F) {x y : Str} {px py p p' pos : Pos} {e1 e2 : Expr} {k k' : Nat} {Q : Fl -> Loc -> St -> Prop} (hc : q1c (.Tuple [e1, e2] k' p') = true)
   (h : Sat (exS lk T F (j4w lk S x y px py e1 e2 k' p' n) ρ st) (fun p st => Q p.1 p.2 st) X) : Ex1 c P ρ st (.Assign [.Tuple [.Name x px, .Name y py] k p] (.Tuple [e1, e2] k' p') pos) Q X := by
 obtain ⟨hp, h⟩ := q1j h
 obtain ⟨hn, h⟩ := q0s h
 simp only [Bool.and_eq_true, Bool.not_eq_true'] at hp
 refine hid fun hG => ?_
 obtain ⟨⟨⟨⟨⟨⟨⟨⟨p1, p2⟩, p3⟩, p4⟩, p5⟩, p6⟩, p7⟩, p8⟩, p9⟩ := hp
 obtain ⟨e1, e2⟩ := q1g I p1
 obtain ⟨_, e3⟩ := q1g I p2
 refine hG ?_
 refine q6g (I.nh.trans hn) e1 e2 e3 (q4j hc) (q9s (by refine rwm I.sc ?_; exact z0s p5) e2 e3 (by refine rwm (Nat.eq_of_beq_eq_true p3) ?_; exact beq_self_eq_true _) (by (rewrite [bne]; refine rwm (q6v p4) ?_); rfl) p6 p7 p8 p9) (EvE.mono (H.ev I (q0a h)) fun v st h => ?_)
 refine e22 (swapV_is h :) fun v1 v2 e h2 => ?_
 rw [q1s, q1s] at h2
 exact ⟨_, _, e, h2⟩
theorem twoNames_is {ts : List Expr} {q : (Str × Pos) × Str × Pos} (h : twoNames ts = some q) : ts = [.Name q.1.1 q.1.2, .Name q.2.1 q.2.2] := by
 refine hid fun hG => ?_
 refine e12 (obi h :) fun e h1 h => ?_
 refine e12 (obi h :) fun x h2 h => ?_
 refine e12 (obi h :) fun y h3 h => ?_
 refine hG ?_
 refine rwb (oi h) ?_
 (refine rwm (two_is h1) ?_; refine rwm (q1n h2) ?_; refine rwm (q1n h3) ?_; rfl)
theorem z25 {ts es : List Expr} {k' : Nat} {p' : Pos} {C : CS -> Prop} (h1 : ∀ x y px py e1 e2, ts = [.Name x px, .Name y py] -> es = [e1, e2] -> C (j4w lk S x y px py e1 e2 k' p' n)) (h2 : C (j4z lk S ts es k' p' n)) : C (j4y lk S ts es k' p' n) := by
 unfold j4y
 refine q1v (twoNames ts) (fun ht => ?_) fun q ht => ?_
 . exact h2
 .
   refine q1v (two es) (fun he => ?_) fun e he => ?_
   . exact h2
   . exact h1 _ _ _ _ _ _ (twoNames_is ht) (two_is he)
theorem j0r (H : TbOk c lk T) (I : PI P S F) (ht : S.top = true) {ts : List Expr} {k : Nat} {p pos : Pos} {e : Expr} {Q : Fl -> Loc -> St -> Prop} (hs : ts.all q0e = true) (hc : q1c e = true)
   (h : Sat (exS lk T F (cTup lk S ts e n) ρ st) (fun p st => Q p.1 p.2 st) X) : Ex1 c P ρ st (.Assign [.Tuple ts k p] e pos) Q X := by
 induction e using Expr.casesOn with
 | Tuple es k' p' =>
   refine z25 (C := fun z => Sat (exS lk T F z ρ st) (fun p st => Q p.1 p.2 st) X -> _) (fun x y px py e1 e2 q1 q2 h => ?_) (fun h => ?_) h
   . subst q1 q2
     exact z6k H I hc h
   . obtain ⟨hf, h⟩ := q1j h
     exact z1x H I ht hs hc hf h
 | _ => exact z1x H I ht hs hc rfl h
theorem j0n (H : TbOk c lk T) (I : PI P S F) {x : Str} {p lp pos : Pos} {elt : Expr} {gs : List Comprehension} {scope : Scope} {Q : Fl -> Loc -> St -> Prop} (h : Sat (exS lk T F (cLcA lk S x p lp elt gs scope n) ρ st) (fun p st => Q p.1 p.2 st) X) : Ex1 c P ρ st (.Assign [.Name x p] (.ListComp elt gs scope lp) pos) Q X := by
 obtain ⟨hc, h⟩ := q1j h
 simp only [Bool.and_eq_true] at hc
 refine hid fun hG => ?_
 obtain ⟨⟨⟨h1, h2⟩, h3⟩, h4⟩ := hc
 obtain ⟨e1, e2⟩ := q1g I h1
 refine hG ?_
 (refine e33 (H.lc I (q0a h) :) fun tgt iter cn r => ?_; refine rwm r ?_; intro K E)
 unfold q3t at E
 simp only [q1s] at E
 exact q81 K e1 e2 (z8t (by refine rwm I.sc ?_; exact z0s h3) e2 (by refine rwm (Nat.eq_of_beq_eq_true h2) ?_; exact beq_self_eq_true _) (j1k (by simpa using h4))) E
theorem z6j (H : TbOk c lk T) (I : PI P S F) {x : Str} {p pos : Pos} {e : Expr} {Q : Fl -> Loc -> St -> Prop} (h : Sat (exS lk T F (j29 lk S x p e n) ρ st) (fun p st => Q p.1 p.2 st) X) : Ex1 c P ρ st (.Assign [.Name x p] e pos) Q X := by
 have go : Sat (exS lk T F (cond (q1f S x && q1c e) (.asg x (cNl (cE lk n) S e)) .bad) ρ st) (fun p st => Q p.1 p.2 st) X -> Ex1 c P ρ st (.Assign [.Name x p] e pos) Q X := fun h => by
   refine hid fun hG => ?_
   obtain ⟨hc, h⟩ := q1j h
   rw [Bool.and_eq_true] at hc
   obtain ⟨e1, e2⟩ := q1g I hc.1
   refine hG ?_
   refine q5n e1 e2 (EvE.mono (H.evn I (q0a h)) fun v st h => ?_) (q3z hc.2 _ _ _)
   unfold q3t at h
   rw [q1s] at h
   exact h
 induction e using Expr.casesOn with
 | ListComp elt gs scope lp => exact j0n H I h
 | _ => exact go h
theorem setA_is {x : Str} {w v : V} {Q : Fl × Loc -> St -> Prop} (h : Sat (setA lk x w v ρ st) Q X) : ∃ n C fs, v = .ref n /\ st.get n = some (.inst C fs) /\ (lk.at_ C x && Nat.ble fs.length 900) = true /\ Q (.next, ρ) (st.set n (.inst C (q8i x w fs))) := by
 induction v using V.casesOn with
 | ref n =>
   change Sat (setO lk n x w ρ st (st.get n)) Q X at h
   refine q1v (st.get n) (fun hg => ?_) fun o hg => ?_
   . rw [hg] at h; exact h.elim
   .
     rw [hg] at h
     induction o using AO.casesOn with
     | inst C fs =>
       obtain ⟨hs, h⟩ := q0s h
       exact ⟨n, C, fs, rfl, hg, hs, h⟩
     | _ => exact h.elim
 | _ => exact h.elim
theorem z6h (L : LkOk c lk) (H : TbOk c lk T) (I : PI P S F) {o : Expr} {x : Str} {p pos : Pos} {e : Expr} {Q : Fl -> Loc -> St -> Prop} (hc : q1c e = true) (h : Sat (j3e lk T F (cE lk n S o) x (cNl (cE lk n) S e) ρ st) (fun p st => Q p.1 p.2 st) X) : Ex1 c P ρ st (.Assign [.Attribute o x p] e pos) Q X := by
 refine z3f (q3z hc _ _ _) (EvE.mono (H.evn I (q0a h)) fun w st h => EvE.mono (H.ev I (q0a h)) fun v st h => ?_)
 refine e34 (setA_is h :) fun n C fs e hg hs h2 => ?_
 rw [Bool.and_eq_true] at hs
 rw [q1s] at h2
 exact ⟨_, _, _, e, hg, (L.at_ _ _ hs.1).2, Nat.le_of_ble_eq_true hs.2, h2⟩
theorem z8o {j w v : V} {C : Out (Fl × Loc) -> Prop} (hb : C .bad) (h1 : ∀ n vs k, v = .ref n -> j = .int k -> st.get n = some (.list vs) -> C (cond (decide (0 <= k /\ k < vs.length /\ vs.length <= 1000000)) (q3t ρ (st.set n (.list (vs.set k.toNat w)))) .bad))
   (h2 : ∀ n ws, v = .ref n -> j = .tup ws -> st.get n = some (.tab [] none) -> C (Option.casesOn (motive := fun W0 => Out (Fl × Loc)) (zsV ws) .bad fun zs => q3t ρ (st.set n (.tab [(zs, w)] none)))) : C (setS j w v ρ st) := by
 induction v using V.casesOn with
 | ref n =>
   change C (setI n j w ρ st (st.get n))
   refine q1v (st.get n) (fun hg => ?_) fun o hg => ?_
   . exact hb
   .
     induction o using AO.casesOn with
     | list vs =>
       induction j using V.casesOn with
       | int k => exact h1 n vs k rfl rfl hg
       | _ => exact hb
     | tab l p =>
       induction l using List.casesOn with
       | cons _ _ => exact hb
       | nil =>
         induction p using Option.casesOn with
         | some _ => exact hb
         | none =>
           induction j using V.casesOn with
           | tup ws => exact h2 n ws rfl rfl hg
           | _ => exact hb
     | _ => exact hb
 | _ => exact hb
theorem j0p (H : TbOk c lk T) (I : PI P S F) {o i : Expr} {p pos : Pos} {e : Expr} {Q : Fl -> Loc -> St -> Prop} (hc : q1c e = true) (h : Sat (x0j T F (cE lk n S o) (cE lk n S i) (cE lk n S e) ρ st) (fun p st => Q p.1 p.2 st) X) : Ex1 c P ρ st (.Assign [.Subscript o i p] e pos) Q X := by
 refine z6n (q3z hc _ _ _) (EvE.mono (H.ev I (q0a h)) fun w st h => EvE.mono (H.ev I (q0a h)) fun v st h => EvE.mono (H.ev I (q0a h)) fun j st h => ?_)
 refine z8o (C := fun z => Sat z (fun p st => Q p.1 p.2 st) X -> _) (fun h => h.elim) (fun n vs k e1 e2 hg h => ?_) (fun n ws e1 e2 hg h => ?_) h
 . obtain ⟨hs, h⟩ := q0s h
   have hs := of_decide_eq_true hs
   exact .inl ⟨_, _, _, e1, e2, hg, hs.1, hs.2.1, q21 hs.2.2, h⟩
 . refine e12 (sat_opt h :) fun zs hz h => ?_
   exact .inr ⟨_, zs, e1, by (refine rwm e2 ?_; refine rwm (q91 hz) ?_; rfl), hg, h⟩
theorem j0k (L : LkOk c lk) (H : TbOk c lk T) (I : PI P S F) {t e : Expr} {pos : Pos} {Q : Fl -> Loc -> St -> Prop} (h : Sat (exS lk T F (cAsg lk S t e n) ρ st) (fun p st => Q p.1 p.2 st) X) : Ex1 c P ρ st (.Assign [t] e pos) Q X := by
 induction t using Expr.casesOn with
 | Name x p => exact z6j H I h
 | Attribute o x p =>
   obtain ⟨hc, h⟩ := q1j h
   exact z6h L H I hc h
 | Subscript o i p =>
   obtain ⟨hc, h⟩ := q1j h
   rw [Bool.and_eq_true] at hc
   exact j0p H I hc.1 h
 | Tuple ts k p =>
   obtain ⟨hc, h⟩ := q1j h
   rw [Bool.and_eq_true, Bool.and_eq_true] at hc
   exact j0r H I hc.1.1 hc.2 hc.1.2 h
 | _ => exact h.elim
theorem addV_is {v w z : V} (h : addV v w = some z) : ∃ a b, v = .int a /\ w = .int b /\ z = .int (a + b) := by
 induction v using V.casesOn with
 | int a =>
   induction w using V.casesOn with
   | int b => exact ⟨a, b, rfl, rfl, (oi h).symm⟩
   | _ => exact ns h
 | _ => exact ns h
theorem j0l (H : TbOk c lk T) (I : PI P S F) {t e : Expr} {op : Operator} {pos : Pos} {Q : Fl -> Loc -> St -> Prop} (h : Sat (exS lk T F (cAug lk S t op e n) ρ st) (fun p st => Q p.1 p.2 st) X) : Ex1 c P ρ st (.AugAssign t op e pos) Q X := by
 induction t using Expr.casesOn with
 | Name x p =>
   induction op using Operator.casesOn with
   | Add =>
     refine hid fun hG => ?_
     obtain ⟨hc, h⟩ := q1j h
     obtain ⟨e1, e2⟩ := q1g I hc
     refine e12 (sat_opt h :) fun v hv h => ?_
     refine hG ?_
     refine x0k e1 e2 (by refine rwb (q0b _ _) ?_; exact hv) (EvE.mono (H.ev I (q0a h)) fun w st h => ?_)
     refine e12 (sat_ofO (q0a h) :) fun z hz h => ?_
     (refine e23 (addV_is hz :) fun a b r => ?_; refine rwm r ?_; intro r; refine rwm r ?_; intro r; subst r)
     unfold q3t at h
     rw [q1s] at h
     exact j6a h
   | _ => exact h.elim
 | _ => exact h.elim
theorem q80 (H : TbOk c lk T) (I : PI P S F) (ht : S.top = true) {tgt e : Expr} {sto : V -> Loc -> St -> Option (Loc × St)} (hst : F.nh = true -> ∀ {v ρ st ρ' st'} {Q : Loc -> St -> Prop}, sto v ρ st = some (ρ', st') -> Q ρ' st' -> z4f c P ρ st tgt v Q) {body : List Stmt} {pos : Pos} {m : Nat} {Q : Fl -> Loc -> St -> Prop} (hs : q9f e = true) (h : Sat (z6i T F sto (cE lk m S e) (body.map (cS lk n S)) ρ st) (fun p st => Q p.1 p.2 st) X) : Ex1 c P ρ st (.For tgt e body [] pos) Q X := by
 obtain ⟨hn, h⟩ := q0s h
 refine j3f (I.top ht) (q2m hs _) (TrG.frz (EvE.mono (H.ev I (q0a h)) fun v st₁ h1 => z0o (Q := fun v st₁ => ∃ vs, q4l c P v vs /\ j23 c P _ _ Q vs ρ st₁) ?_))
 refine e12 (sat_opt h1 :) fun vs hv h1 => ?_
 exact ⟨vs, (q3s (I.nh.trans hn) hv).1, j51 H I (hst hn) h1⟩
theorem j0m (H : TbOk c lk T) (I : PI P S F) {tgt e : Expr} {body : List Stmt} {pos : Pos} {m : Nat} {Q : Fl -> Loc -> St -> Prop} (h : Sat (exS lk T F (cFor lk S tgt e (body.map (cS lk n S)) m) ρ st) (fun p st => Q p.1 p.2 st) X) : Ex1 c P ρ st (.For tgt e body [] pos) Q X := by
 obtain ⟨hc, h⟩ := q1j h
 rw [Bool.and_eq_true] at hc
 have go : Sat (exS lk T F (Option.casesOn (motive := fun W0 => CS) (j72 S tgt) .bad fun g => .for1 g (cE lk m S e) (body.map (cS lk n S))) ρ st) (fun p st => Q p.1 p.2 st) X -> Ex1 c P ρ st (.For tgt e body [] pos) Q X := fun h => by
   refine q1v (j72 S tgt) (fun hg => ?_) fun g hg => ?_
   . rw [hg] at h; exact h.elim
   .
     rw [hg] at h
     exact q80 H I hc.1 (fun hn W0 W0 W0 W0 W0 W0 ha q => z4q I hc.1 (z8v hg) ha q) hc.2 h
 induction tgt using Expr.casesOn with
 | Tuple ts k p =>
   obtain ⟨hs, h⟩ := q1j h
   refine q1v (q4u S ts) (fun hg => ?_) fun gs hg => ?_
   . rw [hg] at h; exact h.elim
   .
     rw [hg] at h
     exact q80 H I hc.1 (fun hn W0 W0 W0 W0 W0 W0 ha q => z4r I hc.1 hn hs hg ha q) hc.2 h
 | _ => exact go h
theorem q8x {β : Type} {l : List β} {r : CS} {f : β -> List β -> CS} {Q : Fl × Loc -> St -> Prop} (hf : ∀ a b, f a b = .bad) (h : Sat (exS lk T F (List.casesOn (motive := fun W0 => CS) l r f) ρ st) Q X) : l = [] /\ Sat (exS lk T F r ρ st) Q X := by
 induction l using List.casesOn with
 | nil => exact ⟨rfl, h⟩
 | cons a l => exact absurd (hf a l ▸ h : Sat (exS lk T F .bad ρ st) Q X) id
theorem PI.still (I : PI P S F) : PI P.still S { F with tn := false } := ⟨I.sc, I.cn, I.d, rfl, I.nh, I.top, I.env⟩
theorem PI.marked (I : PI P S F) {v : Value} : PI (P.marked v) S { F with nh := false } := ⟨I.sc, I.cn, I.d, I.tn, rfl, I.top, I.env⟩
theorem j7m {C : Addr} {suite : List CS} {r : Out V} {Q : Fl × Loc -> St -> Prop} (h : Sat (treT T F C suite ρ r) Q X) : Sat r (fun v st => Q (.ret v, ρ) st) (fun C' st => C' = C /\ Sat (q12 T { F with nh := false } suite ρ st) Q noX) := by
 induction r with
 | ok a st => exact h
 | ex C' st =>
   change Sat (cond (Nat.beq C' C) _ _) Q X at h
   obtain ⟨h1, h2⟩ := q0s h
   exact ⟨Nat.eq_of_beq_eq_true h1, Sat.mono (q08 (X' := noX) h2) fun p st h => h⟩
 | need c r ih => exact ⟨h.1, ih h.2⟩
 | both l r il ir => exact ⟨il h.1, ir h.2⟩
 | bad => exact h
theorem q6r {x : Str} {v : V} (e : q2i lk S x = .val v) : q05 S x = some .globalImplicit /\ lk.gl x = some v := by
 revert e
 exact q1q (C := fun z => z = .val v -> q05 S x = some .globalImplicit /\ lk.gl x = some v) (fun h => nomatch h) (fun W0 W0 h => nomatch h) (fun W0 W0 h => nomatch h) (fun W0 W0 W0 h => nomatch h) (fun w hx hg h => ⟨hx, hg.trans (congrArg some (by injection h))⟩)
theorem isXc_is {e : Option Ent} (h : j6c e = true) : ∃ fI attr, e = some (.xc fI attr) := by
 induction e using Option.casesOn with
 | none => exact ft h
 | some e =>
   induction e using Ent.casesOn with
   | xc fI attr => exact ⟨fI, attr, rfl⟩
   | _ => exact ft h
theorem z23 {C : CS -> Prop} {f : CE} (hb : C .bad) (h1 : ∀ D, f = .val (.prim (.ref D)) -> C (cond (j6c (lk.ent D)) (.rai D) .bad)) : C (z9v lk f) := by
 cases f with
 | val v =>
   induction v using V.casesOn with
   | prim v =>
     induction v using Value.casesOn with
     | ref D => exact h1 D rfl
     | _ => exact hb
   | _ => exact hb
 | _ => exact hb
theorem z24 {ih : Stmt -> CS} {e : Expr} {m : Nat} {suite : List Stmt} {alt : CS} {C : CS -> Prop} {f : CE} (hb : C alt) (h1 : ∀ D, f = .val (.prim (.ref D)) -> (S.top && j6c (lk.ent D)) = true -> C (.tre (cE lk m S e) D (suite.map ih))) : C (z9x lk S ih e m suite alt f) := by
 cases f with
 | val v =>
   induction v using V.casesOn with
   | prim v =>
     induction v using Value.casesOn with
     | ref D =>
       change C (cond (S.top && j6c (lk.ent D)) _ _)
       refine q27 (S.top && j6c (lk.ent D)) (fun hx => ?_) fun hx => ?_
       . exact h1 D rfl hx
       . exact hb
     | _ => exact hb
   | _ => exact hb
 | _ => exact hb
theorem j2x {es : List Expr} {q : Str × Nat × Pos} (h : j2w es = some q) : es = [.Constant (.str q.1) q.2.1 q.2.2] := by
 induction es using List.casesOn with
 | nil => exact ns h
 | cons a es =>
   induction a using Expr.casesOn with
   | Constant k kd kp =>
     cases k with
     | str s =>
       induction es using List.casesOn with
       | nil => exact oi h ▸ rfl
       | cons _ _ => exact ns h
     | _ => exact ns h
   | _ => exact ns h
theorem z5c {e cause : Option Expr} {C : CS -> Prop} (hb : C .bad) (h1 : ∀ x np msg k kp cp, e = some (.Call (.Name x np) [.Constant (.str msg) k kp] [] cp) -> cause = none -> C (z9v lk (q2i lk S x))) : C (cRai lk S e cause) := by
 induction e using Option.casesOn with
 | none => exact hb
 | some e =>
   induction cause using Option.casesOn with
   | some _ => exact hb
   | none =>
     induction e using Expr.casesOn with
     | Call f es ks cp =>
       induction ks using List.casesOn with
       | cons _ _ => exact hb
       | nil =>
         change C (Option.casesOn (motive := fun W0 => CS) (q31 f) .bad fun x => Option.casesOn (j2w es) .bad fun W0 => z9v lk (q2i lk S x.1))
         refine q1v (q31 f) (fun hf => ?_) fun x hf => ?_
         . exact hb
         .
           refine q1v (j2w es) (fun he => ?_) fun q he => ?_
           . exact hb
           . exact h1 x.1 x.2 q.1 q.2.1 q.2.2 cp (by (refine rwm (q1n hf) ?_; refine rwm (j2x he) ?_; rfl)) rfl
     | _ => exact hb
theorem j0o (L : LkOk c lk) (I : PI P S F) {e cause : Option Expr} {pos : Pos} {Q : Fl -> Loc -> St -> Prop} (h : Sat (exS lk T F (cRai lk S e cause) ρ st) (fun p st => Q p.1 p.2 st) X) : Ex1 c P ρ st (.Raise e cause pos) Q X := by
 refine z5c (C := fun z => Sat (exS lk T F z ρ st) (fun p st => Q p.1 p.2 st) X -> _) (fun h => h.elim) (fun x np msg k kp cp e1 e2 h => ?_) h
 subst e1 e2
 refine z23 (C := fun z => Sat (exS lk T F z ρ st) (fun p st => Q p.1 p.2 st) X -> _) (fun h => h.elim) (fun D hC h => ?_) h
 refine hid fun hG => ?_
 obtain ⟨hx, h⟩ := q1j h
 obtain ⟨hn, h⟩ := q0s h
 rw [Bool.and_eq_true] at hn
 refine e21 (isXc_is hx :) fun fI attr he => ?_
 obtain ⟨hkeep, hxc, hxi, _⟩ := L.ent _ _ he
 obtain ⟨hk, hg⟩ := q6r hC
 refine hG ?_
 exact j0s (I.nh.trans hn.1) (by refine rwm I.d ?_; exact Nat.le_of_ble_eq_true hn.2) hkeep hxc hxi (L.gl x _ hg P ((q0h I x).trans hk) ρ st _ X np ⟨rfl, h⟩)
theorem j2v {body : List Stmt} {q : Expr × Pos} (h : j2u body = some q) : body = [.Return (some q.1) q.2] := by
 induction body using List.casesOn with
 | nil => exact ns h
 | cons s body =>
   induction s using Stmt.casesOn with
   | Return r p =>
     induction r using Option.casesOn with
     | none => exact ns h
     | some e =>
       induction body using List.casesOn with
       | nil => exact oi h ▸ rfl
       | cons _ _ => exact ns h
   | _ => exact ns h
theorem x20 {hd : ExceptHandler} {q : Str × Pos × Stmt × List Stmt × Pos} (h : xHd hd = some q) : hd = .ExceptHandler (some (.Name q.1 q.2.1)) none (q.2.2.1 :: q.2.2.2.1) q.2.2.2.2 := by
 cases hd with
 | ExceptHandler t nm sb hp =>
   induction t using Option.casesOn with
   | none => exact ns h
   | some t =>
     induction nm using Option.casesOn with
     | some _ => exact ns h
     | none =>
       induction sb using List.casesOn with
       | nil => exact ns h
       | cons b l =>
         obtain ⟨x, hx, h⟩ := obi (show (q31 t).bind _ = _ from h)
         refine rwb (oi h) ?_
         (refine rwm (q1n hx) ?_; rfl)
theorem z5d {ih : Stmt -> CS} {m : Nat} {body : List Stmt} {hs : List ExceptHandler} {C : CS -> Prop} (hb : C .bad) (h1 : ∀ e p x np b₀ suite hp rest, body = [.Return (some e) p] -> hs = .ExceptHandler (some (.Name x np)) none (b₀ :: suite) hp :: rest -> C (z9x lk S ih e m (b₀ :: suite) (.tri (body.map ih)) (q2i lk S x)))
   (h2 : ∀ hd tl, hs = hd :: tl -> C (.tri (body.map ih))) : C (cTry lk S ih m body hs) := by
 induction hs using List.casesOn with
 | nil => exact hb
 | cons hd tl =>
   change C (Option.casesOn (motive := fun W0 => CS) (j2u body) (.tri (body.map ih)) fun e => Option.casesOn (motive := fun W0 => CS) (xHd hd) (.tri (body.map ih)) fun q => z9x lk S ih e.1 m (q.2.2.1 :: q.2.2.2.1) (.tri (body.map ih)) (q2i lk S q.1))
   refine q1v (j2u body) (fun hr => ?_) fun q hr => ?_
   . exact h2 hd tl rfl
   .
     refine q1v (xHd hd) (fun hh => ?_) fun z hh => ?_
     . exact h2 hd tl rfl
     . exact h1 _ _ _ _ _ _ _ tl (j2v hr) (by (refine rwm (x20 hh) ?_; rfl))
theorem j0q (L : LkOk c lk) (H : TbOk c lk T) (I : PI P S F) {m : Nat} {body : List Stmt} {hs : List ExceptHandler} {pos : Pos} {Q : Fl -> Loc -> St -> Prop} (h : Sat (exS lk T F (cTry lk S (cS lk n S) m body hs) ρ st) (fun p st => Q p.1 p.2 st) X) : Ex1 c P ρ st (.Try body hs [] [] pos) Q X := by
 have alt : ∀ {body : List Stmt} {hd : ExceptHandler} {hs : List ExceptHandler}, Sat (exS lk T F (.tri (body.map (cS lk n S))) ρ st) (fun p st => Q p.1 p.2 st) X -> Ex1 c P ρ st (.Try body (hd :: hs) [] [] pos) Q X := fun {body hd hs} h => x0m (q10 H I (Q := Q) (Sat.mono (q08 (X' := noX) h) fun p st h => h))
 refine z5d (C := fun z => Sat (exS lk T F z ρ st) (fun p st => Q p.1 p.2 st) X -> Ex1 c P ρ st (.Try body hs [] [] pos) Q X) (fun h => h.elim) (fun e p x np b₀ suite hp rest e1 e2 h => ?_) (fun hd tl e1 h2 => ?_) h
 . subst e1 e2
   refine z24 (C := fun z => Sat (exS lk T F z ρ st) (fun p st => Q p.1 p.2 st) X -> _) (fun h => alt (body := [.Return (some e) p]) h) (fun D hC hx h => ?_) h
   rw [Bool.and_eq_true] at hx
   refine hid fun hG => ?_
   obtain ⟨ht, h⟩ := q0s h
   refine e21 (isXc_is hx.2 :) fun fI attr he => ?_
   refine e04 (L.ent _ _ he :) fun hkeep hxc hxi hkt => ?_
   obtain ⟨hk, hg⟩ := q6r hC
   refine hG ?_
   refine z3g (I.tn.trans ht) (I.env hx.1) ((q0h I x).trans hk) (L.dbg x _ hg) (L.glx x D hg) hkt ?_
   refine TrG.monoX (TrG.mono (H.ev I.still (j7m h)) fun v st' q => q) fun C' st' q => ⟨q.1, fun v => q10 H (I.marked (v := v)) (Q := Q) q.2⟩
 . subst e1
   exact alt h2
theorem x0i (L : LkOk c lk) (H : TbOk c lk T) (I : PI P S F) {s : Stmt} {Q : Fl -> Loc -> St -> Prop} (h : Sat (exS lk T F (cS lk n S s) ρ st) (fun p st => Q p.1 p.2 st) X) : Ex1 c P ρ st s Q X := by
 induction n using Nat.casesOn with
 | zero => exact h.elim
 | succ n =>
 change Sat (exS lk T F (cS1 lk S (cS lk n S) n s) ρ st) (fun p st => Q p.1 p.2 st) X at h
 induction s using Stmt.casesOn with
 | Return e p =>
   induction e using Option.casesOn with
   | some e => exact q6x (EvE.mono (H.ev I (q0a h)) fun v st h => h)
   | none => exact j5w h
 | Pass p => exact j5v h
 | Continue p => exact z0m h
 | Expr e p =>
   obtain ⟨hc, h⟩ := q1j h
   exact j5t (EvE.mono (H.ev I (q0a h)) fun v st h => h) (q3z hc _ _ _)
 | If t b o pos =>
   change Sat (x0g T F (cE lk n S t) (b.map (cS lk n S)) (o.map (cS lk n S)) ρ st) _ _ at h
   unfold x0g at h
   refine q27 (T.vc && j8q (b.map (cS lk n S))) (fun hv => ?_) fun hv => ?_
   .
     rw [hv] at h
     exact j5u (TrG.mono (H.nd I (q0a h)) fun x st h => by
       obtain ⟨rfl, h⟩ := h
       exact q10 H I h)
   .
     rw [hv] at h
     exact j5u (TrG.mono (H.evT I (q0a h)) fun x st h => by
       induction x using Bool.casesOn with
       | true => exact q10 H I h
       | false => exact q10 H I h)
 | Assign ts e pos =>
   induction ts using List.casesOn with
   | nil => exact h.elim
   | cons t r =>
     obtain ⟨rfl, h⟩ := q8x (fun W0 W0 => rfl) h
     exact j0k L H I h
 | AugAssign t op e pos => exact j0l H I h
 | For tgt e body o pos =>
   obtain ⟨rfl, h⟩ := q8x (fun W0 W0 => rfl) h
   exact j0m H I h
 | While t body o pos =>
   obtain ⟨rfl, h⟩ := q8x (fun W0 W0 => rfl) h
   exact j0t 100 (x2z H I h)
 | Try body hs o f pos =>
   obtain ⟨rfl, h⟩ := q8x (fun W0 W0 => rfl) h
   obtain ⟨rfl, h⟩ := q8x (fun W0 W0 => rfl) h
   exact j0q L H I h
 | Raise e cause pos => exact j0o L I h
 | _ => exact h.elim
end
section
variable {c : Cx} {lk : Lk} {T : Tb} {st : St} {Q : V -> St -> Prop}
theorem z8a {p : Fl × Loc} {st : St} {X : Exc} (h : Sat (z79 p st) Q X) : Frz Q p.1.val st := by
 unfold z79 at h
 exact z0o h
theorem q7h (H : TbOk c lk T) {a : Addr} {r : FnRec} (R : FnOk c a r) {d : Nat} {tn : Bool} {vs : List V} {X : Exc} (hx : tn = true -> ∀ C st', ¬X C st') (h : Sat (q0r lk T d tn r vs st) Q X) : q0d c (d + 1) tn st (.prim (.ref a)) vs Q X := by
 refine e32 R.is_ fun ds qual cdv hI hds => ?_
 obtain ⟨hl, h⟩ := q0s h
 rw [Bool.and_eq_true] at hl
 have hl1 := Nat.le_of_ble_eq_true hl.1
 have hl2 := Nat.le_of_ble_eq_true hl.2
 refine q0d.frz ?_
 unfold j4s at h
 generalize hc : r.cells = cs at h
 induction cs using List.casesOn with
 | nil =>
   obtain ⟨hcell, hloc⟩ := R.c0 hc
   refine q42 hI hds R.nd hl1 hl2 R.ld hcell hloc R.co R.gen R.kind hx fun P h1 h2 h3 h4 h5 h6 h7 => ?_
   exact q10 H (S := ⟨r.sc, true⟩) ⟨h5, h4, h1, h2, h3, fun W0 => h6, fun W0 => h7⟩ (Q := fun fl W0 st' => Frz Q fl.val st') (Sat.mono (q0a h) fun p st' h' => z8a h')
 | cons b t =>
   dsimp only at h
   rw [<- hc] at h
   refine e04 (R.c1 (fun z => nomatch hc.symm.trans z) :) fun e1 e2 e3 e4 => ?_
   have f1 : ∀ b : List (Str × V), (fun x => q0f x b) = (b.lookup ·) := fun b => funext fun x => q0b x b
   have f2 : (fun p : Str × V => q00 (q0f p.1 r.sc.names)) = fun p => r.sc.names.lookup p.1 == some .local := funext fun p => by
     refine rwm (q0b _ _) ?_
     cases r.sc.names.lookup p.1 with
     | none => rfl
     | some k => cases k <;> rfl
   rw [f1, f2] at h
   refine q8r hI hds R.nd hl1 hl2 R.ld e1 e2 e3 e4 R.co R.gen R.kind fun P h1 h2 h3 h4 h5 h6 h7 => ?_
   exact q10 H (S := ⟨r.sc, true⟩) ⟨h5, h4, h1, h2, h3, fun W0 => h6, fun W0 => h7⟩ (Q := fun fl W0 st' => Frz Q fl.val st') (Sat.mono (q08 (X' := noX) h) fun p st' h' => z8a h')
theorem z5k (H : TbOk c lk T) {C fI : Addr} {frz : Bool} (hc : ClOk c C fI) {d : Nat} {tn : Bool} {vs : List V} {X : Exc} (h : Sat (z5j T d tn C fI frz vs st) Q X) : q0d c (d + 1) tn st (.prim (.ref C)) vs Q X := by
 obtain ⟨h1, h2, h3⟩ := hc
 unfold z5j at h
 refine q0d.frz (q6s h1 h2 h3 (q0d.mono (H.call (q0a h)) fun v st' h' => ?_))
 obtain ⟨hv, h'⟩ := q0s h'
 refine ⟨?_, ?_⟩
 . exact (Option.isSome_iff_exists.mp hv).elim fun u h => z2r h
 . induction frz using Bool.casesOn with
   | true =>
     change Sat (frzI st.nx st' (st'.get st.nx)) Q X at h'
     refine e12 (sat_opt h' :) fun p hg h' => ?_
     exact .inst (q8n hg) (.keep h')
   | false => exact .keep h'
theorem x0r (H : TbOk c lk T) {r : FnRec} {d : Nat} {vc tn : Bool} {a : Addr} {vs : List V} {X : Exc} (R : FnOk c a r) (h : Sat (j3m (vc || tn) (q0r lk T d tn r vs st)) Q X) : q0d c (d + 1) tn st (.prim (.ref a)) vs Q X := by
 refine z9u (vc || tn) (fun hv => ?_) fun hv => ?_
 .
   rw [hv] at h
   exact q7h H R (fun e => by rw [e, Bool.or_true] at hv; exact ztf hv) h
 .
   rw [hv] at h
   refine q0d.monoX (X := noX) (q7h H R (fun W0 W0 W0 h => h) ?_) fun C st' h => h.elim
   exact Sat.mono (q08 (X' := noX) h) fun v st' h => h
theorem z9y (L : LkOk c lk) (H : TbOk c lk T) {d : Nat} {tn : Bool} {a : Addr} {vs : List V} {X : Exc} (h : Sat (j9q lk T d tn a vs st) Q X) : q0d c d tn st (.prim (.ref a)) vs Q X := by
 refine e12 (sat_opt h :) fun e he h => ?_
 have he := (L.ent _ _ he).2
 induction e using Ent.casesOn with
 | orc f => exact he _ _ _ _ _ _ _ h
 | fn r =>
   induction d using Nat.casesOn with
   | zero => exact h.elim
   | succ d => exact x0r H he h
 | cl fI frz =>
   induction d using Nat.casesOn with
   | zero => exact h.elim
   | succ d => exact z5k H he h
 | xc => exact h.elim
theorem j2e (L : LkOk c lk) (H : TbOk c lk T) : TbOk c lk (x2c lk T) :=
 ⟨fun I h => j3d L H I h, fun I h => j5i L H I h, fun I h => j0d H I h, fun I h => j5k L H I h, fun I h => x1h L H I h, fun I h => x0i L H I h, fun h => z9y L H h⟩
theorem j4c {vc : Bool} : TbOk c lk (badT vc) := ⟨fun W0 h => h.elim, fun W0 h => h.elim, fun W0 h => h.elim, fun W0 h => h.elim, fun W0 h => h.elim, fun W0 h => h.elim, fun h => h.elim⟩
theorem q3c (L : LkOk c lk) {vc : Bool} : ∀ n, TbOk c lk (q0q lk vc n) := by
 intro n
 induction n with
 | zero => exact j4c
 | succ n ih => exact j2e L (ih)
end
noncomputable def wInt (w : Value) : Option Int := match w with
 | .int i _ => some i
 | _ => none
theorem j8i {w : Value} {i : Int} (h : wInt w = some i) : ∃ t, w = .int i t := by
 induction w using Value.casesOn with
 | int j t => exact ⟨t, oi h ▸ rfl⟩
 | _ => exact ns h
noncomputable def valV (w : Value) : Option V := match w with
 | .int i _ => some (.int i)
 | .bool b => some (.bool b)
 | .none => some .none
 | .str s _ => some (.str s)
 | .bytes b _ => some (.bytes b.toList)
 | .ref a => some (.prim (.ref a))
 | .builtin i => some (.prim (.builtin i))
 | .type i => some (.prim (.type i))
 | _ => none
noncomputable def x2y (l : List Value) : Option (List V) := List.rec (some []) (fun w W0 ih => (valV w).bind fun v => ih.map (v :: ·)) l
noncomputable def asFn (d : Data) : Option FuncData := match d with
 | .func fd => some fd
 | _ => none
theorem j31 {d : Data} {fd : FuncData} (h : asFn d = some fd) : d = .func fd := by
 cases d with
 | func u => exact congrArg Data.func (oi h)
 | _ => exact ns h
noncomputable def j88 (d : Data) : Option (List Value) := match d with
 | .seq u _ => some u.toList
 | _ => none
theorem z9i {d : Data} {l : List Value} (h : j88 d = some l) : ∃ k, d = .seq l.toArray k := by
 cases d with
 | seq u k => exact ⟨k, oi h ▸ rfl⟩
 | _ => exact ns h
noncomputable def z4o (d : FuncBody) : Option (List Stmt) := match d with
 | .stmts b => some b
 | _ => none
theorem z2z {d : FuncBody} {b : List Stmt} (h : z4o d = some b) : d = .stmts b := by
 cases d with
 | stmts u => exact congrArg FuncBody.stmts (oi h)
 | _ => exact ns h
noncomputable def fnD (K : Frag) (a : Addr) : Option FuncData := (K.lookup a).bind fun o => asFn o.data
theorem fnD_is {K : Frag} {a : Addr} {fd : FuncData} (h : fnD K a = some fd) : ∃ oc od osl, K.lookup a = some ⟨oc, od, .func fd, osl⟩ := by
 refine e12 (obi h :) fun o h1 h2 => ?_
 exact ⟨o.cls, o.dict, o.slots, by (refine rwm h1 ?_; refine rwb (j31 h2) ?_; rfl)⟩
noncomputable def dfl (K : Frag) (v : Value) : Option (List Value) := match v with
 | .none => some []
 | .ref t => (K.lookup t).bind fun o => j88 o.data
 | _ => none
theorem j94 {K : Frag} {v : Value} {ds : List Value} (h : dfl K v = some ds) : (v = .none /\ ds = []) \/ ∃ T o k, v = .ref T /\ K.lookup T = some o /\ o.data = .seq ds.toArray k := by
 induction v using Value.casesOn with
 | none => exact .inl ⟨rfl, (oi h).symm⟩
 | ref t =>
   refine hid fun hG => ?_
   refine e12 (obi h :) fun o h1 h2 => ?_
   obtain ⟨k, h3⟩ := z9i h2
   refine hG ?_
   exact .inr ⟨t, o, k, rfl, h1, h3⟩
 | _ => exact ns h
noncomputable def fnK (K : Frag) (a : Addr) : Option FnRec := (fnD K a).bind fun fd => (z4o fd.body).bind fun b => ((dfl K fd.defaults).bind x2y).map fun ds =>
 { ns := fd.params.args.map (·.arg), body := b, sc := fd.scope, dvs := ds, cells := (cellsFrom 0 fd.scope.names []).map (·.1) }
theorem j8h {c : Cx} {g : Gh} {w : Value} {v : V} (e : valV w = some v) : VR c g v w := by
 induction w using Value.casesOn with
 | int i t => exact oi e ▸ .int _ _
 | bool b => exact oi e ▸ .bool _
 | none => exact oi e ▸ .none
 | str s t => exact oi e ▸ .str _ _
 | bytes b t => exact oi e ▸ .bytes b.toList t
 | ref a => exact oi e ▸ .prim _
 | builtin i => exact oi e ▸ .prim _
 | type i => exact oi e ▸ .prim _
 | _ => exact ns e
theorem j2r {c : Cx} {g : Gh} {ws : List Value} : ∀ {vs : List V}, x2y ws = some vs -> VRs c g vs ws := by
 induction ws with
 | nil => exact fun e => oi e ▸ .nil
 | cons w ws ih =>
   intro vs e
   refine e12 (obi e :) fun v h1 e => ?_
   (refine e12 (omi e :) fun us h2 r => ?_; subst r)
   exact .cons (j8h h1) (ih h2)
noncomputable def fdB (K : Frag) (fd : FuncData) : Bool := (fd.globals == mainGlobals) && (fd.closure.isEmpty && ((fd.builtins == builtinsNs) && (fd.params.posonlyargs.isEmpty && (fd.params.kwonlyargs.isEmpty && (fd.params.vararg.isNone && (fd.params.kwarg.isNone && codeIn K fd.code fd.qualname))))))
noncomputable def recB (r : FnRec) : Bool := decide r.ns.Nodup && (decide (r.dvs.length <= r.ns.length) && (!r.sc.isCoroutine && (!r.sc.isGenerator && ((r.sc.kind == .function) &&
     cond r.cells.isEmpty (r.sc.names.all (fun x => x.2 != .cell) && r.ns.all (fun y => r.sc.names.lookup y == some .local))
      (decide r.cells.Nodup && (r.cells.all (fun x => r.sc.names.lookup x == some .cell) && r.ns.all (fun y => r.sc.names.lookup y == some .local || (r.sc.names.lookup y == some .cell && r.cells.contains y))))))))
noncomputable def j0w (K : Frag) (a : Addr) : Bool := (fnD K a).any (fdB K) && (fnK K a).any recB
theorem j0u {fd : FuncData} {b : List Stmt} (h1 : fd.globals = mainGlobals) (h2 : fd.closure = []) (h3 : fd.builtins = builtinsNs) (h4 : fd.body = .stmts b) : fd = { name := fd.name, qualname := fd.qualname, params := fd.params, body := .stmts b, scope := fd.scope, globals := mainGlobals, closure := [], defaults := fd.defaults, kwdefaults := fd.kwdefaults, doc := fd.doc, pyModule := fd.pyModule, annotations := fd.annotations, code := fd.code, closureTuple := fd.closureTuple, builtins := builtinsNs } := by
 (refine rwb h1 ?_; refine rwb h2 ?_; refine rwb h3 ?_; refine rwb h4 ?_; rfl)
theorem x0p {K : Frag} {a : Addr} {fd : FuncData} {b : List Stmt} {dsv : List Value} (h : fdB K fd = true) (hd : fnD K a = some fd) (hb : fd.body = .stmts b) (hv : dfl K fd.defaults = some dsv) : FnIs K a (fd.params.args.map (·.arg)) b fd.scope dsv fd.qualname fd.code := by
 refine hid fun hG => ?_
 obtain ⟨b1, h⟩ := q0m h
 obtain ⟨b2, h⟩ := q0m h
 obtain ⟨b3, h⟩ := q0m h
 obtain ⟨b4, h⟩ := q0m h
 obtain ⟨b5, h⟩ := q0m h
 obtain ⟨b6, h⟩ := q0m h
 obtain ⟨b7, h⟩ := q0m h
 refine e31 (fnD_is hd :) fun oc od osl hl => ?_
 refine hG ?_
 rw [j0u (eq_of_beq b1) (List.isEmpty_iff.mp b2) (eq_of_beq b3) hb] at hl
 exact ⟨hl, List.isEmpty_iff.mp b4, rfl, List.isEmpty_iff.mp b5, Option.isNone_iff_eq_none.mp b6, Option.isNone_iff_eq_none.mp b7, j94 hv, h⟩
theorem j3g {c : Cx} {a : Addr} {r : FnRec} (hb : j0w c.K a = true) (e : fnK c.K a = some r) : FnOk c a r := by
 refine hid fun hG => ?_
 obtain ⟨h1, h2⟩ := q0m hb
 rw [e] at h2
 replace h2 : recB r = true := h2
 obtain ⟨fd, h3, e⟩ := obi e
 rw [h3] at h1
 obtain ⟨b, h4, e⟩ := obi e
 obtain ⟨ds, h5, e⟩ := omi e
 obtain ⟨dsv, h6, h7⟩ := obi h5
 have I := x0p h1 h3 (z2z h4) h6
 obtain ⟨d1, h2⟩ := q0m h2
 obtain ⟨d2, h2⟩ := q0m h2
 obtain ⟨d3, h2⟩ := q0m h2
 obtain ⟨d4, h2⟩ := q0m h2
 obtain ⟨d5, h2⟩ := q0m h2
 refine hG ?_
 refine ⟨?_, of_decide_eq_true d1, of_decide_eq_true d2, q5z d3, q5z d4, eq_of_beq d5, fun hc => ?_, fun hc => ?_⟩
 . refine rwb e ?_
   exact ⟨dsv, _, _, I, fun g => j2r h7⟩
 . rw [hc] at h2
   obtain ⟨q1, q2⟩ := q0m h2
   exact ⟨fun x hx => bne_iff_ne.mp (aet q1 x hx), fun y hy => eq_of_beq (aet q2 y hy)⟩
 . have hn : r.cells.isEmpty = false := by
     cases hx : r.cells with
     | nil => exact absurd hx hc
     | cons _ _ => rfl
   rw [hn] at h2
   refine hid fun hG => ?_
   obtain ⟨q1, h2⟩ := q0m h2
   obtain ⟨q2, q3⟩ := q0m h2
   refine hG ?_
   refine ⟨by (refine rwb e ?_; rfl), of_decide_eq_true q1, fun x hx => eq_of_beq (aet q2 x hx), fun y hy => ?_⟩
   rcases orb (aet q3 y hy) with h | h
   . exact .inl (eq_of_beq h)
   . exact .inr ⟨eq_of_beq (q0m h).1, List.contains_iff_mem.mp (q0m h).2⟩
noncomputable def j04 (v : V) (w : Value) : Bool := j2q v == some w || Option.casesOn (wInt w) false fun i => vInt v == some i
theorem j05 {c : Cx} {v : V} {w : Value} (h : j04 v w = true) (g : Gh) : VR c g v w := by
 rcases orb h with h | h
 . refine rwm (z2s (eq_of_beq h)) ?_
   exact .prim _
 . refine q1v (wInt w) (fun hw => ?_) fun i hw => ?_
   . rw [hw] at h; exact ft h
   .
     rw [hw] at h
     obtain ⟨t, ht⟩ := j8i hw
     (refine rwm ht ?_; refine rwm (q0p (eq_of_beq h)) ?_)
     exact .int _ _
noncomputable def x02 (w : Value) : Bool := match w with
 | .ref _ => true
 | _ => false
noncomputable def x01 (v : V) (w : Value) : Bool := !x02 w && j2q v == some w
theorem z3l {u w : Value} (h : j04 (.prim u) w = true) : w = u := by
 rcases orb h with h | h
 . exact (oi (eq_of_beq h)).symm
 . refine q1v (wInt w) (fun hw => ?_) fun i hw => ?_
   . rw [hw] at h; exact ft h
   . rw [hw] at h; exact ft h
noncomputable def z0q (K : Frag) (p : Str × V) : Bool := !(p.1 == "__debug__") && Option.casesOn (nsIn K mainGlobals p.1) false fun o => Option.casesOn o (!(p.1 == "__name__") && Option.casesOn (bootBuiltins p.1) false fun w => x01 p.2 w) fun w => j04 p.2 w
theorem z10 {K : Frag} {x : Str} {v : V} (h : z0q K (x, v) = true) : (x == ("__debug__" : Str)) = false /\ ((∃ w, nsIn K mainGlobals x = some (some w) /\ j04 v w = true) \/ (nsIn K mainGlobals x = some none /\ (x == ("__name__" : Str)) = false /\ ∃ w, bootBuiltins x = some w /\ x02 w = false /\ v = .prim w)) := by
 obtain ⟨h0, h⟩ := q0m h
 refine ⟨q5z h0, ?_⟩
 dsimp only at h
 refine q1v (nsIn K mainGlobals x) (fun hn => ?_) fun o hn => ?_
 . rw [hn] at h; exact ft h
 .
   rw [hn] at h
   induction o using Option.casesOn with
   | some w => exact .inl ⟨w, rfl, h⟩
   | none =>
     obtain ⟨h1, h⟩ := q0m h
     refine q1v (bootBuiltins x) (fun hb => ?_) fun w hb => ?_
     . rw [hb] at h; exact ft h
     .
       rw [hb] at h
       obtain ⟨h2, h3⟩ := q0m h
       exact .inr ⟨rfl, q5z h1, w, rfl, q5z h2, z2s (eq_of_beq h3)⟩
theorem gl_ok {c : Cx} {x : Str} {v : V} (h : z0q c.K (x, v) = true) (P : Pt) (hk : P.env.scope.names.lookup x = some .globalImplicit) (ρ : Loc) (st : St) (Q : V -> St -> Prop) (X : Exc) (pos : Pos) (q : Q v st) : EvE c P ρ st (.Name x pos) Q X := by
 obtain ⟨hd, ⟨w, hw, h⟩ | ⟨hw, hn, w, hb, _, rfl⟩⟩ := z10 h
 . exact j5r hk hw (j05 h) q hd
 . exact j5n hk hw hb (beq_eq_false_iff_ne.mp hn) q hd
theorem x0u {K : Frag} {x : Str} {C : Addr} (h : z0q K (x, .prim (.ref C)) = true) : nsIn K mainGlobals x = some (some (.ref C)) := by
 obtain ⟨_, ⟨w, hw, h⟩ | ⟨_, _, w, _, hr, e⟩⟩ := z10 h
 . (refine rwm hw ?_; refine rwm (z3l h) ?_; rfl)
 . rw [<- oi (congrArg j2q e)] at hr
   exact tf hr
theorem j92 {K : Frag} {p : Str × V} (h : z0q K p = true) : (p.1 == ("__debug__" : Str)) = false := q5z (q0m h).1
noncomputable def xAtt (e : Expr) : Option (Expr × Str × Pos) := match e with
 | .Attribute a b p => some (a, b, p)
 | _ => none
theorem j8k {e : Expr} {q : Expr × Str × Pos} (h : xAtt e = some q) : e = .Attribute q.1 q.2.1 q.2.2 := by
 induction e using Expr.casesOn with
 | Attribute a b p => exact oi h ▸ rfl
 | _ => exact ns h
noncomputable def sAsg (e : Stmt) : Option (List Expr × Expr × Pos) := match e with
 | .Assign a b p => some (a, b, p)
 | _ => none
theorem j7i {e : Stmt} {q : List Expr × Expr × Pos} (h : sAsg e = some q) : e = .Assign q.1 q.2.1 q.2.2 := by
 induction e using Stmt.casesOn with
 | Assign a b p => exact oi h ▸ rfl
 | _ => exact ns h
noncomputable def xiB (attr : Str) (r : FnRec) : Bool := (two r.ns).any fun s => (one r.body).any fun b => (sAsg b).any fun q => (one q.1).any fun t => (xAtt t).any fun u => (q31 u.1).any fun x => (q31 q.2.1).any fun y =>
 x.1 == s.1 && (u.2.1 == attr && (y.1 == s.2 && (!(s.1 == s.2) && (r.dvs.isEmpty && (r.cells.isEmpty && (!(s.1 == ("__debug__" : Str)) && !(s.2 == ("__debug__" : Str))))))))
noncomputable def j8l (K : Frag) (a fI : Addr) (attr : Str) : Bool := xcB K a && ((findIn K (.ref a) "__init__" == some (some (.ref fI))) && ((typeIn K (.ref fI) == some (.type "function")) && ((findIn K (.ref a) "__setattr__" == some (some (.builtin "object.__setattr__"))) && ((findIn K (.ref a) attr == some none) &&
 (ktsIn K a "BaseException" && (keepIn K (.ref a) && (j0w K fI && (fnK K fI).any (xiB attr))))))))
theorem xi_ok {c : Cx} {fI : Addr} {attr : Str} {r : FnRec} (R : FnOk c fI r) (h : xiB attr r = true) : XiIs c.K fI attr := by
 refine hid fun hG => ?_
 refine e12 (any_is h :) fun s a1 h => ?_
 refine e12 (any_is h :) fun b a2 h => ?_
 refine e12 (any_is h :) fun q a3 h => ?_
 refine e12 (any_is h :) fun t a4 h => ?_
 refine e12 (any_is h :) fun u a5 h => ?_
 refine e12 (any_is h :) fun x a6 h => ?_
 refine e12 (any_is h :) fun y a7 h => ?_
 obtain ⟨b1, h⟩ := q0m h
 obtain ⟨b2, h⟩ := q0m h
 obtain ⟨b3, h⟩ := q0m h
 obtain ⟨b4, h⟩ := q0m h
 obtain ⟨b5, h⟩ := q0m h
 obtain ⟨b6, h⟩ := q0m h
 obtain ⟨b7, b8⟩ := q0m h
 refine hG ?_
 have hns := two_is a1
 have hbd : r.body = [.Assign [.Attribute (.Name s.1 x.2) attr u.2.2] (.Name s.2 y.2) q.2.2] := by
   (refine rwm (q0y a2) ?_; refine rwm (j7i a3) ?_; refine rwm (q0y a4) ?_; refine rwm (j8k a5) ?_; refine rwm (q1n a6) ?_; refine rwm (q1n a7) ?_; refine rwm (eq_of_beq b1) ?_; refine rwm (eq_of_beq b2) ?_; refine rwm (eq_of_beq b3) ?_; rfl)
 have hdv := List.isEmpty_iff.mp b5
 obtain ⟨hcell, hloc⟩ := R.c0 (List.isEmpty_iff.mp b6)
 refine e32 R.is_ fun ds qual cdv hI hds => ?_
 have hds := hds ⟨[], fun W0 => none, fun W0 => none, fun W0 => none⟩
 rw [hdv] at hds
 rw [hns, hbd, hds.nilI] at hI
 rw [hns] at hloc
 exact ⟨hI, fun e => ft ((beq_iff_eq.mpr e).symm.trans (q5z b4)).symm, hcell, hloc _ (.head _), hloc _ (.tail _ (.head _)), R.co, R.gen, R.kind, q5z b7, q5z b8⟩
theorem xc_ok {c : Cx} {a fI : Addr} {attr : Str} (h : j8l c.K a fI attr = true) : keepIn c.K (.ref a) = true /\ q01 c a (.xc fI attr) := by
 refine hid fun hG => ?_
 obtain ⟨h1, h⟩ := q0m h
 obtain ⟨h2, h⟩ := q0m h
 obtain ⟨h3, h⟩ := q0m h
 obtain ⟨h4, h⟩ := q0m h
 obtain ⟨h5, h⟩ := q0m h
 obtain ⟨h6, h⟩ := q0m h
 obtain ⟨h7, h⟩ := q0m h
 obtain ⟨h8, h⟩ := q0m h
 refine e12 (any_is h :) fun r hr h9 => ?_
 refine hG ?_
 exact ⟨h7, ⟨h1, eq_of_beq h2, eq_of_beq h3, eq_of_beq h4, eq_of_beq h5⟩, xi_ok (j3g h8 hr) h9, h6⟩
structure Tabs where
 gl : Tr (List (Str × V))
 ent : Tr Ent
 at_ : Tr (List Str)
 me : Tr (List (Str × Addr))
noncomputable def Tabs.lk (t : Tabs) (orc : Tr (Bool -> Nat -> Bool -> List V -> St -> Out V)) : Lk := {
 gl := fun x => Option.casesOn (z1z x.cps.toList.length t.gl) none fun l => q0f x l
 ent := fun a => Option.casesOn (z1z a orc) (z1z a t.ent) fun f => some (.orc f)
 at_ := fun C x => Option.casesOn (z1z C t.at_) false fun l => z9d x l
 me := fun C x => Option.casesOn (z1z C t.me) none fun l => q0f x l }
noncomputable def entF (e : Ent) : Option FnRec := match e with
 | .fn r => some r
 | _ => none
noncomputable def entC (e : Ent) : Option Addr := match e with
 | .cl f _ => some f
 | _ => none
noncomputable def entX (e : Ent) : Option (Addr × Str) := match e with
 | .xc f s => some (f, s)
 | _ => none
noncomputable def x1j (e : Ent) : Bool := match e with
 | .orc _ => false
 | _ => true
noncomputable def q7v (l : List (Nat × Ent)) : List (Nat × FnRec) := l.filterMap fun p => (entF p.2).map fun r => (p.1, r)
noncomputable def j45 (l : List (Nat × Ent)) : List (Nat × Addr) := l.filterMap fun p => (entC p.2).map fun r => (p.1, r)
noncomputable def j8o (l : List (Nat × Ent)) : List (Nat × Addr × Str) := l.filterMap fun p => (entX p.2).map fun r => (p.1, r)
noncomputable def z04 (l : List (Nat × Ent)) : Bool := l.all fun p => x1j p.2
theorem z6r {a : Nat} {r : FnRec} {l : List (Nat × Ent)} (h : (a, Ent.fn r) ∈ l) : (a, r) ∈ q7v l := List.mem_filterMap.mpr ⟨_, h, rfl⟩
theorem z5m {a f : Nat} {z : Bool} {l : List (Nat × Ent)} (h : (a, Ent.cl f z) ∈ l) : (a, f) ∈ j45 l := List.mem_filterMap.mpr ⟨_, h, rfl⟩
theorem z3x {a : Nat} {f : Bool -> Nat -> Bool -> List V -> St -> Out V} {l : List (Nat × Ent)} (h : z04 l = true) (hm : (a, Ent.orc f) ∈ l) : False := ft (aet h _ hm)
theorem z89 {a f : Nat} {s : Str} {l : List (Nat × Ent)} (h : (a, Ent.xc f s) ∈ l) : (a, f, s) ∈ j8o l := List.mem_filterMap.mpr ⟨_, h, rfl⟩
structure TabsOk (t : Tabs) (K : Frag) : Prop where
 gl : t.gl.list.all (fun q => q.2.all (z0q K)) = true
 free : z04 t.ent.list = true
 fn : (q7v t.ent.list).map (fun p => fnK K p.1) = (q7v t.ent.list).map (fun p => some p.2)
 fnB : (q7v t.ent.list).all (fun p => j0w K p.1 && keepIn K (.ref p.1)) = true
 cl : (j45 t.ent.list).all (fun p => makesIn K p.1 && (findIn K (.ref p.1) "__init__" == some (some (.ref p.2))) && (typeIn K (.ref p.2) == some (.type "function")) && keepIn K (.ref p.1)) = true
 at_ : t.at_.list.all (fun p => p.2.all fun x => q8o K p.1 x && z39 K p.1 x) = true
 me : t.me.list.all (fun p => p.2.all fun x => q9c K p.1 x.1 x.2) = true
 xc : (j8o t.ent.list).all (fun p => j8l K p.1 p.2.1 p.2.2) = true
theorem x1c {α β : Type} {f g : α -> β} {a : α} {l : List α} (h : l.map f = l.map g) (ha : a ∈ l) : f a = g a := List.map_inj_left.mp h a ha
noncomputable def OrcOk (c : Cx) (orc : Tr (Bool -> Nat -> Bool -> List V -> St -> Out V)) : Prop := ∀ a f, (a, f) ∈ orc.list -> keepIn c.K (.ref a) = true /\ q01 c a (.orc f)
theorem j56 {K : Frag} {t : Tabs} {orc : Tr (Bool -> Nat -> Bool -> List V -> St -> Out V)} {x : Str} {v : V} (h : TabsOk t K) (e : (t.lk orc).gl x = some v) : z0q K (x, v) = true := by
 refine e12 (oc_is e :) fun l hl e => ?_
 exact aet (aet h.gl _ (q3o hl)) _ (q0l ((q0b _ _).symm.trans e))
theorem Tabs.ok {c : Cx} {t : Tabs} {orc : Tr (Bool -> Nat -> Bool -> List V -> St -> Out V)} (h : TabsOk t c.K) (hs : q8k c) (ho : OrcOk c orc) : LkOk c (t.lk orc) where
 sys := hs
 gl := fun x v e P hk ρ st Q X pos q => gl_ok (j56 h e) P hk ρ st Q X pos q
 dbg := fun x v e => j92 (j56 h e)
 glx := fun x C e => x0u (j56 h e)
 ent := fun a e he => by
   change Option.casesOn (motive := fun W0 => Option Ent) (z1z a orc) (z1z a t.ent) (fun f => some (.orc f)) = some e at he
   refine z3w (z1z a orc) (fun f hf => ?_) fun hf => ?_
   .
     rw [hf] at he
     cases he
     exact ho _ _ (q3o hf)
   .
     rw [hf] at he
     have hm := q3o he
     induction e using Ent.casesOn with
     | fn r =>
       have hm := z6r hm
       have := aet h.fnB _ hm
       rw [Bool.and_eq_true] at this
       exact ⟨this.2, j3g this.1 (x1c h.fn hm)⟩
     | cl f z =>
       have := aet h.cl _ (z5m hm)
       simp only [Bool.and_eq_true, beq_iff_eq] at this
       exact ⟨this.2, this.1.1.1, this.1.1.2, this.1.2⟩
     | orc f => exact (z3x h.free hm).elim
     | xc f s => exact xc_ok (aet h.xc _ (z89 hm))
 at_ := fun C x e => by
   refine q1v (z1z C t.at_) (fun hl => ?_) fun l hl => ?_
   . exact ft (show Option.casesOn (motive := fun W0 => Bool) none false (fun l => z9d x l) = true from hl ▸ e)
   .
     have e : z9d x l = true := (show Option.casesOn (motive := fun W0 => Bool) (some l) false (fun l => z9d x l) = true from hl ▸ e)
     rw [z62] at e
     exact q0m (aet (aet h.at_ _ (q3o hl)) x (List.contains_iff_mem.mp e))
 me := fun C x f e => by
   refine e12 (oc_is e :) fun l hl e => ?_
   exact aet (aet h.me _ (q3o hl)) (x, f) (q0l ((q0b _ _).symm.trans e))
noncomputable def x2l : List Stmt := PySem.Challenge.pw_nu0140_01.main.body
noncomputable def x2m : List Stmt := x2l.drop 10
noncomputable def x2o : List Stmt := x2m.drop 10
noncomputable def x2p : List Stmt := x2o.drop 10
noncomputable def x2q : List Stmt := x2p.drop 10
noncomputable def x2r : List Stmt := x2q.drop 10
noncomputable def x2s : List Stmt := x2r.drop 10
noncomputable def x2t : List Stmt := x2s.drop 10
noncomputable def x2u : List Stmt := x2t.drop 10
noncomputable def x2v : List Stmt := x2u.drop 10
noncomputable def j3s : List Stmt := x2v.drop 10
noncomputable def j3t : List Stmt := j3s.drop 10
noncomputable def j3u : List Stmt := j3t.drop 10
noncomputable def x2n : List Stmt := j3u.drop 10
noncomputable def top0 (i : Nat) : Option Stmt := x2l[i]?
noncomputable def x2j (i : Nat) : Option Stmt := x2m[i]?
noncomputable def j8z (i : Nat) : Option Stmt := x2o[i]?
noncomputable def top3 (i : Nat) : Option Stmt := x2p[i]?
noncomputable def j3r (i : Nat) : Option Stmt := x2q[i]?
noncomputable def x2k (i : Nat) : Option Stmt := x2r[i]?
noncomputable def z9e (i : Nat) : Option Stmt := x2s[i]?
noncomputable def top7 (i : Nat) : Option Stmt := x2t[i]?
noncomputable def j79 (i : Nat) : Option Stmt := x2u[i]?
noncomputable def z9f (i : Nat) : Option Stmt := x2v[i]?
noncomputable def q1m (i : Nat) : Option Stmt := j3s[i]?
noncomputable def q4v (i : Nat) : Option Stmt := j3t[i]?
noncomputable def q6m (i : Nat) : Option Stmt := j3u[i]?
noncomputable def j78 (i : Nat) : Option Stmt := x2n[i]?
noncomputable def j7e (s : Option Stmt) (ds : List V) (cs : List Str) : FnRec := match s with
 | some (.FunctionDef _ args body _ _ _ scope _ _ _) => ⟨args.args.map (·.arg), body, scope, ds, cs⟩
 | _ => ⟨[], [], ⟨.function, [], false, false, []⟩, ds, cs⟩
noncomputable def q03 (s : Option Stmt) (ds : List V) (cs : List Str) : FnRec := j7e s ds cs
noncomputable def q1u (s : Option Stmt) (j : Nat) (ds : List V) (cs : List Str) : FnRec := match s with
 | some (.ClassDef _ _ _ body _ _ _ _ _ _ _) => j7e body[j]? ds cs
 | _ => j7e none ds cs
noncomputable def z52 : Tr Ent := (.nd (.nd (.nd (.nd (.nd (.nd (.nd (.nd (.nd .lf 35 (.fn (q1u (top0 2) 0 [] [])) .lf) 63 (.xc 35 (Str.ofString "message")) .lf) 84 (.fn (q03 (top0 7) [] [])) .lf) 91 (.fn (q03 (top0 8) [] [])) (.nd .lf 98 (.fn (q03 (top0 9) [] [])) .lf)) 105 (.fn (q03 (x2j 0) [] [])) (.nd (.nd .lf 112 (.fn (q03 (x2j 1) [] [])) .lf) 119 (.fn (q03 (x2j 4) [] [])) (.nd .lf 127 (.fn (q03 (x2j 5) [.int 0] [])) .lf))) 135 (.fn (q03 (x2j 6) [.int 0] [])) (.nd (.nd (.nd .lf 149 (.fn (q1u (j8z 6) 0 [] [])) .lf) 156 (.fn (q1u (j8z 6) 1 [] [])) (.nd .lf 163 (.fn (q1u (j8z 6) 2 [] [])) .lf)) 187 (.cl 149 true) (.nd (.nd .lf 198 (.fn (q03 (j8z 7) [] [])) .lf) 205 (.fn (q03 (j8z 8) [] [])) .lf))) 212 (.fn (q03 (j8z 9) [] [])) (.nd (.nd (.nd (.nd .lf 219 (.fn (q03 (top3 0) [] [])) .lf) 226 (.fn (q03 (top3 1) [] [])) (.nd .lf 233 (.fn (q03 (top3 2) [] [])) .lf)) 248 (.fn (q1u (j3r 3) 0 [.int 0, .int 64, .int 0, .bool false, .bool false, .int 0, .bytes []] [])) (.nd (.nd .lf 255 (.fn (q1u (j3r 3) 1 [] [])) .lf) 286 (.cl 248 true) (.nd .lf 297 (.fn (q03 (j3r 4) [] [])) .lf))) 304 (.fn (q03 (j3r 5) [] [])) (.nd (.nd (.nd .lf 311 (.fn (q03 (j3r 6) [] [])) .lf) 318 (.fn (q03 (j3r 7) [] [])) (.nd .lf 325 (.fn (q03 (j3r 8) [] [])) .lf)) 332 (.fn (q03 (j3r 9) [] [])) (.nd (.nd .lf 339 (.fn (q03 (x2k 0) [] [])) .lf) 346 (.fn (q03 (x2k 6) [] [])) .lf)))) 353 (.fn (q03 (x2k 7) [] [])) (.nd (.nd (.nd (.nd (.nd .lf 360 (.fn (q03 (x2k 8) [] [])) .lf) 367 (.fn (q03 (x2k 9) [] [])) (.nd .lf 375 (.fn (q03 (z9e 0) [.int 0] [])) .lf)) 382 (.fn (q03 (z9e 1) [] [])) (.nd (.nd .lf 389 (.fn (q03 (z9e 2) [] [])) .lf) 396 (.fn (q03 (z9e 3) [] [])) (.nd .lf 410 (.fn (q1u (z9e 5) 0 [] [])) .lf))) 417 (.fn (q1u (z9e 5) 1 [] [])) (.nd (.nd (.nd .lf 424 (.fn (q1u (z9e 5) 2 [] [])) .lf) 431 (.fn (q1u (z9e 5) 3 [] [])) (.nd .lf 445 (.fn (q1u (z9e 5) 5 [] [])) .lf)) 452 (.fn (q1u (z9e 5) 6 [] [])) (.nd (.nd .lf 455 (.cl 410 false) .lf) 473 (.fn (q03 (top7 2) [] [])) .lf))) 487 (.fn (q03 (top7 4) [] [])) (.nd (.nd (.nd (.nd .lf 506 (.fn (q03 (top7 7) [] [])) .lf) 513 (.fn (q03 (j79 0) [] [])) (.nd .lf 520 (.fn (q03 (j79 1) [] [])) .lf)) 527 (.fn (q03 (j79 2) [] [])) (.nd (.nd .lf 534 (.fn (q03 (j79 3) [] [])) .lf) 541 (.fn (q03 (j79 7) [] [])) (.nd .lf 548 (.fn (q03 (j79 8) [] [])) .lf))) 555 (.fn (q03 (j79 9) [] [])) (.nd (.nd (.nd .lf 570 (.fn (q1u (z9f 0) 0 [.int 0] [])) .lf) 587 (.cl 570 true) (.nd .lf 605 (.fn (q1u (z9f 1) 0 [] [])) .lf)) 612 (.fn (q1u (z9f 1) 1 [] [])) (.nd (.nd .lf 619 (.fn (q1u (z9f 1) 2 [] [])) .lf) 633 (.fn (q1u (z9f 1) 4 [] [])) .lf))))) 636 (.cl 605 false) (.nd (.nd (.nd (.nd (.nd (.nd .lf 647 (.fn (q03 (z9f 2) [] [])) .lf) 661 (.fn (q1u (z9f 3) 0 [] [])) (.nd .lf 675 (.fn (q1u (z9f 3) 2 [] [])) .lf)) 682 (.fn (q1u (z9f 3) 3 [] [])) (.nd (.nd .lf 710 (.fn (q1u (z9f 3) 7 [] [])) .lf) 720 (.cl 661 false) (.nd .lf 738 (.fn (q1u (q1m 1) 0 [] [])) .lf))) 741 (.cl 738 true) (.nd (.nd (.nd .lf 752 (.fn (q03 (q1m 2) [] [])) .lf) 767 (.fn (q1u (q1m 3) 0 [.bool false] [])) (.nd .lf 774 (.fn (q1u (q1m 3) 1 [] [])) .lf)) 781 (.fn (q1u (q1m 3) 2 [] [])) (.nd (.nd .lf 788 (.fn (q1u (q1m 3) 3 [] [])) .lf) 795 (.fn (q1u (q1m 3) 4 [] [])) .lf))) 802 (.fn (q1u (q1m 3) 5 [] [])) (.nd (.nd (.nd (.nd .lf 809 (.fn (q1u (q1m 3) 6 [] [])) .lf) 816 (.fn (q1u (q1m 3) 7 [] [])) (.nd .lf 823 (.fn (q1u (q1m 3) 8 [] [])) .lf)) 831 (.fn (q1u (q1m 3) 9 [.int 64, .bool false] [])) (.nd (.nd .lf 848 (.cl 767 false) .lf) 866 (.fn (q1u (q1m 6) 0 [] [])) (.nd .lf 873 (.fn (q1u (q1m 6) 1 [] [])) .lf))) 880 (.fn (q1u (q1m 6) 2 [] [])) (.nd (.nd (.nd .lf 887 (.fn (q1u (q1m 6) 3 [] [])) .lf) 894 (.fn (q1u (q1m 6) 4 [] [])) (.nd .lf 897 (.cl 866 false) .lf)) 915 (.fn (q1u (q1m 7) 0 [] [])) (.nd (.nd .lf 922 (.fn (q1u (q1m 7) 1 [] [])) .lf) 929 (.fn (q1u (q1m 7) 2 [] [])) .lf)))) 936 (.fn (q1u (q1m 7) 3 [] [])) (.nd (.nd (.nd (.nd (.nd .lf 941 (.fn (q1u (q1m 7) 4 [] [])) .lf) 951 (.cl 915 false) (.nd .lf 962 (.fn (q03 (q1m 8) [] [])) .lf)) 969 (.fn (q03 (q1m 9) [] [])) (.nd (.nd .lf 976 (.fn (q03 (q4v 0) [] [])) .lf) 991 (.fn (q1u (q4v 1) 0 [.int 65535] [])) (.nd .lf 998 (.fn (q1u (q4v 1) 1 [] [])) .lf))) 1003 (.fn (q1u (q4v 1) 2 [] [Str.ofString "self"])) (.nd (.nd (.nd .lf 1017 (.fn (q1u (q4v 1) 4 [] [])) .lf) 1034 (.cl 991 false) (.nd .lf 1045 (.fn (q03 (q4v 3) [] [])) .lf)) 1052 (.fn (q03 (q4v 4) [] [])) (.nd (.nd .lf 1059 (.fn (q03 (q4v 5) [] [])) .lf) 1064 (.fn (q03 (q4v 6) [] [Str.ofString "source"])) .lf))) 1071 (.fn (q03 (q4v 7) [] [])) (.nd (.nd (.nd (.nd .lf 1078 (.fn (q03 (q4v 8) [] [])) .lf) 1085 (.fn (q03 (q4v 9) [] [])) (.nd .lf 1092 (.fn (q03 (q6m 0) [] [])) .lf)) 1099 (.fn (q03 (q6m 1) [] [])) (.nd (.nd .lf 1106 (.fn (q03 (q6m 2) [] [])) .lf) 1111 (.fn (q03 (q6m 3) [] [])) (.nd .lf 1118 (.fn (q03 (q6m 4) [] [])) .lf))) 1125 (.fn (q03 (q6m 5) [] [])) (.nd (.nd (.nd .lf 1130 (.fn (q03 (q6m 6) [] [])) .lf) 1137 (.fn (q03 (q6m 7) [] [])) (.nd .lf 1142 (.fn (q03 (q6m 8) [] [Str.ofString "other", Str.ofString "at"])) .lf)) 1149 (.fn (q03 (q6m 9) [] [])) (.nd (.nd .lf 1156 (.fn (q03 (j78 0) [] [])) .lf) 1163 (.fn (q03 (j78 1) [] [])) .lf))))))
noncomputable def gls : Tr (List (Str × V)) := (.nd (.nd (.nd (.nd (.nd .lf 3 ([(Str.ofString "ALL", .int 4294967295), (Str.ofString "END", .int 0), (Str.ofString "cut", .prim (.ref 534)), (Str.ofString "int", .prim (.type "int")), (Str.ofString "len", .prim (.builtin "len")), (Str.ofString "max", .prim (.builtin "max")), (Str.ofString "min", .prim (.builtin "min")), (Str.ofString "sum", .prim (.builtin "sum"))]) .lf) 4 ([(Str.ofString "BITS", .int 32), (Str.ofString "ECHO", .int 8), (Str.ofString "ICMP", .int 1), (Str.ofString "fold", .prim (.ref 119)), (Str.ofString "need", .prim (.ref 98))]) .lf) 5 ([(Str.ofString "Holes", .prim (.ref 897)), (Str.ofString "Route", .prim (.ref 587)), (Str.ofString "about", .prim (.ref 382)), (Str.ofString "bytes", .prim (.type "bytes")), (Str.ofString "get16", .prim (.ref 105)), (Str.ofString "get32", .prim (.ref 112)), (Str.ofString "put16", .prim (.ref 84)), (Str.ofString "put32", .prim (.ref 91)), (Str.ofString "range", .prim (.type "range"))]) (.nd .lf 6 ([(Str.ofString "Branch", .prim (.ref 636)), (Str.ofString "NO_NET", .int 0), (Str.ofString "Routes", .prim (.ref 720)), (Str.ofString "bit_at", .prim (.ref 647)), (Str.ofString "copied", .prim (.ref 506)), (Str.ofString "key_of", .prim (.ref 969)), (Str.ofString "net_of", .prim (.ref 548)), (Str.ofString "sorted", .prim (.builtin "sorted"))]) .lf)) 7 ([(Str.ofString "FaceRow", .prim (.ref 741)), (Str.ofString "IpLayer", .prim (.ref 848)), (Str.ofString "NOTHING", .int 1), (Str.ofString "PROBLEM", .int 12), (Str.ofString "VERSION", .int 4), (Str.ofString "mask_of", .prim (.ref 541)), (Str.ofString "pack_ip", .prim (.ref 325)), (Str.ofString "room_of", .prim (.ref 527))]) (.nd (.nd .lf 8 ([(Str.ofString "ALL_ONES", .int 65535), (Str.ofString "COPY_BIT", .int 128), (Str.ofString "DONT_BIT", .int 16384), (Str.ofString "Datagram", .prim (.ref 951)), (Str.ofString "IcmpSide", .prim (.ref 455)), (Str.ofString "IpHeader", .prim (.ref 286)), (Str.ofString "LOOP_NET", .int 127), (Str.ofString "MORE_BIT", .int 8192), (Str.ofString "REDIRECT", .int 5), (Str.ofString "_law_FAR", .prim (.ref 1092)), (Str.ofString "_law_NET", .prim (.ref 1071)), (Str.ofString "_law_due", .prim (.ref 1156)), (Str.ofString "_law_one", .prim (.ref 1059)), (Str.ofString "checksum", .prim (.ref 135)), (Str.ofString "flags_of", .prim (.ref 318)), (Str.ofString "is_group", .prim (.ref 346)), (Str.ofString "may_tell", .prim (.ref 367)), (Str.ofString "ones_sum", .prim (.ref 127))]) .lf) 9 ([(Str.ofString "ALL_HOSTS", .int 4294967295), (Str.ofString "HEAD_SIZE", .int 8), (Str.ofString "SizeError", .prim (.ref 63)), (Str.ofString "MOST_HEAD", .int 60), (Str.ofString "TOO_GREAT", .int 4), (Str.ofString "TTL_PLACE", .int 8), (Str.ofString "_law_HOST", .prim (.ref 1078)), (Str.ofString "_law_NEAR", .prim (.ref 1085)), (Str.ofString "_law_done", .prim (.ref 1130)), (Str.ofString "_law_node", .prim (.ref 1111)), (Str.ofString "_law_pool", .prim (.ref 1045)), (Str.ofString "_law_sent", .prim (.ref 1125)), (Str.ofString "_law_take", .prim (.ref 1052)), (Str.ofString "answer_to", .prim (.ref 396)), (Str.ofString "echo_rest", .prim (.ref 226)), (Str.ofString "head_size", .prim (.ref 332)), (Str.ofString "is_within", .prim (.ref 297)), (Str.ofString "pack_icmp", .prim (.ref 212)), (Str.ofString "unpack_ip", .prim (.ref 339))]) (.nd .lf 10 ([(Str.ofString "ECHO_REPLY", .int 0), (Str.ofString "IN_TRANSIT", .int 0), (Str.ofString "LEAST_HEAD", .int 20), (Str.ofString "MOST_TOTAL", .int 65535), (Str.ofString "PLACE_BITS", .int 8191), (Str.ofString "Reassembly", .prim (.ref 1034)), (Str.ofString "_law_OTHER", .prim (.ref 1099)), (Str.ofString "_law_nodes", .prim (.ref 1118)), (Str.ofString "check_size", .prim (.ref 311))]) .lf))) 11 ([(Str.ofString "FIRST_GROUP", .int 3758096384), (Str.ofString "IcmpMessage", .prim (.ref 187)), (Str.ofString "_law_octets", .prim (.ref 1064)), (Str.ofString "_law_packet", .prim (.ref 1149)), (Str.ofString "_law_routes", .prim (.ref 1106)), (Str.ofString "check_octet", .prim (.ref 205)), (Str.ofString "echo_answer", .prim (.ref 389)), (Str.ofString "header_like", .prim (.ref 752)), (Str.ofString "is_one_host", .prim (.ref 353)), (Str.ofString "part_header", .prim (.ref 520)), (Str.ofString "unpack_icmp", .prim (.ref 219))]) (.nd (.nd (.nd .lf 12 ([(Str.ofString "FIRST_OCTETS", .int 8), (Str.ofString "LEAST_HEADER", .int 20), (Str.ofString "MOST_OPTIONS", .int 40), (Str.ofString "_law_carried", .prim (.ref 1142)), (Str.ofString "_law_reached", .prim (.ref 1137)), (Str.ofString "check_fields", .prim (.ref 304)), (Str.ofString "echo_message", .prim (.ref 233)), (Str.ofString "is_bad_piece", .prim (.ref 976)), (Str.ofString "is_broadcast", .prim (.ref 555)), (Str.ofString "read_options", .prim (.ref 473)), (Str.ofString "whole_header", .prim (.ref 962))]) .lf) 13 ([(Str.ofString "EXCEEDED_icmp", .int 11), (Str.ofString "SOURCE_QUENCH", .int 4), (Str.ofString "carries_error", .prim (.ref 360)), (Str.ofString "error_message", .prim (.ref 375)), (Str.ofString "is_error_kind", .prim (.ref 198)), (Str.ofString "later_options", .prim (.ref 513)), (Str.ofString "write_options", .prim (.ref 487))]) (.nd .lf 14 ([(Str.ofString "STEP_fragments", .int 8)]) .lf)) 15 ([(Str.ofString "STEP_reassembly", .int 8), (Str.ofString "_law_told_right", .prim (.ref 1163))]) (.nd (.nd .lf 16 ([(Str.ofString "UNREACHABLE_icmp", .int 3)]) .lf) 17 ([(Str.ofString "EXCEEDED_ip_layer", .int 11)]) (.nd .lf 20 ([(Str.ofString "UNREACHABLE_ip_layer", .int 3)]) .lf))))
noncomputable def ats : Tr (List Str) := (.nd (.nd (.nd (.nd .lf 187 ([Str.ofString "kind", Str.ofString "code", Str.ofString "rest", Str.ofString "payload"]) .lf) 286 ([Str.ofString "source", Str.ofString "target", Str.ofString "protocol", Str.ofString "ident", Str.ofString "ttl", Str.ofString "tos", Str.ofString "dont", Str.ofString "more", Str.ofString "offset", Str.ofString "options"]) .lf) 455 ([Str.ofString "answers", Str.ofString "errors", Str.ofString "last_number"]) (.nd (.nd .lf 587 ([Str.ofString "net", Str.ofString "prefix", Str.ofString "gateway", Str.ofString "face", Str.ofString "metric"]) .lf) 636 ([Str.ofString "zero", Str.ofString "one", Str.ofString "routes"]) .lf)) 720 ([Str.ofString "root", Str.ofString "many"]) (.nd (.nd (.nd .lf 741 ([Str.ofString "address", Str.ofString "prefix", Str.ofString "mtu"]) .lf) 848 ([Str.ofString "faces", Str.ofString "routes", Str.ofString "reassembly", Str.ofString "forwards", Str.ofString "last_ident"]) .lf) 897 ([Str.ofString "most", Str.ofString "rows"]) (.nd (.nd .lf 951 ([Str.ofString "began", Str.ofString "most", Str.ofString "holes", Str.ofString "parts", Str.ofString "end", Str.ofString "ahead", Str.ofString "first", Str.ofString "size"]) .lf) 1034 ([Str.ofString "time_limit", Str.ofString "most_octets", Str.ofString "most", Str.ofString "waiting"]) .lf)))
noncomputable def mes : Tr (List (Str × Addr)) := (.nd (.nd (.nd (.nd .lf 187 ([(Str.ofString "is_error", 156), (Str.ofString "is_echo", 163)]) .lf) 286 ([(Str.ofString "size", 255)]) .lf) 455 ([(Str.ofString "input", 417), (Str.ofString "keep_error", 424), (Str.ofString "tell", 431), (Str.ofString "take_answer", 445), (Str.ofString "take_error", 452)]) (.nd (.nd .lf 587 ([]) .lf) 636 ([(Str.ofString "child", 612), (Str.ofString "set_child", 619), (Str.ofString "best", 633)]) .lf)) 720 ([(Str.ofString "path", 675), (Str.ofString "add", 682), (Str.ofString "find", 710)]) (.nd (.nd (.nd .lf 741 ([]) .lf) 848 ([(Str.ofString "next_ident", 774), (Str.ofString "is_own", 781), (Str.ofString "is_told_to_all", 788), (Str.ofString "input", 795), (Str.ofString "deliver", 802), (Str.ofString "forward", 809), (Str.ofString "packets", 816), (Str.ofString "source_for", 823), (Str.ofString "output", 831)]) .lf) 897 ([(Str.ofString "fill", 873), (Str.ofString "end_at", 880), (Str.ofString "reach", 887), (Str.ofString "is_whole", 894)]) (.nd (.nd .lf 951 ([(Str.ofString "is_against", 922), (Str.ofString "put", 929), (Str.ofString "is_whole", 936), (Str.ofString "octets", 941)]) .lf) 1034 ([(Str.ofString "put", 998), (Str.ofString "stored", 1003), (Str.ofString "make_room", 1017)]) .lf)))
noncomputable def tabs : Tabs := ⟨gls, z52, ats, mes⟩
noncomputable def j95 (lo hi : Int) (k : Int) : Dm -> Bool
 | .set l => l.all fun j => decide (lo <= j + k /\ j + k <= hi)
 | .rng a b => decide (lo <= a + k /\ b + k <= hi)
noncomputable def zIn (lo hi : Int) : Z -> Bool
 | .c i => decide (lo <= i /\ i <= hi)
 | .s _ k d => j95 lo hi k d
noncomputable def j8r (l : List Str) : List Str -> Bool := List.rec (fun m => List.casesOn m true fun W0 W0 => false) (fun a W0 ih m => List.casesOn m false fun b r => cond (eqS a b) (ih r) false) l
noncomputable def z63 (h : Hdr) : List (Str × V) := [(Str.ofString "source", h.src.toV), (Str.ofString "target", h.tgt.toV), (Str.ofString "protocol", .int h.proto), (Str.ofString "ident", h.ident.toV), (Str.ofString "ttl", h.ttl.toV), (Str.ofString "tos", .int 0), (Str.ofString "dont", .bool h.dont), (Str.ofString "more", .bool h.more), (Str.ofString "offset", .int h.off), (Str.ofString "options", .bytes [])]
noncomputable def j58 (h : Hdr) : V := .ob 286 (z63 h)
theorem q0o {a b : Bool} (h : cond a b false = true) : a = true /\ b = true := by
 induction a using Bool.casesOn with
 | true => exact ⟨rfl, h⟩
 | false => exact ft h
theorem opt_cond {α : Type} {o : Option α} {f : α -> Bool} (h : Option.casesOn (motive := fun W0 => Bool) o false f = true) : ∃ a, o = some a /\ f a = true := by
 induction o using Option.casesOn with
 | none => exact ft h
 | some a => exact ⟨a, rfl, h⟩
theorem z0i : ∀ {l m : List Str}, j8r l m = true -> l = m
 | [], [], _ => rfl
 | [], _ :: _, h => ft h
 | _ :: _, [], h => ft h
 | a :: l, b :: m, h => by
   obtain ⟨h1, h2⟩ := q0o (show cond (eqS a b) (j8r l m) false = true from h)
   (refine rwm (q3m h1) ?_; refine rwm (z0i h2) ?_; rfl)
noncomputable def q76 (v : V) : V -> Bool := V.rec (motive_1 := fun W0 => V -> Bool) (motive_2 := fun W0 => List V -> Bool) (motive_3 := fun W0 => List (Str × V) -> Bool) (motive_4 := fun W0 => Str × V -> Bool)
 (fun w => w.isNone) (fun b w => Option.casesOn (z1e w) false fun c => b == c) (fun i w => Option.casesOn (vInt w) false fun j => i == j) (fun n k d w => Option.casesOn (q8e w) false fun p => decide ((n, k, d) = p)) (fun W0 W0 => false) (fun b w => Option.casesOn (q2q w) false fun c => decide (b = c)) (fun W0 W0 => false) (fun W0 W0 => false) (fun n w => Option.casesOn (z83 w) false fun m => Nat.beq n m)
 (fun W0 W0 W0 => false) (fun W0 ih w => Option.casesOn (j8f w) false ih) (fun C W0 ih w => Option.casesOn (vOb w) false fun p => cond (Nat.beq C p.1) (ih p.2) false) (fun ks W0 ih w => Option.casesOn (vDct w) false fun p => cond (j8r ks p.1) (ih p.2) false) (fun W0 W0 W0 W0 => false)
 (fun l => l.isEmpty) (fun W0 W0 h t l => List.casesOn l false fun v vs => cond (h v) (t vs) false)
 (fun l => l.isEmpty) (fun W0 W0 h t l => List.casesOn l false fun p ps => cond (h p) (t ps) false) (fun s W0 ih p => cond (eqS s p.1) (ih p.2) false) v
noncomputable def j3o (l : List V) : List V -> Bool := V.rec_1 (motive_1 := fun W0 => V -> Bool) (motive_2 := fun W0 => List V -> Bool) (motive_3 := fun W0 => List (Str × V) -> Bool) (motive_4 := fun W0 => Str × V -> Bool)
 (fun w => w.isNone) (fun b w => Option.casesOn (z1e w) false fun c => b == c) (fun i w => Option.casesOn (vInt w) false fun j => i == j) (fun n k d w => Option.casesOn (q8e w) false fun p => decide ((n, k, d) = p)) (fun W0 W0 => false) (fun b w => Option.casesOn (q2q w) false fun c => decide (b = c)) (fun W0 W0 => false) (fun W0 W0 => false) (fun n w => Option.casesOn (z83 w) false fun m => Nat.beq n m)
 (fun W0 W0 W0 => false) (fun W0 ih w => Option.casesOn (j8f w) false ih) (fun C W0 ih w => Option.casesOn (vOb w) false fun p => cond (Nat.beq C p.1) (ih p.2) false) (fun ks W0 ih w => Option.casesOn (vDct w) false fun p => cond (j8r ks p.1) (ih p.2) false) (fun W0 W0 W0 W0 => false)
 (fun l => l.isEmpty) (fun W0 W0 h t l => List.casesOn l false fun v vs => cond (h v) (t vs) false)
 (fun l => l.isEmpty) (fun W0 W0 h t l => List.casesOn l false fun p ps => cond (h p) (t ps) false) (fun s W0 ih p => cond (eqS s p.1) (ih p.2) false) l
noncomputable def z2l (l : List (Str × V)) : List (Str × V) -> Bool := V.rec_2 (motive_1 := fun W0 => V -> Bool) (motive_2 := fun W0 => List V -> Bool) (motive_3 := fun W0 => List (Str × V) -> Bool) (motive_4 := fun W0 => Str × V -> Bool)
 (fun w => w.isNone) (fun b w => Option.casesOn (z1e w) false fun c => b == c) (fun i w => Option.casesOn (vInt w) false fun j => i == j) (fun n k d w => Option.casesOn (q8e w) false fun p => decide ((n, k, d) = p)) (fun W0 W0 => false) (fun b w => Option.casesOn (q2q w) false fun c => decide (b = c)) (fun W0 W0 => false) (fun W0 W0 => false) (fun n w => Option.casesOn (z83 w) false fun m => Nat.beq n m)
 (fun W0 W0 W0 => false) (fun W0 ih w => Option.casesOn (j8f w) false ih) (fun C W0 ih w => Option.casesOn (vOb w) false fun p => cond (Nat.beq C p.1) (ih p.2) false) (fun ks W0 ih w => Option.casesOn (vDct w) false fun p => cond (j8r ks p.1) (ih p.2) false) (fun W0 W0 W0 W0 => false)
 (fun l => l.isEmpty) (fun W0 W0 h t l => List.casesOn l false fun v vs => cond (h v) (t vs) false)
 (fun l => l.isEmpty) (fun W0 W0 h t l => List.casesOn l false fun p ps => cond (h p) (t ps) false) (fun s W0 ih p => cond (eqS s p.1) (ih p.2) false) l
mutual
theorem q2y : ∀ (v w : V), q76 v w = true -> v = w
 | .none, w, h => by cases w <;> first | rfl | exact ft h
 | .bool b, w, h => by obtain ⟨c, h1, h2⟩ := opt_cond h; (refine rwm (q48 h1) ?_; refine rwm (eq_of_beq h2) ?_; rfl)
 | .int b, w, h => by obtain ⟨c, h1, h2⟩ := opt_cond h; (refine rwm (q0p h1) ?_; refine rwm (eq_of_beq h2) ?_; rfl)
 | .sint n k d, w, h => by
   obtain ⟨c, h1, h2⟩ := opt_cond h
   obtain rfl := of_decide_eq_true h2
   (refine rwm (q2z h1) ?_; rfl)
 | .bytes b, w, h => by obtain ⟨c, h1, h2⟩ := opt_cond h; (refine rwm (q1i h1) ?_; refine rwm (of_decide_eq_true h2) ?_; rfl)
 | .ref b, w, h => by obtain ⟨c, h1, h2⟩ := opt_cond h; (refine rwm (q3e h1) ?_; refine rwm (Nat.eq_of_beq_eq_true h2) ?_; rfl)
 | .lst vs, w, h => by obtain ⟨c, h1, h2⟩ := opt_cond h; (refine rwm (q8d h1) ?_; refine rwm (sameVs_ok vs c h2) ?_; rfl)
 | .ob C fs, w, h => by
   obtain ⟨c, h1, h2⟩ := opt_cond h
   obtain ⟨h3, h4⟩ := q0o h2
   (refine rwm (q9x h1) ?_; refine rwm (Nat.eq_of_beq_eq_true h3) ?_; refine rwm (sameFs_ok fs c.2 h4) ?_; rfl)
 | .dct ks vs, w, h => by
   obtain ⟨c, h1, h2⟩ := opt_cond h
   obtain ⟨h3, h4⟩ := q0o h2
   (refine rwm (j8e h1) ?_; refine rwm (z0i h3) ?_; refine rwm (sameVs_ok vs c.2 h4) ?_; rfl)
 | .str _, _, h => ft h
 | .sb _, _, h => ft h
 | .prim _, _, h => ft h
 | .tup _, _, h => ft h
 | .rng .., _, h => ft h
theorem sameVs_ok : ∀ (v w : List V), j3o v w = true -> v = w
 | [], w, h => (List.isEmpty_iff.mp h).symm
 | v :: vs, [], h => ft h
 | v :: vs, w :: ws, h => by
   obtain ⟨h1, h2⟩ := q0o (show cond (q76 v w) (j3o vs ws) false = true from h)
   (refine rwm (q2y v w h1) ?_; refine rwm (sameVs_ok vs ws h2) ?_; rfl)
theorem sameFs_ok : ∀ (v w : List (Str × V)), z2l v w = true -> v = w
 | [], w, h => (List.isEmpty_iff.mp h).symm
 | (s, v) :: vs, [], h => ft h
 | (s, v) :: vs, (t, w) :: ws, h => by
   obtain ⟨h1, h2⟩ := q0o (show cond (cond (eqS s t) (q76 v w) false) (z2l vs ws) false = true from h)
   obtain ⟨h3, h4⟩ := q0o h1
   (refine rwm (q3m h3) ?_; refine rwm (q2y v w h4) ?_; refine rwm (sameFs_ok vs ws h2) ?_; rfl)
end
noncomputable def j8t (fs : List (Str × V)) (n : Nat) : Option V := (fs[n]?).map (·.2)
noncomputable def zD (o : Option V) : Z := (o.bind vz).getD (.c 0)
noncomputable def iD (o : Option V) : Int := (o.bind vInt).getD 0
noncomputable def hdrC (fs : List (Str × V)) (d m : Bool) : Hdr := ⟨zD (j8t fs 0), zD (j8t fs 1), iD (j8t fs 2), zD (j8t fs 3), zD (j8t fs 4), d, m, iD (j8t fs 8)⟩
noncomputable def hdrB (fs : List (Str × V)) (q : (Str × V) × Str × V) (h : Hdr) : Option Hdr := cond (z2l (fs.take 6) ((z63 h).take 6) && (eqS q.1.1 (Str.ofString "dont") && eqS q.2.1 (Str.ofString "more")) && z2l (fs.drop 8) ((z63 h).drop 8)) (some h) none
noncomputable def j57 (fs : List (Str × V)) : Option Hdr := (two ((fs.drop 6).take 2)).bind fun q => (z1e q.1.2).bind fun d => (z1e q.2.2).bind fun m => hdrB fs q (hdrC fs d m)
noncomputable def z66 (h : Hdr) : Bool := zIn 0 4294967295 h.src && zIn 0 4294967295 h.tgt && decide (0 <= h.proto /\ h.proto < 256) && zIn 0 65535 h.ident && zIn 0 255 h.ttl && decide (0 <= h.off /\ h.off < 65536 /\ h.off % 8 = 0)
noncomputable def j1j : List Str := [Str.ofString "kind", Str.ofString "code", Str.ofString "rest", Str.ofString "payload"]
noncomputable def msgV (k c : Int) (z : Z) (p : SB) : V := .ob 187 [(Str.ofString "kind", .int k), (Str.ofString "code", .int c), (Str.ofString "rest", z.toV), (Str.ofString "payload", .sb p)]
structure Msg where
 k : Int
 c : Int
 z : Z
 p : SB
noncomputable def j6n (fs : List (Str × V)) : Option Msg := cond (j8r (fs.map (·.1)) j1j) (List.casesOn fs none fun a l => (three l).bind fun q => (vInt a.2).bind fun k => (vInt q.1.2).bind fun c => (vz q.2.1.2).bind fun z => (vSb q.2.2.2).map fun p => ⟨k, c, z, p⟩) none
noncomputable def x1m (i : Int) : Bool := decide (0 <= i /\ i < 256)
noncomputable def St.up (st : St) : St := ⟨st.nx + 1, z5x st.nx st.l⟩
noncomputable def q54 (vs : List V) (st : St) : Option (V × St) := (two vs).bind fun q => (vOb q.1).bind fun o => (vSb q.2).bind fun p => (j57 o.2).bind fun h => cond (Nat.beq o.1 286 && z66 h && Nat.ble (20 + p.len) 65535) (some (.sb (.ip h p), st)) none
noncomputable def x14 (b : SB) : Option (Hdr × SB) := match b with
 | .ip h p => some (h, p)
 | _ => none
theorem z1b {b : SB} {q : Hdr × SB} (h : x14 b = some q) : b = .ip q.1 q.2 := by
 induction b using SB.casesOn with
 | ip h p => exact oi h ▸ rfl
 | _ => exact ns h
noncomputable def q55 (vs : List V) (st : St) : Option (V × St) := (one vs).bind fun v => (vSb v).bind fun b => (x14 b).map fun q => (.tup [j58 q.1, .sb q.2], st.up)
noncomputable def q2n (vs : List V) (st : St) : Option (V × St) := (one vs).bind fun v => (vOb v).bind fun o => (j6n o.2).bind fun m => cond (Nat.beq o.1 187 && x1m m.k && x1m m.c && zIn 0 4294967295 m.z && Nat.ble m.p.len 60000) (some (.sb (.icmp m.k m.c m.z m.p), st)) none
noncomputable def j3p (b : SB) : Option Msg := match b with
 | .icmp k c z p => some ⟨k, c, z, p⟩
 | _ => none
theorem z8m {b : SB} {q : Msg} (h : j3p b = some q) : b = .icmp q.k q.c q.z q.p := by
 induction b using SB.casesOn with
 | icmp k c z p => exact oi h ▸ rfl
 | _ => exact ns h
noncomputable def q3d (vs : List V) (st : St) : Option (V × St) := (one vs).bind fun v => (vSb v).bind fun b => (j3p b).map fun m => (msgV m.k m.c m.z m.p, st.up)
noncomputable def z7a (k : Int) : Bool := k == 3 || k == 4 || k == 5 || k == 11 || k == 12
noncomputable def sbSl (b : SB) : Option (SB × Nat × Nat) := match b with
 | .sl x lo n => some (x, lo, n)
 | _ => none
theorem j7n {b : SB} {q : SB × Nat × Nat} (h : sbSl b = some q) : b = .sl q.1 q.2.1 q.2.2 := by
 induction b using SB.casesOn with
 | sl x lo n => exact oi h ▸ rfl
 | _ => exact ns h
noncomputable def z8b (vs : List V) (st : St) : Option (V × St) := (one vs).bind fun v => (vOb v).bind fun o => (j6n o.2).bind fun m => cond (Nat.beq o.1 187 && z7a m.k) (Option.casesOn (x14 m.p)
   ((sbSl m.p).bind fun x => (x14 x.1).bind fun q => cond (Nat.beq x.2.1 0 && Nat.ble 20 x.2.2) (some (.tup [j58 q.1, .sb (j8s q.2 0 (x.2.2 - 20))], st.up)) none)
   fun q => some (.tup [j58 q.1, .sb q.2], st.up)) none
noncomputable def z8i (vs : List V) (st : St) : Option (V × St) := (one vs).bind fun v => (q2q v).bind fun b => cond b.isEmpty (some (.bytes [], st.up)) none
noncomputable def j27 (o : Option AO) : Option (List (List Z × V)) := match o with
 | some (.tab l none) => some l
 | _ => none
theorem z4p {o : Option AO} {l : List (List Z × V)} (h : j27 o = some l) : o = some (.tab l none) := by
 induction o using Option.casesOn with
 | none => exact ns h
 | some o =>
   induction o using AO.casesOn with
   | tab l p =>
     induction p using Option.casesOn with
     | some _ => exact ns h
     | none => exact congrArg (fun x => some (AO.tab x none)) (oi h)
   | _ => exact ns h
noncomputable def j16 (st : St) (p : List Z × V) (l : List (List Z × V)) : Option (V × St) := cond l.isEmpty ((q36 st p.2).bind fun q => ((q0f "size" q.2).bind vInt).bind fun i => cond (Nat.beq q.1 951) (some (.int i, st)) none) none
noncomputable def j15 (st : St) (l : List (List Z × V)) : Option (V × St) := List.casesOn l (some (.int 0, st)) (j16 st)
noncomputable def j14 (v : V) (st : St) : Option (V × St) := (q36 st v).bind fun q => ((q0f "waiting" q.2).bind z83).bind fun m => cond (Nat.beq q.1 1034) ((j27 (st.get m)).bind (j15 st)) none
noncomputable def z1a (vs : List V) (st : St) : Option (V × St) := (one vs).bind fun v => j14 v (st.new (.cell (some v)))
noncomputable def room (k : Nat) (f : List V -> St -> Option (V × St)) : Bool -> Nat -> Bool -> List V -> St -> Out V := fun W0 d W0 vs st => cond (Nat.ble k d) (outP (f vs st)) .bad
noncomputable def allZ (f : Int -> Option α) [DecidableEq α] : Z -> Option α
 | .c i => f i
 | .s _ k (.set l) => (q26 (l.map fun j => f (j + k))).bind q96
 | _ => none
noncomputable def q2v (a : Int) : Bool := a != 0 && !(decide (a >= 3758096384)) && (a.fdiv 16777216 != 127)
noncomputable def q74 (vs : List V) (st : St) : Option (V × St) := (one vs).bind fun v => ((vz v).bind (allZ fun a => some (q2v a))).map fun b => (.bool b, st)
noncomputable def rtV (net prefix_ gw face : Int) : V := .ob 587 [(Str.ofString "net", .int net), (Str.ofString "prefix", .int prefix_), (Str.ofString "gateway", .int gw), (Str.ofString "face", .int face), (Str.ofString "metric", .int 0)]
noncomputable def brV (z o : V) (rs : List V) : V := .ob 636 [(Str.ofString "zero", z), (Str.ofString "one", o), (Str.ofString "routes", .lst rs)]
noncomputable def bz (x : V) : V := brV x .none []
noncomputable def z08 (root : V) : V := .ob 720 [(Str.ofString "root", root), (Str.ofString "many", .int 2)]
noncomputable def j7h : V := z08 (brV (bz (bz (bz (bz (bz (bz (brV .none (brV .none .none [rtV 16777216 8 0 0]) []))))))) .none [rtV 0 0 16777217 0])
noncomputable def q2d : V := z08 (bz (bz (bz (bz (bz (bz (brV (brV .none (brV .none .none [rtV 16777216 8 0 0]) []) (brV (brV .none .none [rtV 33554432 8 0 1]) .none []) [])))))))
noncomputable def q52 : V := z08 (brV (bz (bz (bz (bz (bz (brV .none (brV (brV .none .none [rtV 33554432 8 0 0]) .none []) [])))))) .none [rtV 0 0 33554433 0])
noncomputable def x0n (a mtu : Int) : V := .ob 741 [(Str.ofString "address", .int a), (Str.ofString "prefix", .int 8), (Str.ofString "mtu", .int mtu)]
noncomputable def ipA (faces : List V) (routes : V) (re : Nat) (fw : Bool) (last : Int) : AO := .inst 848 [(Str.ofString "faces", .lst faces), (Str.ofString "routes", routes), (Str.ofString "reassembly", .ref re), (Str.ofString "forwards", .bool fw), (Str.ofString "last_ident", .int last)]
noncomputable def reA (w : Nat) : AO := .inst 1034 [(Str.ofString "time_limit", .int 60), (Str.ofString "most_octets", .int 4096), (Str.ofString "most", .int 65535), (Str.ofString "waiting", .ref w)]
noncomputable def icA (a e : Nat) : AO := .inst 455 [(Str.ofString "answers", .ref a), (Str.ofString "errors", .ref e), (Str.ofString "last_number", .int 0)]
noncomputable def j6q (ip ic : Nat) (links addrs : List V) : V := .dct [Str.ofString "ip", Str.ofString "icmp", Str.ofString "links", Str.ofString "addresses"] [.ref ip, .ref ic, .lst links, .lst addrs]
structure Bs (c : Cx) : Prop where
 tabs : TabsOk tabs c.K
 sys : q8k c
noncomputable abbrev Orc := Bool -> Nat -> Bool -> List V -> St -> Out V
noncomputable def lk0 : Lk := tabs.lk .lf
noncomputable def rF (a : Addr) : FnRec := match z1z a z52 with
 | some (.fn r) => r
 | _ => ⟨[], [], ⟨.function, [], false, false, []⟩, [], []⟩
section
variable {c : Cx}
theorem Bs.lk0 (B : Bs c) : LkOk c lk0 := Tabs.ok B.tabs B.sys fun W0 W0 h => nomatch h
theorem Bs.fn (B : Bs c) {a : Addr} (e : (Mine.lk0.ent a).isSome = true) (h : Mine.lk0.ent a = some (.fn (rF a))) : FnOk c a (rF a) := (B.lk0.ent _ _ h).2
noncomputable def j8p (c : Cx) (l : List (Nat × Orc)) : Prop := ∀ p ∈ l, q01 c p.1 (.orc p.2)
theorem j8p.nil : j8p c [] := fun W0 h => nomatch h
theorem j8p.cons {p : Nat × Orc} {l : List (Nat × Orc)} (h : q01 c p.1 (.orc p.2)) (k : j8p c l) : j8p c (p :: l) := fun q hq => by
 rcases mc hq with rfl | hq
 . exact h
 . exact k q hq
theorem Bs.lk (B : Bs c) {orc : Tr Orc} (h : j8p c orc.list) (hk : orc.list.all (fun p => (Mine.lk0.ent p.1).isSome) = true) : LkOk c (Mine.tabs.lk orc) := Tabs.ok B.tabs B.sys fun a f hm => ⟨B.lk0.keep (aet hk _ hm), h _ hm⟩
theorem q0g {lk : Lk} (L : LkOk c lk) {a : Addr} {r : FnRec} (R : FnOk c a r) {vc : Bool} {d n : Nat} {tn : Bool} {vs : List V} {st : St} {Q : V -> St -> Prop} {X : Exc} (h : Sat (q0r lk (q0q lk vc n) d tn r vs st) Q noX) : q0d c (d + 1) tn st (.prim (.ref a)) vs Q X :=
 q0d.monoX (X := noX) (q7h (q3c L n) R (fun W0 W0 W0 h => h) h) fun C st' h => h.elim
theorem j42 {lk : Lk} (L : LkOk c lk) {a : Addr} {r : FnRec} (R : FnOk c a r) {d n : Nat} {tn : Bool} {vs : List V} {st : St} {Q : V -> St -> Prop} {X : Exc} {v : V} {st' : St} (e : q0r lk (j1z lk n) d tn r vs st = .ok v st') (q : Q v st') : q0d c (d + 1) tn st (.prim (.ref a)) vs Q X :=
 q0g (vc := false) L R (n := n) (by
   change Sat (q0r lk (j1z lk n) d tn r vs st) Q noX
   refine rwm e ?_
   exact q)
noncomputable def q0v (k : Nat) (f : List V -> St -> Cb) : Orc := fun vc d W0 vs st => cond (Nat.ble k d) (outC vc (f vs st)) .bad
theorem q07 {a : Addr} {k : Nat} {f : List V -> St -> Cb} (h : ∀ d tn vs st v st' Q X, f vs st = some (true, v, st') -> Q v st' -> q0d c (d + k) tn st (.prim (.ref a)) vs Q X) : q01 c a (.orc (q0v k f)) := fun W0 d tn vs st Q X hs => by
 obtain ⟨hk, hs2⟩ := q0s hs
 clear hs
 have hk := Nat.le_of_ble_eq_true hk
 obtain ⟨d', rfl⟩ : ∃ d', d = d' + k := ⟨d - k, (Nat.sub_add_cancel hk).symm⟩
 refine hid fun hG => ?_
 obtain ⟨⟨q0, v, st'⟩, hf, hs2⟩ := sat_opt hs2
 obtain ⟨hq, q⟩ := q2o hs2
 refine hG ?_
 subst hq
 exact h d' tn vs st v st' Q X hf q
theorem q11 {a : Addr} {k : Nat} {f : List V -> St -> Option (V × St)} (h : ∀ d tn vs st v st' Q X, f vs st = some (v, st') -> Q v st' -> q0d c (d + k) tn st (.prim (.ref a)) vs Q X) : q01 c a (.orc (room k f)) := fun W0 d tn vs st Q X hs => by
 obtain ⟨hk, hs2⟩ := q0s hs
 clear hs
 have hk := Nat.le_of_ble_eq_true hk
 obtain ⟨d', rfl⟩ : ∃ d', d = d' + k := ⟨d - k, (Nat.sub_add_cancel hk).symm⟩
 refine z3w (f vs st) (fun p hf => ?_) fun hf => ?_
 . rw [hf] at hs2; exact h d' tn vs st p.1 p.2 Q X hf hs2
 . rw [hf] at hs2; exact hs2.elim
end
noncomputable def aI (vs : List V) : Option Int := (one vs).bind vInt
theorem j3y {vs : List V} {n : Int} (h : aI vs = some n) : vs = [.int n] := by
 refine e12 (obi h :) fun v h1 h2 => ?_
 (refine rwm (q0y h1) ?_; refine rwm (q0p h2) ?_; rfl)
noncomputable def aB (vs : List V) : Option (List UInt8) := (one vs).bind q2q
theorem j83 {vs : List V} {n : List UInt8} (h : aB vs = some n) : vs = [.bytes n] := by
 refine e12 (obi h :) fun v h1 h2 => ?_
 (refine rwm (q0y h1) ?_; refine rwm (q1i h2) ?_; rfl)
noncomputable def aBI (vs : List V) : Option (List UInt8 × Int) := (two vs).bind fun w => (q2q w.1).bind fun b => (vInt w.2).map fun i => (b, i)
theorem z4g {vs : List V} {p : List UInt8 × Int} (h : aBI vs = some p) : vs = [.bytes p.1, .int p.2] := by
 refine e12 (obi h :) fun w h1 h => ?_
 refine e12 (obi h :) fun b h2 h => ?_
 (refine e12 (omi h :) fun i h3 r => ?_; subst r)
 (refine rwm (two_is h1) ?_; refine rwm (q1i h2) ?_; refine rwm (q0p h3) ?_; rfl)
noncomputable def j7k (vs : List V) (st : St) : Cb := (aI vs).bind fun n => some (decide (0 <= n /\ n < 4294967296), .int (fold16 n.toNat : Nat), st)
noncomputable def z6u : CE := .cmp .Gt (.loc "total") (.val (.int 65535))
noncomputable def z6t : List CS := [.asg "total" (.bin .Add (.bin .BitAnd (.loc "total") (.val (.int 65535))) (.bin .RShift (.loc "total") (.val (.int 16))))]
theorem q82 (F : Fx) (k : Nat) (n : Int) (st : St) : whT (j1z lk0 9) F z6u z6t (k + 1) [("total", .int n)] st = cond (decide (n > 65535)) (whT (j1z lk0 9) F z6u z6t k [("total", .int (Builtin.bitAnd n 65535 + n.fdiv (2 ^ 16)))] st) (.ok (.next, [("total", .int n)]) st) := by kernel_rfl
theorem z6w (d : Nat) (tn : Bool) (n : Int) (st : St) : q0r lk0 (j1z lk0 10) d tn (rF 119) [.int n] st = ((whT (j1z lk0 9) ⟨[], d, tn, true⟩ z6u z6t 100 [("total", .int n)] st).bind fun p st => z1d p st (q12 (j1z lk0 10) ⟨[], d, tn, true⟩ [.ret (.loc "total")])).bind z79 := by kernel_rfl
theorem z6z {n : Nat} (h : n > 65535) : Builtin.bitAnd (n : Int) 65535 + (n : Int).fdiv (2 ^ 16) = ((n % 65536 + n / 65536 : Nat) : Int) := by
 have h1 : Builtin.bitAnd (n : Int) 65535 = ((n % 65536 : Nat) : Int) := by
   unfold Builtin.bitAnd
   have e1 : decide (0 <= (n : Int)) = true := decide_eq_true (Int.natCast_nonneg n)
   refine rwm e1 ?_
   show (((n : Int).toNat &&& (65535 : Int).toNat : Nat) : Int) = _
   have : (n : Int).toNat &&& (65535 : Int).toNat = n % 65536 := by
     refine rwm (Int.toNat_natCast _) ?_
     exact Nat.and_two_pow_sub_one_eq_mod n 16
   (refine rwm this ?_; rfl)
 have h2 : (n : Int).fdiv (2 ^ 16) = ((n / 65536 : Nat) : Int) := by
   refine rwm (Int.fdiv_eq_ediv_of_nonneg _ (by decide)) ?_
   rfl
 (refine rwm h1 ?_; refine rwm h2 ?_)
 rfl
theorem z6y {n : Nat} (h : 65535 < n) : fold16 (n % 65536 + n / 65536) = fold16 n := by
 have hq : 0 < n / 65536 := Nat.div_pos h (by decide)
 have hn := Nat.div_add_mod n 65536
 generalize n / 65536 = q at *
 generalize n % 65536 = r at *
 induction q using Nat.casesOn with
 | zero => exact absurd hq (Nat.lt_irrefl 0)
 | succ q =>
   (refine rwb hn ?_; refine rwm (show 65536 * (q + 1) + r = 65535 * (q + 1) + (r + q) + 1 from (congrArg (· + r) (Nat.succ_mul 65535 (q + 1))).trans ((Nat.add_assoc _ _ _).trans (congrArg (65535 * (q + 1) + ·) ((Nat.add_comm _ _).trans (Nat.add_assoc r q 1).symm)))) ?_)
   show (r + q) % 65535 + 1 = (65535 * (q + 1) + (r + q)) % 65535 + 1
   rw [Nat.mul_add_mod]
noncomputable def q32 (F : Fx) (st : St) (k n : Nat) : Prop := whT (j1z lk0 9) F z6u z6t (k + 1) [("total", .int n)] st = .ok (.next, [("total", .int (fold16 n : Nat))]) st
theorem z6v (F : Fx) (st : St) (k : Nat) {n : Nat} (h : n <= 65535) : q32 F st k n := by
 have e : decide ((n : Int) > 65535) = false := decide_eq_false (Int.not_lt.mpr (Int.ofNat_le.mpr h))
 have hf : fold16 n = n := by
   induction n using Nat.casesOn with
   | zero => rfl
   | succ m => exact congrArg (· + 1) (Nat.mod_eq_of_lt h)
 unfold q32
 (rewrite [q82]; refine rwm e ?_; refine rwm hf ?_)
 rfl
theorem j3h {F : Fx} {st : St} {k n : Nat} (h : ¬ n <= 65535) (k1 : q32 F st k (n % 65536 + n / 65536)) : q32 F st (k + 1) n := by
 have hn := Nat.lt_of_not_le h
 have e : decide ((n : Int) > 65535) = true := decide_eq_true (Int.ofNat_lt.mpr hn)
 unfold q32 at k1 ⊢
 (rewrite [q82]; refine rwm e ?_; refine rwm (z6z hn) ?_; refine rwb (z6y hn) ?_)
 exact k1
theorem j50 (F : Fx) (st : St) {n : Nat} (h : n < 4294967296) : q32 F st 99 n := by
 by_cases h0 : n <= 65535
 . exact z6v F st _ h0
 refine j3h h0 ?_
 have h1 : n % 65536 + n / 65536 <= 131070 := Nat.add_le_add (Nat.le_of_lt_succ (Nat.mod_lt n (show 65535 + 1 > 0 by decide))) (Nat.le_of_lt_succ (Nat.div_lt_of_lt_mul h : n / 65536 < 65536))
 generalize n % 65536 + n / 65536 = m at *
 by_cases h2 : m <= 65535
 . exact z6v F st _ h2
 refine j3h h2 (z6v F st _ ?_)
 refine (Nat.exists_eq_add_of_le (Nat.lt_of_not_le h2)).elim fun j e => ?_
 subst e
 have hj : j <= 65534 := Nat.le_of_add_le_add_left (a := 65536) h1
 have hj2 : j < 65536 := Nat.lt_of_le_of_lt hj (by decide)
 show (65536 + j) % 65536 + (65536 + j) / 65536 <= 65535
 rw [Nat.add_mod_left, Nat.mod_eq_of_lt hj2, Nat.add_div_left j (by decide), Nat.div_eq_of_lt hj2]
 exact Nat.succ_le_succ hj
theorem cb_inv {b : Bool} {v v' : V} {st st' : St} (e : some (b, v, st) = some (true, v', st')) : b = true /\ v' = v /\ st' = st := by
 injection e with e
 injection e with e1 e2
 injection e2 with e2 e3
 exact ⟨e1, e2.symm, e3.symm⟩
theorem z6x {c : Cx} (B : Bs c) : q01 c 119 (.orc (q0v 1 j7k)) := q07 fun d tn vs st v st' Q X e q => by
 refine e12 (obi e :) fun n hn e => ?_
 refine rwm (j3y hn) ?_
 clear hn
 (refine e03 (cb_inv e :) fun h r => ?_; subst r; intro r; subst r)
 have h := of_decide_eq_true h
 obtain ⟨m, rfl⟩ := Int.eq_ofNat_of_zero_le h.1
 rw [Int.toNat_natCast] at q
 refine j42 B.lk0 (B.fn rfl rfl) (n := 10) (v := .int (fold16 m : Nat)) (st' := st') ?_ q
 have hm : m < 4294967296 := Int.ofNat_lt.mp h.2
 (rewrite [z6w]; refine rwm (show whT (j1z lk0 9) ⟨[], d, tn, true⟩ z6u z6t 100 _ _ = _ from j50 _ _ hm) ?_)
 rfl
theorem j17 {α : Type} {c : Bool} {r : Out α} {Q : α -> St -> Prop} {X : Exc} : Sat (.need c r) Q X = (c = true /\ Sat r Q X) := rfl
theorem q2b {α : Type} {c : Bool} {r : Out α} {Q : α -> St -> Prop} {X : Exc} (h : c = true) (k : Sat r Q X) : Sat (.need c r) Q X := ⟨h, k⟩
theorem q56 {α : Type} {a : α} {st : St} {Q : α -> St -> Prop} {X : Exc} : Sat (.ok a st) Q X = Q a st := rfl
theorem q1d {α β : Type} {r : Out α} {f : α -> St -> Out β} {Q : β -> St -> Prop} {X : Exc} (h : Sat r (fun a st => Sat (f a st) Q X) X) : Sat (r.bind f) Q X := by
 induction r with
 | ok a st => exact h
 | ex C st => exact h
 | need c r ih => exact ⟨h.1, ih h.2⟩
 | both l r il ir => exact ⟨il h.1, ir h.2⟩
 | bad => exact h
theorem bAnd (m n : Nat) : Builtin.bitAnd (m : Int) (n : Int) = ((m &&& n : Nat) : Int) := by
 unfold Builtin.bitAnd
 have e1 : decide (0 <= (m : Int)) = true := decide_eq_true (Int.natCast_nonneg m)
 have e2 : decide (0 <= (n : Int)) = true := decide_eq_true (Int.natCast_nonneg n)
 (refine rwm e1 ?_; refine rwm e2 ?_)
 show (((m : Int).toNat &&& (n : Int).toNat : Nat) : Int) = _
 (refine rwm (Int.toNat_natCast _) ?_; refine rwm (Int.toNat_natCast _) ?_; rfl)
theorem j26 (m : Nat) : Builtin.bitAnd (m : Int) (255 : Int) = ((m % 256 : Nat) : Int) := by
 (refine rwm (show (255 : Int) = ((255 : Nat) : Int) from rfl) ?_; refine rwm (bAnd _ _) ?_)
 exact congrArg _ (Nat.and_two_pow_sub_one_eq_mod m 8)
theorem z4k (m : Nat) : Builtin.bitAnd (m : Int) (8191 : Int) = ((m % 8192 : Nat) : Int) := by
 (refine rwm (show (8191 : Int) = ((8191 : Nat) : Int) from rfl) ?_; refine rwm (bAnd _ _) ?_)
 exact congrArg _ (Nat.and_two_pow_sub_one_eq_mod m 13)
theorem shrN (m : Nat) (k : Nat) : (m : Int).fdiv ((2 : Int) ^ k) = ((m / 2 ^ k : Nat) : Int) := by
 refine rwm (Int.fdiv_eq_ediv_of_nonneg _ (Int.pow_nonneg (by decide))) ?_
 refine rwm (show ((2 : Int) ^ k) = ((2 ^ k : Nat) : Int) by rw [Int.natCast_pow]; rfl) ?_
 (refine rwm (Int.natCast_ediv _ _) ?_; rfl)
theorem shr8 (m : Nat) : (m : Int).fdiv ((2 : Int) ^ Int.toNat (8 : Int)) = ((m / 256 : Nat) : Int) := shrN m 8
theorem shr16 (m : Nat) : (m : Int).fdiv ((2 : Int) ^ Int.toNat (16 : Int)) = ((m / 65536 : Nat) : Int) := shrN m 16
theorem z02 (m : Nat) : Builtin.bitNot (m : Int) = Int.negSucc m := by
 unfold Builtin.bitNot
 rw [Int.negSucc_eq, Int.neg_add]
 rfl
theorem z03 (m : Nat) : Builtin.bitNot (Int.negSucc m) = (m : Int) := by
 unfold Builtin.bitNot
 rw [Int.neg_negSucc]
 exact Int.add_sub_cancel (m : Int) 1
theorem bOr (m n : Nat) : Builtin.bitOr (m : Int) (n : Int) = ((m ||| n : Nat) : Int) := by
 unfold Builtin.bitOr
 rw [z02, z02]
 show Builtin.bitNot (Builtin.bitNot (((Builtin.bitNot (Int.negSucc m)).toNat ||| (Builtin.bitNot (Int.negSucc n)).toNat : Nat) : Int)) = _
 rw [z03, z03, z02, z03]
 rfl
theorem or8 (x y : Nat) (hy : y < 256) : Builtin.bitOr ((x : Int) * (2 : Int) ^ Int.toNat (8 : Int)) (y : Int) = ((x * 256 + y : Nat) : Int) := by
 have h1 : (x : Int) * (2 : Int) ^ Int.toNat (8 : Int) = ((x * 256 : Nat) : Int) := by
   (refine rwm (show (8 : Int).toNat = 8 from rfl) ?_; refine rwm (Int.natCast_mul _ _) ?_); rfl
 (refine rwm h1 ?_; refine rwm (bOr _ _) ?_)
 congr 1
 have := Nat.shiftLeft_add_eq_or_of_lt (i := 8) (b := y) hy x
 rw [Nat.shiftLeft_eq] at this
 exact this.symm
theorem or16 (x y : Nat) (hy : y < 65536) : Builtin.bitOr ((x : Int) * (2 : Int) ^ Int.toNat (16 : Int)) (y : Int) = ((x * 65536 + y : Nat) : Int) := by
 have h1 : (x : Int) * (2 : Int) ^ Int.toNat (16 : Int) = ((x * 65536 : Nat) : Int) := by
   (refine rwm (show (16 : Int).toNat = 16 from rfl) ?_; refine rwm (Int.natCast_mul _ _) ?_); rfl
 (refine rwm h1 ?_; refine rwm (bOr _ _) ?_)
 congr 1
 have := Nat.shiftLeft_add_eq_or_of_lt (i := 16) (b := y) hy x
 rw [Nat.shiftLeft_eq] at this
 exact this.symm
theorem q9g (n : Nat) : o8 (n % 256) = o8 n := by
 apply UInt8.toNat_inj.1
 (refine rwm (q3v _) ?_; refine rwm (q3v _) ?_; refine rwm (Nat.mod_mod _ _) ?_; rfl)
theorem map2 (a b : Nat) : List.map (fun n : Int => n.toNat.toUInt8) [(a : Int), (b : Int)] = [o8 a, o8 b] := rfl
theorem z44 (n : Nat) (h : n < 4294967296) : Builtin.Int.intBits (n : Int) <= 64 := PySem.intBits_le_64 (k := (n : Int)) (Int.le_trans (by decide) (Int.natCast_nonneg n)) (Int.ofNat_lt.mpr (Nat.lt_trans h (by decide)))
theorem j1y (n : Nat) (h : n < 4294967296) : decide (((0 : Int) <= (8 : Int) /\ (8 : Int) <= (64 : Int)) /\ Builtin.Int.intBits (n : Int) <= (64 : Nat)) = true := decide_eq_true ⟨by decide, z44 n h⟩
theorem x13 (n : Nat) (h : n < 4294967296) : decide (((0 : Int) <= (16 : Int) /\ (16 : Int) <= (64 : Int)) /\ Builtin.Int.intBits (n : Int) <= (64 : Nat)) = true := decide_eq_true ⟨by decide, z44 n h⟩
noncomputable def q9l (vs : List V) (st : St) : Cb := (aI vs).bind fun n => some (decide (0 <= n), .bytes (q0n n.toNat), st)
theorem z34 (n : Int) (st : St) (d : Nat) (tn : Bool) : q0r lk0 (q0q lk0 true 20) (d+4) tn (rF 84) [.int n] st = (.need .true (.need .true (.need .true (.need (([Builtin.bitAnd (n.fdiv ((2 : Int) ^ Int.toNat (8 : Int))) (255 : Int), Builtin.bitAnd n (255 : Int)].all fun n => decide ((0 : Int) <= n /\ n < (256 : Int))) && decide ([Builtin.bitAnd (n.fdiv ((2 : Int) ^ Int.toNat (8 : Int))) (255 : Int), Builtin.bitAnd n (255 : Int)].length <= (1000000 : Nat))) (.ok (.bytes (List.map (fun n => n.toNat.toUInt8) [Builtin.bitAnd (n.fdiv ((2 : Int) ^ Int.toNat (8 : Int))) (255 : Int), Builtin.bitAnd n (255 : Int)])) (st)))))) := by kernel_rfl
theorem q45 {c : Cx} (B : Bs c) : q01 c 84 (.orc (q0v 5 q9l)) := q07 fun d tn vs st v st' Q X e q => by
 refine e12 (obi e :) fun n hn e => ?_
 refine rwm (j3y hn) ?_
 clear hn
 (refine e03 (cb_inv e :) fun h r => ?_; subst r; intro r; subst r)
 have h := of_decide_eq_true h
 obtain ⟨m, rfl⟩ := Int.eq_ofNat_of_zero_le h
 refine q0g (vc := true) (n := 20) (d := d + 4) B.lk0 (B.fn rfl rfl) ?_
 (rewrite [z34]; refine rwm (shr8 _) ?_; refine rwm (j26 _) ?_; refine rwm (j26 _) ?_)
 refine ⟨rfl, rfl, rfl, ?_, ?_⟩
 . have e : ∀ a : Nat, decide ((0 : Int) <= ((a % 256 : Nat) : Int) /\ ((a % 256 : Nat) : Int) < (256 : Int)) = true := fun a => decide_eq_true ⟨Int.natCast_nonneg _, Int.ofNat_lt.mpr (Nat.mod_lt _ (by decide))⟩
   exact (Bool.and_eq_true _ _).mpr ⟨(Bool.and_eq_true _ _).mpr ⟨e _, (Bool.and_eq_true _ _).mpr ⟨e _, rfl⟩⟩, rfl⟩
 . (refine rwm (map2 _ _) ?_; refine rwm (q9g _) ?_; refine rwm (q9g _) ?_)
   exact q
noncomputable def orcA : Tr Orc := .nd (.nd .lf 84 (q0v 5 q9l) .lf) 119 (q0v 1 j7k) .lf
noncomputable def lkA : Lk := tabs.lk orcA
theorem Bs.lkA {c : Cx} (B : Bs c) : LkOk c lkA := B.lk (.cons (q45 B) (.cons (z6x B) .nil)) rfl
noncomputable def g16 (b : List UInt8) (k : Nat) : Nat := (b.getD k 0).toNat * 256 + (b.getD (k + 1) 0).toNat
noncomputable def g32 (b : List UInt8) (k : Nat) : Nat := g16 b k * 65536 + g16 b (k + 2)
theorem j3i (b : List UInt8) (k : Nat) : g16 b k < 65536 := by
 unfold g16
 exact Nat.lt_of_lt_of_le (Nat.add_lt_add_left (UInt8.toNat_lt (b.getD (k + 1) 0)) _) (Nat.le_trans (Nat.le_of_eq (Nat.succ_mul _ 256).symm) (Nat.mul_le_mul_right 256 (UInt8.toNat_lt (b.getD k 0))))
noncomputable def z2h (vs : List V) (st : St) : Cb := (aBI vs).bind fun x => some (decide (0 <= x.2 /\ x.2.toNat + 2 <= x.1.length /\ x.1.length <= 1000000), .int (g16 x.1 x.2.toNat : Nat), st)
theorem z3i (b : List UInt8) (n : Int) (st : St) (d : Nat) (tn : Bool) : q0r lk0 (q0q lk0 true 20) (d+4) tn (rF 105) [.bytes b, .int n] st = (.need (decide (n < (0 : Int)) == false) (.need .true (.need (decide (b.length <= (1000000 : Nat))) (.need (decide (n + (2 : Int) > (↑b.length : Int)) == false) (.need (decide ((0 : Int) <= n /\ n < (↑b.length : Int) /\ b.length <= (1000000 : Nat))) (.need (decide (((0 : Int) <= (8 : Int) /\ (8 : Int) <= (64 : Int)) /\ Builtin.Int.intBits (↑(b.getD n.toNat (0 : UInt8)).toNat : Int) <= (64 : Nat))) (.need .true (.need (decide ((0 : Int) <= n + (1 : Int) /\ n + (1 : Int) < (↑b.length : Int) /\ b.length <= (1000000 : Nat))) (.need .true (.ok (.int (Builtin.bitOr ((↑(b.getD n.toNat (0 : UInt8)).toNat : Int) * (2 : Int) ^ Int.toNat (8 : Int)) (↑(b.getD (n + (1 : Int)).toNat (0 : UInt8)).toNat : Int))) (st))))))))))) := by kernel_rfl
theorem q5y {p : Prop} [Decidable p] (h : ¬p) : (decide p == false) = true := by refine rwm (decide_eq_false h) ?_; rfl
theorem q4a (m : Nat) : ((m : Int) + (1 : Int)).toNat = m + 1 := rfl
theorem q7x {c : Cx} (B : Bs c) : q01 c 105 (.orc (q0v 5 z2h)) := q07 fun d tn vs st v st' Q X e q => by
 obtain ⟨⟨b, n⟩, hn, e⟩ := obi e
 refine rwm (z4g hn) ?_
 clear hn
 dsimp only at e ⊢
 (refine e03 (cb_inv e :) fun h r => ?_; subst r; intro r; subst r)
 have h := of_decide_eq_true h
 obtain ⟨m, rfl⟩ := Int.eq_ofNat_of_zero_le h.1
 have h2 := h.2
 rw [Int.toNat_natCast] at h2 q
 refine q0g (vc := true) (n := 20) (d := d + 4) B.lk0 (B.fn rfl rfl) ?_
 have l1 := UInt8.toNat_lt (b.getD m 0)
 have l2 := UInt8.toNat_lt (b.getD (m + 1) 0)
 (rewrite [z3i]; refine rwm (Int.toNat_natCast _) ?_; refine rwm (q4a _) ?_; refine rwm (or8 _ _ l2) ?_)
 exact ⟨q5y (Int.not_lt.mpr (Int.natCast_nonneg m)), rfl, decide_eq_true h2.2, q5y (Int.not_lt.mpr (Int.ofNat_le.mpr h2.1)), decide_eq_true ⟨Int.natCast_nonneg m, Int.ofNat_lt.mpr (Nat.le_of_succ_le h2.1), h2.2⟩, j1y _ (Nat.lt_trans l1 (by decide)), rfl, decide_eq_true ⟨Int.natCast_nonneg (m + 1), Int.ofNat_lt.mpr h2.1, h2.2⟩, rfl, q⟩
noncomputable def orcB : Tr Orc := .nd (.nd .lf 84 (q0v 5 q9l) .lf) 105 (q0v 5 z2h) (.nd .lf 119 (q0v 1 j7k) .lf)
noncomputable def lkB : Lk := tabs.lk orcB
theorem Bs.lkB {c : Cx} (B : Bs c) : LkOk c lkB := B.lk (.cons (q45 B) (.cons (q7x B) (.cons (z6x B) .nil))) rfl
theorem z9n (n : Nat) : q0n (n % 65536) = q0n n := by
 have h1 : n % 65536 / 256 = n / 256 % 256 := Nat.mod_mul_right_div_self n 256 256
 have h2 : o8 (n % 65536) = o8 n := by
   rw [<- q9g (n % 65536), Nat.mod_mod_of_dvd n (show 256 ∣ 65536 from ⟨256, rfl⟩), q9g]
 unfold q0n
 rw [h1, q9g, h2]
noncomputable def z8k (vs : List V) (st : St) : Cb := (aI vs).bind fun n => some (decide (0 <= n), .bytes (q1y n.toNat), st)
theorem z35 (n : Int) (st : St) (d : Nat) (tn : Bool) : q0r lkB (q0q lkB true 20) (d+5) tn (rF 91) [.int n] st = (.need .true (.need (decide ((0 : Int) <= n.fdiv ((2 : Int) ^ Int.toNat (16 : Int)))) (.need (decide ((0 : Int) <= n)) (.need (decide ((q0n (n.fdiv ((2 : Int) ^ Int.toNat (16 : Int))).toNat).length + (q0n n.toNat).length <= (1000000 : Nat))) (.ok (.bytes (q0n (n.fdiv ((2 : Int) ^ Int.toNat (16 : Int))).toNat ++ q0n n.toNat)) (st)))))) := by kernel_rfl
theorem z2f {c : Cx} (B : Bs c) : q01 c 91 (.orc (q0v 6 z8k)) := q07 fun d tn vs st v st' Q X e q => by
 refine e12 (obi e :) fun n hn e => ?_
 refine rwm (j3y hn) ?_
 clear hn
 (refine e03 (cb_inv e :) fun h r => ?_; subst r; intro r; subst r)
 have h := of_decide_eq_true h
 obtain ⟨m, rfl⟩ := Int.eq_ofNat_of_zero_le h
 refine q0g (vc := true) (n := 20) (d := d + 5) B.lkB (B.fn rfl rfl) ?_
 unfold q1y at q
 rw [Int.toNat_natCast, z9n] at q
 (rewrite [z35]; refine rwm (shr16 _) ?_; refine rwm (Int.toNat_natCast _) ?_; refine rwm (Int.toNat_natCast _) ?_)
 exact ⟨rfl, decide_eq_true (Int.natCast_nonneg _), decide_eq_true h, rfl, q⟩
noncomputable def z8h (vs : List V) (st : St) : Cb := (aBI vs).bind fun x => some (decide (0 <= x.2 /\ x.2.toNat + 4 <= x.1.length /\ x.1.length <= 1000000), .int (g32 x.1 x.2.toNat : Nat), st)
theorem z3j (b : List UInt8) (n : Int) (st : St) (d : Nat) (tn : Bool) : q0r lkB (q0q lkB true 20) (d+5) tn (rF 112) [.bytes b, .int n] st = (.need (decide (n < (0 : Int)) == false) (.need .true (.need (decide (b.length <= (1000000 : Nat))) (.need (decide (n + (4 : Int) > (↑b.length : Int)) == false) (.need (decide ((0 : Int) <= n /\ n.toNat + (2 : Nat) <= b.length /\ b.length <= (1000000 : Nat))) (.need (decide (((0 : Int) <= (16 : Int) /\ (16 : Int) <= (64 : Int)) /\ Builtin.Int.intBits (↑(g16 b n.toNat) : Int) <= (64 : Nat))) (.need .true (.need (decide ((0 : Int) <= n + (2 : Int) /\ (n + (2 : Int)).toNat + (2 : Nat) <= b.length /\ b.length <= (1000000 : Nat))) (.need .true (.ok (.int (Builtin.bitOr ((↑(g16 b n.toNat) : Int) * (2 : Int) ^ Int.toNat (16 : Int)) (↑(g16 b (n + (2 : Int)).toNat) : Int))) (st))))))))))) := by kernel_rfl
theorem z1y {c : Cx} (B : Bs c) : q01 c 112 (.orc (q0v 6 z8h)) := q07 fun d tn vs st v st' Q X e q => by
 obtain ⟨⟨b, n⟩, hn, e⟩ := obi e
 refine rwm (z4g hn) ?_
 clear hn
 dsimp only at e ⊢
 (refine e03 (cb_inv e :) fun h r => ?_; subst r; intro r; subst r)
 have h := of_decide_eq_true h
 obtain ⟨m, rfl⟩ := Int.eq_ofNat_of_zero_le h.1
 have h2 := h.2
 rw [Int.toNat_natCast] at h2 q
 refine q0g (vc := true) (n := 20) (d := d + 5) B.lkB (B.fn rfl rfl) ?_
 have l1 := j3i b m
 have l2 := j3i b (m + 2)
 (rewrite [z3j]; refine rwm (Int.toNat_natCast _) ?_; refine rwm (show ((m : Int) + (2 : Int)).toNat = m + 2 from rfl) ?_; refine rwm (or16 _ _ l2) ?_)
 exact ⟨q5y (Int.not_lt.mpr (Int.natCast_nonneg m)), rfl, decide_eq_true h2.2, q5y (Int.not_lt.mpr (Int.ofNat_le.mpr h2.1)), decide_eq_true ⟨Int.natCast_nonneg m, Nat.le_trans (Nat.le_add_right (m + 2) 2) h2.1, h2.2⟩, x13 _ (Nat.lt_trans l1 (by decide)), rfl, decide_eq_true ⟨Int.natCast_nonneg (m + 2), h2.1, h2.2⟩, rfl, q⟩
noncomputable def nthS (r : FnRec) (i : Nat) : CS := ((q1p lkA r)[i]?).getD .bad
noncomputable def CS.loopB : CS -> List CS
 | .for1 _ _ b => b
 | .forN _ _ b => b
 | .whl _ b => b
 | _ => []
noncomputable def osB : List CS := (nthS (rF 127) 2).loopB
noncomputable def osR (b : List UInt8) (t0 t e : Int) (r : List (Str × V)) : Loc := ("octets", .bytes b) :: ("begin", .int t0) :: ("total", .int t) :: ("even", .int e) :: r
noncomputable def z2a : List CS := (q1p lkA (rF 127)).drop 3
noncomputable def CS.forE : CS -> CE
 | .for1 _ e _ => e
 | .forN _ e _ => e
 | _ => .bad
noncomputable def osE : CE := (nthS (rF 127) 2).forE
noncomputable def osH : List CS := (q1p lkA (rF 127)).take 2
noncomputable def osF (d : Nat) (tn : Bool) : Fx := ⟨[], d, tn, true⟩
theorem q18 {lk : Lk} {T : Tb} {d : Nat} {tn : Bool} {r : FnRec} {vs : List V} {st : St} {ss : List CS} {b : Loc} (h1 : (Nat.ble vs.length r.ns.length && Nat.ble r.ns.length (vs.length + r.dvs.length)) = true) (hc : r.cells = []) (hs : q1p lk r = ss) (hb : r.ns.zip (q6j r.ns.length vs r.dvs) = b) :
   q0r lk T d tn r vs st = (q12 T ⟨[], d, tn, true⟩ ss b st).bind z79 := by
 unfold q0r j4s
 (refine rwm h1 ?_; refine rwm hc ?_; refine rwm hs ?_; refine rwm hb ?_)
 rfl
theorem z7v (b : List UInt8) (t0 : Int) (st : St) (d : Nat) (tn : Bool) : q0r lkA (q0q lkA true 16) d tn (rF 127) [.bytes b, .int t0] st = (q12 (q0q lkA true 16) (osF d tn) (osH ++ .for1 (.l "at") osE osB :: z2a) [("octets", .bytes b), ("begin", .int t0)] st).bind z79 := q18 (by kernel_rfl) (by kernel_rfl) (by kernel_rfl) (by kernel_rfl)
theorem j61 (b : List UInt8) (t0 : Int) (st : St) (d : Nat) (tn : Bool) : q12 (q0q lkA true 16) (osF d tn) osH [("octets", .bytes b), ("begin", .int t0)] st = (.need (decide (b.length <= (1000000 : Nat))) (.need (decide (b.length <= (1000000 : Nat))) (.need true (.need true (.ok (.next, osR b t0 t0 ((b.length : Int) - (b.length : Int).fmod 2) []) st))))) := by kernel_rfl
theorem j62 (b : List UInt8) (t0 t e : Int) (st : St) (d : Nat) (tn : Bool) : (q0q lkA true 15).ev (osF d tn) osE (osR b t0 t e []) st = .need true (.ok (.rng 0 e 2) st) := by kernel_rfl
noncomputable def CS.thenB : CS -> List CS
 | .ifs _ b _ => b
 | _ => []
noncomputable def CS.ifT : CS -> CE
 | .ifs t _ _ => t
 | _ => .bad
noncomputable def osI : CS := nthS (rF 127) 3
theorem j64 : z2a = .ifs osI.ifT osI.thenB [] :: z2a.drop 1 := by kernel_rfl
theorem x1s : j8q osI.thenB = false := by kernel_rfl
theorem z2b (b : List UInt8) (t0 t e : Int) (r : Loc) (st : St) (d : Nat) (tn : Bool) : q12 (q0q lkA true 16) (osF (d + 3) tn) (z2a.drop 1) (osR b t0 t e r) st = (.need (decide ((0 : Int) <= t /\ t < (4294967296 : Int))) (.ok (.ret (.int (fold16 t.toNat : Nat)), osR b t0 t e r) st)) := by kernel_rfl
theorem j1q (b : List UInt8) (t0 t e : Int) (r : Loc) (st : St) (d : Nat) (tn : Bool) : q12 (q0q lkA true 15) (osF (d + 3) tn) osI.thenB (osR b t0 t e r) st = (.need (decide ((0 : Int) <= e /\ e < (↑b.length : Int) /\ b.length <= (1000000 : Nat))) (.need (decide (((0 : Int) <= (8 : Int) /\ (8 : Int) <= (64 : Int)) /\ Builtin.Int.intBits (↑(b.getD e.toNat (0 : UInt8)).toNat : Int) <= (64 : Nat))) (.ok (.next, osR b t0 (t + (↑(b.getD e.toNat (0 : UInt8)).toNat : Int) * (2 : Int) ^ Int.toNat (8 : Int)) e r) st))) := by kernel_rfl
theorem j1r (b : List UInt8) (t0 t e : Int) (r : Loc) (st : St) (d : Nat) (tn : Bool) : (q0q lkA true 15).evT (osF (d + 3) tn) osI.ifT (osR b t0 t e r) st = (.need (decide (b.length <= (1000000 : Nat))) (.ok (decide (e < (b.length : Int))) st)) := by kernel_rfl
theorem j1s (F : Fx) (b : List UInt8) (t0 t e a : Int) (vs : List V) (st : St) : j0y (q0q lkA true 15) F (z4d F (.l "at")) osB (.int a :: vs) (osR b t0 t e []) st = (.need (decide ((0 : Int) <= a /\ a < (↑b.length : Int) /\ b.length <= (1000000 : Nat))) (.need (decide (((0 : Int) <= (8 : Int) /\ (8 : Int) <= (64 : Int)) /\ Builtin.Int.intBits (↑(b.getD a.toNat (0 : UInt8)).toNat : Int) <= (64 : Nat))) (.need .true (.need (decide ((0 : Int) <= a + (1 : Int) /\ a + (1 : Int) < (↑b.length : Int) /\ b.length <= (1000000 : Nat))) (.need .true (j0y (q0q lkA true 15) F (z4d F (.l "at")) osB vs (osR b t0 (t + Builtin.bitOr ((↑(b.getD a.toNat (0 : UInt8)).toNat : Int) * (2 : Int) ^ Int.toNat (8 : Int)) (↑(b.getD (a + (1 : Int)).toNat (0 : UInt8)).toNat : Int)) e [("at", .int a)]) st)))))) := by kernel_rfl
theorem j65 (F : Fx) (b : List UInt8) (t0 t e a x : Int) (vs : List V) (st : St) : j0y (q0q lkA true 15) F (z4d F (.l "at")) osB (.int a :: vs) (osR b t0 t e [("at", .int x)]) st = (.need (decide ((0 : Int) <= a /\ a < (↑b.length : Int) /\ b.length <= (1000000 : Nat))) (.need (decide (((0 : Int) <= (8 : Int) /\ (8 : Int) <= (64 : Int)) /\ Builtin.Int.intBits (↑(b.getD a.toNat (0 : UInt8)).toNat : Int) <= (64 : Nat))) (.need .true (.need (decide ((0 : Int) <= a + (1 : Int) /\ a + (1 : Int) < (↑b.length : Int) /\ b.length <= (1000000 : Nat))) (.need .true (j0y (q0q lkA true 15) F (z4d F (.l "at")) osB vs (osR b t0 (t + Builtin.bitOr ((↑(b.getD a.toNat (0 : UInt8)).toNat : Int) * (2 : Int) ^ Int.toNat (8 : Int)) (↑(b.getD (a + (1 : Int)).toNat (0 : UInt8)).toNat : Int)) e [("at", .int a)]) st)))))) := by kernel_rfl
theorem z0p {b : List UInt8} {k : Nat} (h : k < b.length) : b.getD k 0 = b[k] := by
 (refine rwm (List.getD_eq_getElem?_getD) ?_; refine rwm (List.getElem?_eq_getElem h) ?_)
 rfl
theorem j2i (b : List UInt8) {k : Nat} (h : k + 1 < b.length) : sum16 (b.drop k) = g16 b k + sum16 (b.drop (k + 2)) := by
 (refine rwm (List.drop_eq_getElem_cons (Nat.lt_of_succ_lt h)) ?_; refine rwm (List.drop_eq_getElem_cons h) ?_)
 unfold g16
 (refine rwm (z0p (Nat.lt_of_succ_lt h)) ?_; refine rwm (z0p h) ?_)
 rfl
theorem u64 {x : UInt8} {n : Nat} (h : x.toNat = n) : n < 4294967296 := h ▸ Nat.lt_of_lt_of_le (UInt8.toNat_lt x) (by decide)
theorem j63 (F : Fx) {b : List UInt8} (hz : b.length <= 1000000) (t0 e : Int) (st : St) {K : Fl × Loc -> St -> Prop} {X : Exc} (n : Nat) : ∀ (i : Nat) (t : Int) (r : Loc), 2 * (i + n) <= b.length -> (r = [] \/ ∃ x, r = ([("at", V.int x)] : List (Str × V))) -> t + (sum16 (b.drop (2 * i)) : Nat) = (sum16 b : Nat) ->
   (∀ (t' : Int) r', t' + (sum16 (b.drop (2 * (i + n))) : Nat) = (sum16 b : Nat) -> K (.next, osR b t0 t' e r') st) -> Sat (j0y (q0q lkA true 15) F (z4d F (.l "at")) osB ((List.range' i n).map fun (j : Nat) => .int (0 + (j : Int) * 2)) (osR b t0 t e r) st) K X := by
 induction n with
 | zero => exact fun i t r W0 W0 ht k => k t r ht
 | succ n ih =>
   intro i t r h hr ht k
   have l2 := UInt8.toNat_lt (b.getD (2 * i + 1) 0)
   have h2 : 2 * i + 1 < b.length := Nat.lt_of_lt_of_le (Nat.lt_succ_self (2 * i + 1)) (Nat.le_trans (Nat.mul_le_mul_left 2 (Nat.add_le_add_left (Nat.succ_le_succ (Nat.zero_le n)) i)) h)
   have go := ih (i + 1) (t + (g16 b (2 * i) : Nat)) [("at", .int ((2 * i : Nat) : Int))] (Nat.succ_add_eq_add_succ i n ▸ h) (.inr ⟨_, rfl⟩) (by (rewrite [Int.add_assoc]; refine rwb (Int.natCast_add _ _) ?_; refine rwm (Nat.mul_succ _ _) ?_; refine rwb (j2i b h2) ?_; refine rwm ht ?_; rfl)) (by refine rwm (Nat.succ_add_eq_add_succ _ _) ?_; exact k)
   (refine rwm List.range'_succ ?_; refine rwm List.map_cons ?_; refine rwm (Int.zero_add _) ?_; refine rwm (show ((i : Int) * 2) = ((2 * i : Nat) : Int) from Int.mul_comm _ _) ?_)
   have d1 : decide ((0 : Int) <= ((2 * i : Nat) : Int) /\ ((2 * i : Nat) : Int) < (b.length : Int) /\ b.length <= 1000000) = true := decide_eq_true ⟨Int.natCast_nonneg _, Int.ofNat_lt.mpr (Nat.lt_of_succ_lt h2), hz⟩
   have d2 : decide ((0 : Int) <= ((2 * i : Nat) : Int) + 1 /\ ((2 * i : Nat) : Int) + 1 < (b.length : Int) /\ b.length <= 1000000) = true := decide_eq_true ⟨Int.natCast_nonneg (2 * i + 1), Int.ofNat_lt.mpr h2, hz⟩
   rcases hr with rfl | ⟨x, rfl⟩
   . (rewrite [j1s]; refine rwm (Int.toNat_natCast _) ?_; refine rwm (q4a _) ?_; refine rwm (or8 _ _ l2) ?_)
     exact ⟨d1, j1y _ (u64 rfl), rfl, d2, rfl, go⟩
   . (rewrite [j65]; refine rwm (Int.toNat_natCast _) ?_; refine rwm (q4a _) ?_; refine rwm (or8 _ _ l2) ?_)
     exact ⟨d1, j1y _ (u64 rfl), rfl, d2, rfl, go⟩
theorem j5x {T : Tb} {F : Fx} {ss' : List CS} {Q : Fl × Loc -> St -> Prop} {X : Exc} : ∀ {ss : List CS} {ρ : Loc} {st : St}, Sat (q12 T F ss ρ st) (fun p st => Sat (z1d p st (q12 T F ss')) Q X) X -> Sat (q12 T F (ss ++ ss') ρ st) Q X := by
 intro ss
 induction ss with
 | nil => intro ρ st h; exact h
 | cons s ss ih => intro ρ st h; exact q1d (Sat.mono (q0a h) fun p st₁ h1 => by
   obtain ⟨b, ρ₁⟩ := p
   induction b using Fl.casesOn with
   | next => exact ih h1
   | brk => exact h1
   | cont => exact h1
   | ret v => exact h1)
theorem q3n {T : Tb} {F : Fx} {s : CS} {ss : List CS} {ρ : Loc} {st : St} {Q : Fl × Loc -> St -> Prop} {X : Exc} (h : Sat (T.ex F s ρ st) (fun p st => Sat (z1d p st (q12 T F ss)) Q X) X) : Sat (q12 T F (s :: ss) ρ st) Q X := q1d h
theorem z0r {lk : Lk} {vc : Bool} {n : Nat} {F : Fx} {t : CE} {A B : List CS} {ρ : Loc} {st : St} {Q : Fl × Loc -> St -> Prop} {X : Exc} (hb : j8q A = false) (h : Sat ((q0q lk vc n).evT F t ρ st) (fun x st => Sat (cond x (q12 (q0q lk vc n) F A ρ st) (q12 (q0q lk vc n) F B ρ st)) Q X) X) : Sat ((q0q lk vc (n + 1)).ex F (.ifs t A B) ρ st) Q X := by
 change Sat (x0g (q0q lk vc n) F t A B ρ st) Q X
 unfold x0g
 (refine rwm hb ?_; refine rwm (Bool.and_false _) ?_)
 exact q1d h
theorem j53 {lk : Lk} {vc : Bool} {n : Nat} {F : Fx} {t : Tg} {e : CE} {body : List CS} {ρ : Loc} {st : St} {Q : Fl × Loc -> St -> Prop} {X : Exc} (hn : F.nh = true) (h : Sat ((q0q lk vc n).ev F e ρ st) (fun v st₁ => ∃ vs, q60 (z9c v st₁).1 = some vs /\ Sat (j0y (q0q lk vc n) F (z4d F t) body vs ρ (z9c v st₁).2) Q X) X) : Sat ((q0q lk vc (n + 1)).ex F (.for1 t e body) ρ st) Q X := by
 change Sat (z6i (q0q lk vc n) F (z4d F t) e body ρ st) Q X
 unfold z6i
 refine rwm hn ?_
 refine q1d (Sat.mono h fun v st₁ h => ?_)
 refine e12 h fun vs hv h => ?_
 unfold forI
 generalize z9c v st₁ = p at *
 obtain ⟨v', st'⟩ := p
 dsimp only at hv h ⊢
 refine rwm hv ?_
 exact h
theorem z07 {n : Nat} (h : n <= 500000) : q60 (.rng 0 ((2 * n : Nat) : Int) 2) = some ((List.range' 0 n).map fun (j : Nat) => .int (0 + (j : Int) * 2)) := by
 have hs : Builtin.Range.rangeSize 0 ((2 * n : Nat) : Int) 2 = n := by
   induction n using Nat.casesOn with
   | zero => rfl
   | succ m =>
   refine (if_pos (by decide)).trans ((if_pos (Int.ofNat_lt.mpr (Nat.mul_pos (by decide) (Nat.succ_pos m)))).trans ?_)
   rw [Int.sub_zero, show ((2 * (m + 1) : Nat) : Int) - 1 = ((2 * m + 1 : Nat) : Int) from Int.sub_eq_iff_eq_add.mpr rfl]
   show (((2 * m + 1) / 2 + 1 : Nat) : Int) = _
   rw [Nat.mul_add_div (by decide)]
 unfold q60
 dsimp only
 rewrite [hs, if_pos ?_, Int.toNat_natCast]
 . unfold q64
   (refine rwm List.range_eq_range' ?_; rfl)
 . refine (Bool.and_eq_true _ _).mpr ⟨?_, decide_eq_true ⟨Int.natCast_nonneg n, Int.ofNat_le.mpr (Nat.le_trans h (by decide))⟩⟩
   have fits : ∀ i : Int, 0 <= i -> i <= 2000000 -> Builtin.Range.rangeFitsLong i = true := fun i h0 h1 => by
     unfold Builtin.Range.rangeFitsLong
     (refine rwm (Bool.and_eq_true _ _) ?_; refine rwm decide_eq_true_eq ?_; refine rwm decide_eq_true_eq ?_)
     exact ⟨Int.le_trans (by decide) h0, Int.lt_of_le_of_lt h1 (by decide)⟩
   unfold Builtin.Range.small
   rw [hs, fits 0 (by decide) (by decide), fits _ (Int.natCast_nonneg _) (Int.ofNat_le.mpr (Nat.le_trans (Nat.mul_le_mul_left 2 h) (by decide))), fits 2 (by decide) (by decide), fits n (Int.natCast_nonneg _) (Int.ofNat_le.mpr (Nat.le_trans h (by decide))), if_pos (by decide), fits _ (by omega) (by omega), Bool.or_true]
   rfl
noncomputable def q75 (vs : List V) (st : St) : Cb := Option.casesOn (aB vs) ((aBI vs).bind fun x => some (decide (x.2 = 0 /\ x.1.length <= 65000), .int (fold16 (sum16 x.1) : Nat), st)) fun b => some (decide (b.length <= 65000), .int (fold16 (sum16 b) : Nat), st)
theorem two_le (a b : UInt8) : a.toNat * 256 + b.toNat <= 65535 := Nat.add_le_add (Nat.mul_le_mul_right 256 (Nat.le_of_lt_succ (UInt8.toNat_lt a))) (Nat.le_of_lt_succ (UInt8.toNat_lt b))
theorem z2n : ∀ b : List UInt8, sum16 b <= 65535 * b.length
 | [] => Nat.le_refl _
 | [a] => Nat.le_trans (Nat.le_add_right _ (0 : UInt8).toNat) (two_le a 0)
 | a :: b :: r => by
   show a.toNat * 256 + b.toNat + sum16 r <= 65535 * (r.length + 2)
   (rewrite [Nat.mul_add]; refine rwm (Nat.add_comm _ _) ?_)
   exact Nat.add_le_add (z2n r) (Nat.le_trans (two_le a b) (by decide))
theorem q7r {T : Tb} {F : Fx} {ρ : Loc} {st : St} : q12 T F [] ρ st = .ok (.next, ρ) st := rfl
theorem q16 {ρ : Loc} {st : St} {f : Loc -> St -> Out (Fl × Loc)} : z1d (.next, ρ) st f = f ρ st := rfl
theorem j3n {b : List UInt8} (hz : b.length <= 65000) (d : Nat) (tn : Bool) (st : St) {Q : V -> St -> Prop} (q : Q (.int (fold16 (sum16 b) : Nat)) st) : Sat (q0r lkA (q0q lkA true 16) (d + 3) tn (rF 127) [.bytes b, .int 0] st) Q noX := by
 rw [z7v]
 have hdm := Nat.div_add_mod b.length 2
 have hm : (b.length : Int) - (b.length : Int).fmod 2 = ((2 * (b.length / 2) : Nat) : Int) := by
   refine rwm (Int.fmod_eq_emod_of_nonneg _ (by decide)) ?_
   omega
 have hM : b.length <= 1000000 := Nat.le_trans hz (by decide)
 have hd := decide_eq_true hM
 have he : 2 * (b.length / 2) <= b.length := Nat.mul_div_le _ 2
 have hs : decide ((0 : Int) <= (sum16 b : Nat) /\ ((sum16 b : Nat) : Int) < 4294967296) = true := decide_eq_true ⟨Int.natCast_nonneg _, Int.ofNat_lt.mpr (Nat.lt_of_le_of_lt (Nat.le_trans (z2n b) (Nat.mul_le_mul_left _ hz)) (by decide))⟩
 refine q1d (j5x ?_)
 (rewrite [j61]; refine rwm hm ?_)
 refine q2b hd (q2b hd (q2b rfl (q2b rfl ?_)))
 (refine rwm q56 ?_; refine rwm q16 ?_)
 refine q3n (j53 (n := 15) (F := osF (d + 3) tn) rfl ?_)
 rw [j62]
 refine ⟨rfl, _, z07 (Nat.le_trans (Nat.div_le_self _ 2) (Nat.le_trans hz (by decide))), ?_⟩
 refine j63 (osF (d + 3) tn) hM 0 _ st (b.length / 2) 0 0 [] (by refine rwm (Nat.zero_add _) ?_; exact he) (.inl rfl) (Int.zero_add _) fun t' r' ht => ?_
 rw [Nat.zero_add] at ht
 (refine rwm j64 ?_; refine rwm q16 ?_)
 refine q3n (z0r (n := 15) x1s ?_)
 rw [j1r]
 refine q2b hd ?_
 refine rwm q56 ?_
 by_cases ho : 2 * (b.length / 2) < b.length
 . (refine rwm (decide_eq_true (Int.ofNat_lt.mpr ho)) ?_; refine rwm q2l ?_; rewrite [j1q]; refine rwm (Int.toNat_natCast _) ?_)
   refine q2b (decide_eq_true ⟨Int.natCast_nonneg _, Int.ofNat_lt.mpr ho, hM⟩) (q2b (j1y _ (u64 rfl)) ?_)
   have hl : 2 * (b.length / 2) + 1 = b.length := Nat.le_antisymm ho (Nat.le_trans (Nat.le_of_eq hdm.symm) (Nat.add_le_add_left (Nat.le_of_lt_succ (Nat.mod_lt _ (by decide))) _))
   have hx : sum16 (b.drop (2 * (b.length / 2))) = (b.getD (2 * (b.length / 2)) 0).toNat * 256 := by
     (refine rwm (List.drop_eq_getElem_cons ho) ?_; refine rwm hl ?_; refine rwm List.drop_length ?_; refine rwm (z0p ho) ?_)
     rfl
   rw [hx] at ht
   (refine rwm (show t' + ((b.getD (2 * (b.length / 2)) 0).toNat : Int) * (2 : Int) ^ Int.toNat (8 : Int) = (sum16 b : Nat) from ht) ?_; refine rwm q56 ?_; refine rwm q16 ?_; rewrite [z2b]; refine rwm (Int.toNat_natCast _) ?_)
   exact ⟨hs, q⟩
 . rw [Nat.le_antisymm he (Nat.le_of_not_lt ho), List.drop_length] at ht
   (refine rwm (decide_eq_false (fun h => ho (Int.ofNat_lt.mp h))) ?_; refine rwm q13 ?_; refine rwm q7r ?_)
   refine rwm (show t' = (sum16 b : Nat) from (Int.add_zero t').symm.trans ht) ?_
   (refine rwm q56 ?_; refine rwm q16 ?_; rewrite [z2b]; refine rwm (Int.toNat_natCast _) ?_)
   exact ⟨hs, q⟩
theorem j1p (b : List UInt8) (st : St) (d : Nat) (tn : Bool) : q0r lkA (q0q lkA true 16) d tn (rF 127) [.bytes b] st = q0r lkA (q0q lkA true 16) d tn (rF 127) [.bytes b, .int 0] st := by
 rw [z7v]
 exact q18 (by kernel_rfl) (by kernel_rfl) (by kernel_rfl) (by kernel_rfl)
theorem q50 {c : Cx} (B : Bs c) : q01 c 127 (.orc (q0v 4 q75)) := q07 fun d tn vs st v st' Q X e q => by
 change Option.casesOn (motive := fun W0 => Cb) (aB vs) _ _ = _ at e
 refine q1v (aB vs) (fun hb => ?_) fun b hb => ?_
 .
   rw [hb] at e
   refine ep2 (obi e :) fun b t hn e => ?_
   refine rwm (z4g hn) ?_
   (refine e03 (cb_inv e :) fun h r => ?_; subst r; intro r; subst r)
   have h2 := of_decide_eq_true h
   refine rwm h2.1 ?_
   exact q0g (vc := true) (n := 16) (d := d + 3) B.lkA (B.fn rfl rfl) (j3n h2.2 d tn _ q)
 .
   rw [hb] at e
   refine rwm (j83 hb) ?_
   (refine e03 (cb_inv e :) fun h r => ?_; subst r; intro r; subst r)
   refine q0g (vc := true) (n := 16) (d := d + 3) B.lkA (B.fn rfl rfl) ?_
   rw [j1p]
   exact j3n (of_decide_eq_true h) d tn _ q
noncomputable def orcC : Tr Orc := .nd (.nd (.nd .lf 84 (q0v 5 q9l) .lf) 91 (q0v 6 z8k) (.nd .lf 105 (q0v 5 z2h) .lf)) 112 (q0v 6 z8h) (.nd .lf 127 (q0v 4 q75) .lf)
noncomputable def lkC : Lk := tabs.lk orcC
theorem Bs.lkC {c : Cx} (B : Bs c) : LkOk c lkC := B.lk (.cons (q45 B) (.cons (z2f B) (.cons (q7x B) (.cons (z1y B) (.cons (q50 B) .nil))))) rfl
noncomputable def q9k (vs : List V) (st : St) : Cb := (aB vs).bind fun b => some (decide (b.length <= 65000), .int (chk b : Nat), st)
theorem q7m (b : List UInt8) (st : St) (d : Nat) (tn : Bool) : q0r lkC (q0q lkC true 20) (d + 4) tn (rF 135) [.bytes b] st = .need (decide ((0 : Int) = 0 /\ b.length <= 65000)) (.need true (.ok (.int (65535 - (fold16 (sum16 b) : Nat))) st)) := by kernel_rfl
theorem z0f {c : Cx} (B : Bs c) : q01 c 135 (.orc (q0v 5 q9k)) := q07 fun d tn vs st v st' Q X e q => by
 refine e12 (obi e :) fun b hn e => ?_
 refine rwm (j83 hn) ?_
 clear hn
 (refine e03 (cb_inv e :) fun h r => ?_; subst r; intro r; refine rwb r ?_)
 have h := of_decide_eq_true h
 refine q0g (vc := true) (n := 20) (d := d + 4) B.lkC (B.fn rfl rfl) ?_
 rw [q7m]
 have hf := z6s (sum16 b)
 refine ⟨decide_eq_true ⟨rfl, h⟩, rfl, ?_⟩
 show Q (.int (65535 - (fold16 (sum16 b) : Nat))) _
 refine rwm (show (65535 - (fold16 (sum16 b) : Nat) : Int) = (chk b : Nat) by unfold chk; omega) ?_
 exact q
theorem z5y (n : Nat) (o : AO) : ∀ l, z5x n (putL n o l) = z5x n l := by
 intro l
 induction l with
 | nil =>
   show z5x n ((n, o) :: []) = _
   (rewrite [q14]; refine rwm (if_pos (beq_self_eq_true n)) ?_; rfl)
 | cons p l ih =>
   rw [q06]
   by_cases h : (n == p.1) = true
   . (refine rwm (if_pos h) ?_; rewrite [q14, q14]; refine rwm (if_pos h) ?_; refine rwm (if_pos (beq_self_eq_true n)) ?_; rfl)
   . (refine rwm (if_neg h) ?_; rewrite [q14, q14]; refine rwm (if_neg h) ?_; refine rwm (if_neg h) ?_; refine rwm (ih) ?_; rfl)
theorem q9j (n : Nat) (a b : AO) : ∀ l, putL n b (putL n a l) = putL n b l := by
 intro l
 induction l with
 | nil =>
   show putL n b ((n, a) :: []) = _
   (rewrite [q06]; refine rwm (if_pos (beq_self_eq_true n)) ?_)
   rfl
 | cons p l ih =>
   (refine rwm (q06 n a _ _) ?_; refine rwm (q06 n b p _) ?_)
   by_cases h : (n == p.1) = true
   . (refine rwm (if_pos h) ?_; refine rwm (if_pos h) ?_; rewrite [q06]; refine rwm (if_pos (beq_self_eq_true n)) ?_; rfl)
   . (refine rwm (if_neg h) ?_; refine rwm (if_neg h) ?_; rewrite [q06]; refine rwm (if_neg h) ?_; refine rwm (ih) ?_; rfl)
theorem St.set_set (st : St) (n : Nat) (a b : AO) : (st.set n a).set n b = st.set n b := by unfold St.set; rw [q9j]
theorem St.set_new (st : St) (a b : AO) : (st.new a).set st.nx b = st.new b := by unfold St.set St.new; rw [q9j]
theorem St.del_new (st : St) (a : AO) : (st.new a).del st.nx = st.up := by unfold St.del St.new St.up; rw [z5y]
noncomputable def atrs (ps : List (Str × Str)) : List CS := ps.map fun p => .atr (.loc "self") p.1 (.loc p.2)
noncomputable def z2g (ρ : Loc) : List (Str × Str) -> List (Str × V) -> Option (List (Str × V))
 | [], fs => some fs
 | (x, y) :: ps, fs => Option.casesOn (q0f y ρ) none fun v => z2g ρ ps (q8i x v fs)
theorem z9k {lk : Lk} {vc : Bool} {k : Nat} {F : Fx} {ρ : Loc} {n : Nat} {C : Addr} (hs : q0f "self" ρ = some (.ref n)) : ∀ {ps : List (Str × Str)} {fs gs : List (Str × V)} {st : St}, z2g ρ ps fs = some gs -> ps.all (fun p => lk.at_ C p.1) = true -> fs.length + ps.length <= 900 -> st.get n = some (.inst C fs) ->
   q12 (q0q lk vc (k + 2)) F (atrs ps) ρ st = .ok (.next, ρ) (List.casesOn (motive := fun W0 => St) ps st fun W0 W0 => st.set n (.inst C gs)) := by
 intro ps
 induction ps with
 | nil => intro fs gs st hp ha hl hg; rfl
 | cons q0 ps ih =>
   intro fs gs st hp ha hl hg
   obtain ⟨x, y⟩ := q0
   unfold z2g at hp
   rw [List.all_cons, Bool.and_eq_true] at ha
   refine q1v (q0f y ρ) (fun hy => ?_) fun v hy => ?_
   . rw [hy] at hp; exact zns hp
   .
     rw [hy] at hp
     have hlen : (q8i x v fs).length <= fs.length + 1 := by
       rw [q1s]
       clear hp hg hl
       induction fs with
       | nil => exact Nat.le_refl _
       | cons q fs ih =>
         obtain ⟨a, b⟩ := q
         show (if (x == a) = true then (x, v) :: fs else (a, b) :: q6k x v fs).length <= _
         split
         . exact Nat.le_succ _
         . exact Nat.succ_le_succ ih
     have hst : (q0q lk vc (k + 2)).ex F (.atr (.loc "self") x (.loc y)) ρ st = .ok (.next, ρ) (st.set n (.inst C (q8i x v fs))) := by
       show ((ofO (q0f y ρ) st).bind fun w st => (ofO (q0f "self" ρ) st).bind fun v st => setA lk x w v ρ st) = _
       (refine rwm hy ?_; refine rwm hs ?_)
       show setO lk n x v ρ st (st.get n) = _
       refine rwm hg ?_
       show cond (lk.at_ C x && Nat.ble fs.length 900) _ _ = _
       (refine rwm ha.1 ?_; refine rwm (Nat.ble_eq_true_of_le (Nat.le_trans (Nat.le_add_right _ _) hl)) ?_)
       rfl
     have ih := ih (fs := q8i x v fs) (gs := gs) (st := st.set n (.inst C (q8i x v fs))) hp ha.2 (Nat.le_trans (Nat.le_trans (Nat.add_le_add_right hlen ps.length) (Nat.le_of_eq (Nat.succ_add_eq_add_succ ..))) hl) (by (rewrite [St.get_set]; refine rwm (if_pos rfl) ?_; rfl))
     show ((q0q lk vc (k + 2)).ex F (.atr (.loc "self") x (.loc y)) ρ st).bind _ = _
     refine rwm hst ?_
     show q12 (q0q lk vc (k + 2)) F (atrs ps) ρ (st.set n (.inst C (q8i x v fs))) = _
     refine rwm ih ?_
     induction ps using List.casesOn with
     | nil =>
       cases hp
       rfl
     | cons q ps =>
       rw [St.set_set]
theorem z1t {c : Cx} {lk : Lk} (L : LkOk c lk) {C fI : Addr} (hC : ClOk c C fI) (R : FnOk c fI (rF fI)) {ps : List (Str × Str)} {d : Nat} {tn : Bool} {vs : List V} {st : St} {ρ : Loc} {gs : List (Str × V)} {Q : V -> St -> Prop} {X : Exc}
   (h1 : (Nat.ble (.ref st.nx :: vs).length (rF fI).ns.length && Nat.ble (rF fI).ns.length ((.ref st.nx :: vs).length + (rF fI).dvs.length)) = true) (hc : (rF fI).cells = []) (hs : q1p lk (rF fI) = atrs ps) (hb : (rF fI).ns.zip (q6j (rF fI).ns.length (.ref st.nx :: vs) (rF fI).dvs) = ρ)
   (hρ : q0f "self" ρ = some (.ref st.nx)) (hp : z2g ρ ps [] = some gs) (ha : ps.all (fun p => lk.at_ C p.1) = true) (hl : ps.length <= 900) (hn : ps ≠ []) (q : Q (.ob C gs) st.up) : q0d c (d + 2) tn st (.prim (.ref C)) vs Q X := by
 obtain ⟨k1, k2, k3⟩ := hC
 refine q0d.frz (q6s k1 k2 k3 (q0g (vc := true) (n := 2) L R ?_))
 (refine rwm (q18 h1 hc hs hb) ?_; refine rwm (z9k (k := 0) (C := C) (fs := []) hρ hp ha (Nat.le_trans (Nat.le_of_eq (Nat.zero_add _)) hl) (by rw [St.get_new, if_pos rfl])) ?_)
 induction ps using List.casesOn with
 | nil => exact absurd rfl hn
 | cons p ps =>
   show Sat (z79 (Fl.next, ρ) ((st.new (.inst C [])).set st.nx (.inst C gs))) _ _
   rw [St.set_new]
   refine ⟨rfl, .inst (by (rewrite [St.get_new]; refine rwm (if_pos rfl) ?_; rfl)) (.keep ?_)⟩
   refine rwm (St.del_new _ _) ?_
   exact q
noncomputable def z64 : List Str := ["source", "target", "protocol", "ident", "ttl", "tos", "dont", "more", "offset", "options"]
noncomputable def z7l : List Str := ["kind", "code", "rest", "payload"]
noncomputable def z2i (vs : List V) (st : St) : Cb := cond (Nat.beq vs.length 10) (some (true, .ob 286 (z64.zip vs), st.up)) none
noncomputable def z2j (vs : List V) (st : St) : Cb := cond (Nat.beq vs.length 4) (some (true, .ob 187 (z7l.zip vs), st.up)) none
theorem q1e {α : Type} {n : Nat} {l : List α} {C : List α -> Prop} (h : l.length = n + 1) (k : ∀ a r, r.length = n -> C (a :: r)) : C l := by
 induction l using List.casesOn with
 | nil => exact absurd h (Nat.succ_ne_zero n).symm
 | cons a r => exact k a r (Nat.succ.inj h)
theorem z61 {α : Type} {l : List α} {C : List α -> Prop} (h : l.length = 4) (k : ∀ a b c d, C [a, b, c, d]) : C l :=
 q1e h fun a W0 h => q1e (C := fun r => C (a :: r)) h fun b W0 h => q1e (C := fun r => C (a :: b :: r)) h fun c W0 h => q1e (C := fun r => C (a :: b :: c :: r)) h fun d r h => List.eq_nil_of_length_eq_zero h ▸ k a b c d
theorem x2g {α : Type} {l : List α} {C : List α -> Prop} (h : l.length = 10) (k : ∀ a b c d e f g i j m, C [a, b, c, d, e, f, g, i, j, m]) : C l :=
 q1e h fun a W0 h => q1e (C := fun r => C (a :: r)) h fun b W0 h => q1e (C := fun r => C (a :: b :: r)) h fun c W0 h => q1e (C := fun r => C (a :: b :: c :: r)) h fun d W0 h => q1e (C := fun r => C (a :: b :: c :: d :: r)) h fun e W0 h => q1e (C := fun r => C (a :: b :: c :: d :: e :: r)) h fun f W0 h => z61 (C := fun r => C (a :: b :: c :: d :: e :: f :: r)) h fun g i j m => k a b c d e f g i j m
noncomputable def same (l : List Str) : List (Str × Str) := l.map fun x => (x, x)
noncomputable def clI (C : Addr) : Addr := match z1z C z52 with
 | some (.cl f _) => f
 | _ => 0
theorem Bs.cl {c : Cx} (B : Bs c) {C : Addr} (e : Mine.lk0.ent C = some (.cl (clI C) true)) : ClOk c C (clI C) := (B.lk0.ent _ _ e).2
theorem z13 {c : Cx} (B : Bs c) : q01 c 286 (.orc (q0v 2 z2i)) := q07 fun d tn vs st v st' Q X e => by
 obtain ⟨hl, e⟩ := q0c e
 refine x2g (C := fun us => some (true, V.ob 286 (z64.zip us), st.up) = _ -> Q v st' -> q0d c _ tn st _ us Q X) (Nat.eq_of_beq_eq_true hl) (fun a b p i t o dd m f z e q => ?_) e
 (refine e03 (cb_inv e :) fun h r => ?_; subst r; intro r; subst r)
 exact z1t B.lk0 (fI := clI 286) (B.cl rfl) (B.fn rfl rfl) (ps := same z64) (gs := z64.zip [a, b, p, i, t, o, dd, m, f, z]) (ρ := ("self", .ref st.nx) :: z64.zip [a, b, p, i, t, o, dd, m, f, z])
     (by kernel_rfl) (by kernel_rfl) (by kernel_rfl) (by kernel_rfl) (by kernel_rfl) (by kernel_rfl) (by kernel_rfl) (by decide) (by decide) q
theorem z14 {c : Cx} (B : Bs c) : q01 c 187 (.orc (q0v 2 z2j)) := q07 fun d tn vs st v st' Q X e => by
 obtain ⟨hl, e⟩ := q0c e
 refine z61 (C := fun us => some (true, V.ob 187 (z7l.zip us), st.up) = _ -> Q v st' -> q0d c _ tn st _ us Q X) (Nat.eq_of_beq_eq_true hl) (fun k cc r p e q => ?_) e
 (refine e03 (cb_inv e :) fun h r => ?_; subst r; intro r; subst r)
 exact z1t B.lk0 (fI := clI 187) (B.cl rfl) (B.fn rfl rfl) (ps := same z7l) (gs := z7l.zip [k, cc, r, p]) (ρ := ("self", .ref st.nx) :: z7l.zip [k, cc, r, p])
     (by kernel_rfl) (by kernel_rfl) (by kernel_rfl) (by kernel_rfl) (by kernel_rfl) (by kernel_rfl) (by kernel_rfl) (by decide) (by decide) q
noncomputable def orcD : Tr Orc := .nd (.nd (.nd .lf 84 (q0v 5 q9l) .lf) 91 (q0v 6 z8k) (.nd .lf 105 (q0v 5 z2h) .lf)) 112 (q0v 6 z8h) (.nd (.nd .lf 127 (q0v 4 q75) .lf) 135 (q0v 5 q9k) (.nd (.nd .lf 187 (q0v 2 z2j) .lf) 286 (q0v 2 z2i) .lf))
noncomputable def lkD : Lk := tabs.lk orcD
theorem Bs.lkD {c : Cx} (B : Bs c) : LkOk c lkD := B.lk (.cons (q45 B) (.cons (z2f B) (.cons (q7x B) (.cons (z1y B) (.cons (q50 B) (.cons (z0f B) (.cons (z14 B) (.cons (z13 B) .nil)))))))) rfl
noncomputable def x0v (src tgt proto ident ttl : Int) (dont more : Bool) (off : Int) : V := .ob 286 [("source", .int src), ("target", .int tgt), ("protocol", .int proto), ("ident", .int ident), ("ttl", .int ttl), ("tos", .int 0), ("dont", .bool dont), ("more", .bool more), ("offset", .int off), ("options", .bytes [])]
noncomputable def j1i (k c r : Int) (p : List UInt8) : V := .ob 187 [("kind", .int k), ("code", .int c), ("rest", .int r), ("payload", .bytes p)]
theorem q0d.conv {c : Cx} {d : Nat} {tn : Bool} {st : St} {f : V} {vs : List V} {Q : V -> St -> Prop} {X : Exc} (h : ∀ g xs, VRs c g vs xs -> ∃ vs', VRs c g vs' xs /\ q0d c d tn st f vs' (fun w st' => ∀ g' r, g.le g' -> VR c g' w r -> ∃ v, VR c g' v r /\ Q v st') X) : q0d c d tn st f vs Q X :=
 fun P ρ h1 h2 h3 g pv m ns news h0 s x xs R a hf hxs K => by
 refine e12 (h g xs hxs :) fun vs' r' k => ?_
 exact k P ρ h1 h2 h3 g pv m ns news h0 s x xs R a hf r' ⟨fun g' news' h0' h' tk y b st' l v a' r q => by
   refine e12 (q g' y l r :) fun v' r2 q2 => ?_
   exact K.ok g' news' h0' h' tk y v' st' l v a' r2 q2, K.ex⟩
theorem q6i (k c r : Int) (p : List UInt8) (st : St) (d : Nat) (tn : Bool) : q0r lkD (q0q lkD true 20) (d + 6) tn (rF 212) [j1i k c r p] st = (.need (decide ((0 : Int) <= k)) (.need (decide (k <= (255 : Int))) (.need (decide ((0 : Int) <= c)) (.need (decide (c <= (255 : Int))) (.need (decide ((0 : Int) <= r)) (.need (decide (r < (4294967296 : Int))) (.need (([k, c].all fun n => decide ((0 : Int) <= n /\ n < (256 : Int))) && decide ([k, c].length <= (1000000 : Nat))) (.need (decide ((0 : Int) <= r)) (.need (decide ((q1y r.toNat).length + p.length <= (1000000 : Nat))) (.need .true (.need (decide ((List.map (fun n => n.toNat.toUInt8) [k, c]).length + (q0n (Int.toNat (0 : Int))).length <= (1000000 : Nat))) (.need (decide ((List.map (fun n => n.toNat.toUInt8) [k, c] ++ q0n (Int.toNat (0 : Int))).length + (q1y r.toNat ++ p).length <= (1000000 : Nat))) (.need (decide ((List.map (fun n => n.toNat.toUInt8) [k, c] ++ q0n (Int.toNat (0 : Int)) ++ (q1y r.toNat ++ p)).length <= (65000 : Nat))) (.need (decide ((0 : Int) <= (↑(chk (List.map (fun n => n.toNat.toUInt8) [k, c] ++ q0n (Int.toNat (0 : Int)) ++ (q1y r.toNat ++ p))) : Int))) (.need (decide ((List.map (fun n => n.toNat.toUInt8) [k, c]).length + (q0n (↑(chk (List.map (fun n => n.toNat.toUInt8) [k, c] ++ q0n (Int.toNat (0 : Int)) ++ (q1y r.toNat ++ p))) : Int).toNat).length <= (1000000 : Nat))) (.need (decide ((List.map (fun n => n.toNat.toUInt8) [k, c] ++ q0n (↑(chk (List.map (fun n => n.toNat.toUInt8) [k, c] ++ q0n (Int.toNat (0 : Int)) ++ (q1y r.toNat ++ p))) : Int).toNat).length + (q1y r.toNat ++ p).length <= (1000000 : Nat))) (.ok (.bytes (List.map (fun n => n.toNat.toUInt8) [k, c] ++ q0n (↑(chk (List.map (fun n => n.toNat.toUInt8) [k, c] ++ q0n (Int.toNat (0 : Int)) ++ (q1y r.toNat ++ p))) : Int).toNat ++ (q1y r.toNat ++ p))) (st)))))))))))))))))) := by kernel_rfl
theorem two_small {a b : Int} (ha : 0 <= a /\ a < 256) (hb : 0 <= b /\ b < 256) : (([a, b].all fun n => decide ((0 : Int) <= n /\ n < (256 : Int))) && decide ([a, b].length <= (1000000 : Nat))) = true := by
 show ((decide (0 <= a /\ a < 256) && (decide (0 <= b /\ b < 256) && true)) && true) = true
 (refine rwm (decide_eq_true ha) ?_; refine rwm (decide_eq_true hb) ?_)
 rfl
theorem q7z {c : Cx} (B : Bs c) {k cc r : Int} {p : List UInt8} (hk : 0 <= k /\ k < 256) (hc : 0 <= cc /\ cc < 256) (hr : 0 <= r /\ r < 4294967296) (hp : p.length <= 60000) {d : Nat} {tn : Bool} {st : St} {Q : V -> St -> Prop} {X : Exc} (q : Q (.bytes (q09 k cc r p)) st) : q0d c (d + 7) tn st (.prim (.ref 212)) [j1i k cc r p] Q X := by
 refine q0g (vc := true) (n := 20) (d := d + 6) B.lkD (B.fn rfl rfl) ?_
 rw [q6i]
 have h8 : p.length + 8 <= 60008 := Nat.add_le_add_right hp 8
 have hA : decide (4 + p.length <= 1000000) = true := decide_eq_true (Nat.le_trans (Nat.add_le_add_left hp 4) (by decide))
 have hB : decide (4 + (p.length + 4) <= 1000000) = true := decide_eq_true (Nat.le_trans (Nat.add_le_add_left (Nat.add_le_add_right hp 4) 4) (by decide))
 have hC : decide (p.length + 8 <= 65000) = true := decide_eq_true (Nat.le_trans h8 (by decide))
 exact ⟨decide_eq_true hk.1, decide_eq_true (Int.le_of_lt_add_one hk.2), decide_eq_true hc.1, decide_eq_true (Int.le_of_lt_add_one hc.2), decide_eq_true hr.1, decide_eq_true hr.2, two_small hk hc, decide_eq_true hr.1, hA, rfl, rfl, hB, hC, decide_eq_true (Int.natCast_nonneg _), rfl, hB, q⟩
theorem q4x (b : List UInt8) (st : St) (d : Nat) (tn : Bool) : q0r lkD (q0q lkD true 20) (d + 6) tn (rF 219) [.bytes b] st = (.need (decide (b.length <= (1000000 : Nat))) (.need (decide ((↑b.length : Int) < (8 : Int)) == false) (.need (decide (b.length <= (65000 : Nat))) (.need (((↑(fold16 (sum16 b)) : Int) != (65535 : Int)) == false) (.need (decide ((0 : Int) <= (0 : Int) /\ (0 : Int) < (↑b.length : Int) /\ b.length <= (1000000 : Nat))) (.need (decide ((0 : Int) <= (1 : Int) /\ (1 : Int) < (↑b.length : Int) /\ b.length <= (1000000 : Nat))) (.need (decide ((0 : Int) <= (4 : Int) /\ 4 + (4 : Nat) <= b.length /\ b.length <= (1000000 : Nat))) (.need (decide (b.length <= (1000000 : Nat))) (.need .true (.need .true (.ok (.ob 187 [("kind", (.int ((↑(b.getD (0) 0).toNat : Int)))), ("code", (.int ((↑(b.getD (1) 0).toNat : Int)))), ("rest", (.int ((↑(g32 b (4)) : Int)))), ("payload", (.bytes (q0t b (some (8 : Int)) none)))]) st.up))))))))))) := by kernel_rfl
theorem q7n {n k : Nat} (h : k <= n) : clipAt n (k : Int) = k := by
 refine Int.ofNat.inj ((clipAt_cast n k).trans ?_)
 rw [if_neg (Int.not_lt.mpr (Int.natCast_nonneg k)), Int.min_eq_left (Int.ofNat_le.mpr h)]
 exact Int.max_eq_right (Int.natCast_nonneg k)
theorem z33 {l : List UInt8} {k : Nat} (h : k <= l.length) : q0t l (some (k : Int)) none = l.drop k := by
 unfold q0t
 simp only [Option.elim_some, Option.elim_none, q7n h]
 exact List.take_of_length_le (by refine rwm List.length_drop ?_; exact Nat.le_refl _)
theorem z2e {l : List UInt8} {k : Nat} (h : k <= l.length) : q0t l none (some (k : Int)) = l.take k := by
 unfold q0t
 simp only [Option.elim_some, Option.elim_none, q7n h, Nat.sub_zero, List.drop_zero]
theorem q9i {l : List UInt8} {a b : Nat} (ha : a <= l.length) (hb : b <= l.length) : q0t l (some (a : Int)) (some (b : Int)) = (l.drop a).take (b - a) := by
 unfold q0t
 simp only [Option.elim_some, q7n ha, q7n hb]
theorem q6a {c : Cx} (B : Bs c) {k cc r : Int} {p : List UInt8} (hk : 0 <= k /\ k < 256) (hc : 0 <= cc /\ cc < 256) (hr : 0 <= r /\ r < 4294967296) (hp : p.length <= 60000) {d : Nat} {tn : Bool} {st : St} {Q : V -> St -> Prop} {X : Exc} (q : Q (j1i k cc r p) st.up) : q0d c (d + 7) tn st (.prim (.ref 219)) [.bytes (q09 k cc r p)] Q X := by
 refine q0g (vc := true) (n := 20) (d := d + 6) B.lkD (B.fn rfl rfl) ?_
 have hl := q1h k cc r p
 have hs := z7y k cc r p
 have e0 : ∀ {x : Int}, 0 <= x -> x < 256 -> ((o8 x.toNat).toNat : Int) = x := fun {x} h0 h1 => by
   (refine rwm (j1l ((Int.toNat_lt h0).mpr h1)) ?_; refine rwm (Int.toNat_of_nonneg h0) ?_; rfl)
 have e1 : (((q09 k cc r p).getD 0 0).toNat : Int) = k := e0 hk.1 hk.2
 have e2 : (((q09 k cc r p).getD 1 0).toNat : Int) = cc := e0 hc.1 hc.2
 have e3 : ((g32 (q09 k cc r p) 4 : Nat) : Int) = r := (congrArg Nat.cast (q7c ((Int.toNat_lt hr.1).mpr hr.2))).trans (Int.toNat_of_nonneg hr.1)
 have h8 : 8 <= (q09 k cc r p).length := hl ▸ Nat.le_add_right 8 _
 have e4 : q0t (q09 k cc r p) (some (8 : Int)) none = p := (z33 (k := 8) h8).trans rfl
 have hM : (q09 k cc r p).length <= 60008 := hl ▸ Nat.add_le_add_left hp 8
 have h8i : (8 : Int) <= ((q09 k cc r p).length : Int) := Int.ofNat_le.mpr h8
 have hM1 : (q09 k cc r p).length <= 1000000 := Nat.le_trans hM (by decide)
 (rewrite [q4x]; refine rwm e1 ?_; refine rwm e2 ?_; refine rwm e3 ?_; refine rwm e4 ?_; refine rwm hs ?_)
 exact ⟨decide_eq_true hM1, q5y (Int.not_lt.mpr h8i), decide_eq_true (Nat.le_trans hM (by decide)), rfl, decide_eq_true ⟨by decide, Int.lt_of_lt_of_le (by decide) h8i, hM1⟩, decide_eq_true ⟨by decide, Int.lt_of_lt_of_le (by decide) h8i, hM1⟩, decide_eq_true ⟨by decide, h8, hM1⟩, decide_eq_true hM1, rfl, rfl, q⟩
noncomputable def j01 (h : HdrN) : V := x0v h.src h.tgt h.proto h.ident h.ttl h.dont h.more h.off
noncomputable def z30 (src tgt proto ident ttl off of : Int) (p : List UInt8) (r : Out V) : Out V := (.need (decide ((0 : Int) <= src)) (.need .true (.need (decide (src < (2 : Int) ^ Int.toNat (32 : Int)) == !false) (.need (decide ((0 : Int) <= tgt)) (.need .true (.need (decide (tgt < (2 : Int) ^ Int.toNat (32 : Int)) == !false) (.need (decide ((0 : Int) <= proto)) (.need .true (.need (decide (proto < (2 : Int) ^ Int.toNat (8 : Int)) == !false) (.need (decide ((0 : Int) <= ttl)) (.need .true (.need (decide (ttl < (2 : Int) ^ Int.toNat (8 : Int)) == !false) (.need .true (.need .true (.need .true (.need (decide ((0 : Int) <= ident)) (.need .true (.need (decide (ident < (2 : Int) ^ Int.toNat (16 : Int)) == !false) (.need .true (.need ((off.fmod (8 : Int) != (0 : Int)) == false) (.need (!(8 : Int) == (0 : Int) && !Builtin.divisionGoesByPylong off (8 : Int)) (.need (decide ((0 : Int) <= of)) (.need .true (.need (decide (of < (2 : Int) ^ Int.toNat (13 : Int)) == !false) (.need .true (.need .true (.need .true (.need .true (.need .true (.need .true (.need .true (.need .true (.need (decide (p.length <= (1000000 : Nat))) (.need .true (.need (decide ((20 : Int) + (↑([] : List UInt8).length : Int) + (↑p.length : Int) > (65535 : Int)) == false) (.need .true (.need .true (.need .true (.need .true (.need .true (.need .true (.need .true (.need .true (.need (decide (p.length <= (1000000 : Nat))) (.need .true (.need (decide ((0 : Int) <= (20 : Int) + (↑([] : List UInt8).length : Int) + (↑p.length : Int))) (.need (decide ((0 : Int) <= ident)) (.need (decide ((q0n ((20 : Int) + (↑([] : List UInt8).length : Int) + (↑p.length : Int)).toNat).length + (q0n ident.toNat).length <= (1000000 : Nat))) (.need (!(8 : Int) == (0 : Int) && !Builtin.divisionGoesByPylong off (8 : Int)) r)))))))))))))))))))))))))))))))))))))))))))))))))
noncomputable def z7z (src tgt proto ident ttl fl : Int) (p : List UInt8) (st : St) : Out V := (.need (decide ((0 : Int) <= fl)) (.need (decide ((q0n ((20 : Int) + (↑([] : List UInt8).length : Int) + (↑p.length : Int)).toNat ++ q0n ident.toNat).length + (q0n fl.toNat).length <= (1000000 : Nat))) (.need (([ttl, proto].all fun n => decide ((0 : Int) <= n /\ n < (256 : Int))) && decide ([ttl, proto].length <= (1000000 : Nat))) (.need (decide ((0 : Int) <= src)) (.need (decide ((0 : Int) <= tgt)) (.need (decide ((q1y src.toNat).length + (q1y tgt.toNat).length <= (1000000 : Nat))) (.need (decide ((q1y src.toNat ++ q1y tgt.toNat).length + ([] : List UInt8).length <= (1000000 : Nat))) (.need (decide ((List.map (fun n : Int => n.toNat.toUInt8) [(4 : Int) * (16 : Int) + ((20 : Int) + (↑([] : List UInt8).length : Int)).fdiv (4 : Int), (0 : Int)]).length + (q0n ((20 : Int) + (↑([] : List UInt8).length : Int) + (↑p.length : Int)).toNat ++ q0n ident.toNat ++ q0n fl.toNat).length <= (1000000 : Nat))) (.need (decide ((List.map (fun n : Int => n.toNat.toUInt8) [(4 : Int) * (16 : Int) + ((20 : Int) + (↑([] : List UInt8).length : Int)).fdiv (4 : Int), (0 : Int)] ++ (q0n ((20 : Int) + (↑([] : List UInt8).length : Int) + (↑p.length : Int)).toNat ++ q0n ident.toNat ++ q0n fl.toNat)).length + (List.map (fun n : Int => n.toNat.toUInt8) [ttl, proto]).length <= (1000000 : Nat))) (.need .true (.need (decide ((List.map (fun n : Int => n.toNat.toUInt8) [(4 : Int) * (16 : Int) + ((20 : Int) + (↑([] : List UInt8).length : Int)).fdiv (4 : Int), (0 : Int)] ++ (q0n ((20 : Int) + (↑([] : List UInt8).length : Int) + (↑p.length : Int)).toNat ++ q0n ident.toNat ++ q0n fl.toNat) ++ List.map (fun n : Int => n.toNat.toUInt8) [ttl, proto]).length + (q0n (Int.toNat (0 : Int))).length <= (1000000 : Nat))) (.need (decide ((List.map (fun n : Int => n.toNat.toUInt8) [(4 : Int) * (16 : Int) + ((20 : Int) + (↑([] : List UInt8).length : Int)).fdiv (4 : Int), (0 : Int)] ++ (q0n ((20 : Int) + (↑([] : List UInt8).length : Int) + (↑p.length : Int)).toNat ++ q0n ident.toNat ++ q0n fl.toNat) ++ List.map (fun n : Int => n.toNat.toUInt8) [ttl, proto] ++ q0n (Int.toNat (0 : Int))).length + (q1y src.toNat ++ q1y tgt.toNat ++ []).length <= (1000000 : Nat))) (.need (decide ((List.map (fun n : Int => n.toNat.toUInt8) [(4 : Int) * (16 : Int) + ((20 : Int) + (↑([] : List UInt8).length : Int)).fdiv (4 : Int), (0 : Int)] ++ (q0n ((20 : Int) + (↑([] : List UInt8).length : Int) + (↑p.length : Int)).toNat ++ q0n ident.toNat ++ q0n fl.toNat) ++ List.map (fun n : Int => n.toNat.toUInt8) [ttl, proto] ++ q0n (Int.toNat (0 : Int)) ++ (q1y src.toNat ++ q1y tgt.toNat ++ [])).length <= (65000 : Nat))) (.need (decide ((List.map (fun n : Int => n.toNat.toUInt8) [(4 : Int) * (16 : Int) + ((20 : Int) + (↑([] : List UInt8).length : Int)).fdiv (4 : Int), (0 : Int)]).length + (q0n ((20 : Int) + (↑([] : List UInt8).length : Int) + (↑p.length : Int)).toNat ++ q0n ident.toNat ++ q0n fl.toNat).length <= (1000000 : Nat))) (.need (decide ((List.map (fun n : Int => n.toNat.toUInt8) [(4 : Int) * (16 : Int) + ((20 : Int) + (↑([] : List UInt8).length : Int)).fdiv (4 : Int), (0 : Int)] ++ (q0n ((20 : Int) + (↑([] : List UInt8).length : Int) + (↑p.length : Int)).toNat ++ q0n ident.toNat ++ q0n fl.toNat)).length + (List.map (fun n : Int => n.toNat.toUInt8) [ttl, proto]).length <= (1000000 : Nat))) (.need (decide ((0 : Int) <= (↑(chk (List.map (fun n : Int => n.toNat.toUInt8) [(4 : Int) * (16 : Int) + ((20 : Int) + (↑([] : List UInt8).length : Int)).fdiv (4 : Int), (0 : Int)] ++ (q0n ((20 : Int) + (↑([] : List UInt8).length : Int) + (↑p.length : Int)).toNat ++ q0n ident.toNat ++ q0n fl.toNat) ++ List.map (fun n : Int => n.toNat.toUInt8) [ttl, proto] ++ q0n (Int.toNat (0 : Int)) ++ (q1y src.toNat ++ q1y tgt.toNat ++ []))) : Int))) (.need (decide ((List.map (fun n : Int => n.toNat.toUInt8) [(4 : Int) * (16 : Int) + ((20 : Int) + (↑([] : List UInt8).length : Int)).fdiv (4 : Int), (0 : Int)] ++ (q0n ((20 : Int) + (↑([] : List UInt8).length : Int) + (↑p.length : Int)).toNat ++ q0n ident.toNat ++ q0n fl.toNat) ++ List.map (fun n : Int => n.toNat.toUInt8) [ttl, proto]).length + (q0n (↑(chk (List.map (fun n : Int => n.toNat.toUInt8) [(4 : Int) * (16 : Int) + ((20 : Int) + (↑([] : List UInt8).length : Int)).fdiv (4 : Int), (0 : Int)] ++ (q0n ((20 : Int) + (↑([] : List UInt8).length : Int) + (↑p.length : Int)).toNat ++ q0n ident.toNat ++ q0n fl.toNat) ++ List.map (fun n : Int => n.toNat.toUInt8) [ttl, proto] ++ q0n (Int.toNat (0 : Int)) ++ (q1y src.toNat ++ q1y tgt.toNat ++ []))) : Int).toNat).length <= (1000000 : Nat))) (.need (decide ((List.map (fun n : Int => n.toNat.toUInt8) [(4 : Int) * (16 : Int) + ((20 : Int) + (↑([] : List UInt8).length : Int)).fdiv (4 : Int), (0 : Int)] ++ (q0n ((20 : Int) + (↑([] : List UInt8).length : Int) + (↑p.length : Int)).toNat ++ q0n ident.toNat ++ q0n fl.toNat) ++ List.map (fun n : Int => n.toNat.toUInt8) [ttl, proto] ++ q0n (↑(chk (List.map (fun n : Int => n.toNat.toUInt8) [(4 : Int) * (16 : Int) + ((20 : Int) + (↑([] : List UInt8).length : Int)).fdiv (4 : Int), (0 : Int)] ++ (q0n ((20 : Int) + (↑([] : List UInt8).length : Int) + (↑p.length : Int)).toNat ++ q0n ident.toNat ++ q0n fl.toNat) ++ List.map (fun n : Int => n.toNat.toUInt8) [ttl, proto] ++ q0n (Int.toNat (0 : Int)) ++ (q1y src.toNat ++ q1y tgt.toNat ++ []))) : Int).toNat).length + (q1y src.toNat ++ q1y tgt.toNat ++ []).length <= (1000000 : Nat))) (.need (decide ((List.map (fun n : Int => n.toNat.toUInt8) [(4 : Int) * (16 : Int) + ((20 : Int) + (↑([] : List UInt8).length : Int)).fdiv (4 : Int), (0 : Int)] ++ (q0n ((20 : Int) + (↑([] : List UInt8).length : Int) + (↑p.length : Int)).toNat ++ q0n ident.toNat ++ q0n fl.toNat) ++ List.map (fun n : Int => n.toNat.toUInt8) [ttl, proto] ++ q0n (↑(chk (List.map (fun n : Int => n.toNat.toUInt8) [(4 : Int) * (16 : Int) + ((20 : Int) + (↑([] : List UInt8).length : Int)).fdiv (4 : Int), (0 : Int)] ++ (q0n ((20 : Int) + (↑([] : List UInt8).length : Int) + (↑p.length : Int)).toNat ++ q0n ident.toNat ++ q0n fl.toNat) ++ List.map (fun n : Int => n.toNat.toUInt8) [ttl, proto] ++ q0n (Int.toNat (0 : Int)) ++ (q1y src.toNat ++ q1y tgt.toNat ++ []))) : Int).toNat ++ (q1y src.toNat ++ q1y tgt.toNat ++ [])).length + p.length <= (1000000 : Nat))) (.ok (.bytes (List.map (fun n : Int => n.toNat.toUInt8) [(4 : Int) * (16 : Int) + ((20 : Int) + (↑([] : List UInt8).length : Int)).fdiv (4 : Int), (0 : Int)] ++ (q0n ((20 : Int) + (↑([] : List UInt8).length : Int) + (↑p.length : Int)).toNat ++ q0n ident.toNat ++ q0n fl.toNat) ++ List.map (fun n : Int => n.toNat.toUInt8) [ttl, proto] ++ q0n (↑(chk (List.map (fun n : Int => n.toNat.toUInt8) [(4 : Int) * (16 : Int) + ((20 : Int) + (↑([] : List UInt8).length : Int)).fdiv (4 : Int), (0 : Int)] ++ (q0n ((20 : Int) + (↑([] : List UInt8).length : Int) + (↑p.length : Int)).toNat ++ q0n ident.toNat ++ q0n fl.toNat) ++ List.map (fun n : Int => n.toNat.toUInt8) [ttl, proto] ++ q0n (Int.toNat (0 : Int)) ++ (q1y src.toNat ++ q1y tgt.toNat ++ []))) : Int).toNat ++ (q1y src.toNat ++ q1y tgt.toNat ++ []) ++ p)) (st)))))))))))))))))))))
theorem q70 (src tgt proto ident ttl off : Int) (p : List UInt8) (st : St) (d : Nat) (tn : Bool) : q0r lkD (q0q lkD true 30) (d + 6) tn (rF 325) [x0v src tgt proto ident ttl false false off, .bytes p] st = z30 src tgt proto ident ttl off (off.fdiv (8 : Int)) p (z7z src tgt proto ident ttl (off.fdiv (8 : Int)) p st) := by kernel_rfl
theorem q71 (src tgt proto ident ttl off : Int) (p : List UInt8) (st : St) (d : Nat) (tn : Bool) : q0r lkD (q0q lkD true 30) (d + 6) tn (rF 325) [x0v src tgt proto ident ttl true false off, .bytes p] st = z30 src tgt proto ident ttl off (off.fdiv (8 : Int)) p (.need .true (z7z src tgt proto ident ttl (off.fdiv (8 : Int) + (16384 : Int)) p st)) := by kernel_rfl
theorem q72 (src tgt proto ident ttl off : Int) (p : List UInt8) (st : St) (d : Nat) (tn : Bool) : q0r lkD (q0q lkD true 30) (d + 6) tn (rF 325) [x0v src tgt proto ident ttl false true off, .bytes p] st = z30 src tgt proto ident ttl off (off.fdiv (8 : Int)) p (.need .true (z7z src tgt proto ident ttl (off.fdiv (8 : Int) + (8192 : Int)) p st)) := by kernel_rfl
theorem q73 (src tgt proto ident ttl off : Int) (p : List UInt8) (st : St) (d : Nat) (tn : Bool) : q0r lkD (q0q lkD true 30) (d + 6) tn (rF 325) [x0v src tgt proto ident ttl true true off, .bytes p] st = z30 src tgt proto ident ttl off (off.fdiv (8 : Int)) p (.need .true (.need .true (z7z src tgt proto ident ttl (off.fdiv (8 : Int) + (16384 : Int) + (8192 : Int)) p st))) := by kernel_rfl
theorem x23 {p : Prop} [Decidable p] (h : p) : (decide p == !false) = true := by refine rwm (decide_eq_true h) ?_; rfl
theorem noPy (x : Int) : (!(8 : Int) == (0 : Int) && !Builtin.divisionGoesByPylong x (8 : Int)) = true := by refine rwm (PyProof.noPylong_small (by decide)) ?_; rfl
theorem x1i (x : Int) : (!(16 : Int) == (0 : Int) && !Builtin.divisionGoesByPylong x (16 : Int)) = true := by refine rwm (PyProof.noPylong_small (by decide)) ?_; rfl
theorem fdiv8 (n : Nat) : (n : Int).fdiv (8 : Int) = ((n / 8 : Nat) : Int) := Int.fdiv_eq_ediv_of_nonneg _ (by decide)
theorem fmod8 (n : Nat) : (n : Int).fmod (8 : Int) = ((n % 8 : Nat) : Int) := Int.fmod_eq_emod_of_nonneg _ (by decide)
theorem q4b {a b : Nat} (h : a < b) : (decide ((a : Int) < (b : Int)) == !false) = true := x23 (Int.ofNat_lt.mpr h)
theorem nn (n : Nat) : decide ((0 : Int) <= (n : Int)) = true := decide_eq_true (Int.natCast_nonneg n)
theorem z7w {src tgt proto ident ttl off : Nat} {p : List UInt8} {r : Out V} {Q : V -> St -> Prop} {X : Exc} (h1 : src < 4294967296) (h2 : tgt < 4294967296) (h3 : proto < 256) (h4 : ident < 65536) (h5 : ttl < 256) (h6 : off / 8 < 8192) (h7 : off % 8 = 0) (hp : 20 + p.length <= 65535) (k : Sat r Q X) : Sat (z30 src tgt proto ident ttl off (off / 8 : Nat) p r) Q X := by
 have hM : decide (p.length <= 1000000) = true := decide_eq_true (Nat.le_trans (Nat.le_trans (Nat.le_add_left _ 20) hp) (by decide))
 have e8 : (((off : Int).fmod (8 : Int) != (0 : Int)) == false) = true := by (refine rwm (fmod8 _) ?_; refine rwm h7 ?_); rfl
 exact ⟨nn _, rfl, q4b (b := 4294967296) h1, nn _, rfl, q4b (b := 4294967296) h2, nn _, rfl, q4b (b := 256) h3, nn _, rfl, q4b (b := 256) h5, rfl, rfl, rfl, nn _, rfl, q4b (b := 65536) h4, rfl, e8, noPy _, nn (off / 8), rfl, q4b (a := off / 8) (b := 8192) h6, rfl, rfl, rfl, rfl, rfl, rfl, rfl, rfl, hM, rfl, q5y (Int.not_lt.mpr (Int.ofNat_le.mpr hp)), rfl, rfl, rfl, rfl, rfl, rfl, rfl, rfl, hM, rfl, nn (20 + 0 + p.length), nn _, rfl, noPy _, k⟩
theorem q3w {src tgt proto ident ttl fl : Nat} {p : List UInt8} {st : St} {Q : V -> St -> Prop} {X : Exc} (h3 : proto < 256) (h5 : ttl < 256) (hp : 20 + p.length <= 65535) (q : Q (.bytes ([69, 0] ++ (q0n (20 + p.length) ++ q0n ident ++ q0n fl) ++ [o8 ttl, o8 proto] ++ q0n (chk ([69, 0] ++ (q0n (20 + p.length) ++ q0n ident ++ q0n fl) ++ [o8 ttl, o8 proto] ++ q0n 0 ++ (q1y src ++ q1y tgt))) ++ (q1y src ++ q1y tgt) ++ p)) st) : Sat (z7z src tgt proto ident ttl fl p st) Q X := by
 have hM : decide (20 + p.length <= 1000000) = true := decide_eq_true (Nat.le_trans hp (by decide))
 have c5 := And.intro (Int.natCast_nonneg ttl) (Int.ofNat_lt.mpr h5)
 have c3 := And.intro (Int.natCast_nonneg proto) (Int.ofNat_lt.mpr h3)
 exact ⟨nn _, rfl, two_small c5 c3, nn _, nn _, rfl, rfl, rfl, rfl, rfl, rfl, rfl, rfl, rfl, rfl, nn _, rfl, rfl, hM, q⟩
theorem z05 {c : Cx} (B : Bs c) {h : HdrN} {p : List UInt8} (ho : h.Ok) (hp : 20 + p.length <= 65535) {d : Nat} {tn : Bool} {st : St} {Q : V -> St -> Prop} {X : Exc} (q : Q (.bytes (q3b h p)) st) : q0d c (d + 7) tn st (.prim (.ref 325)) [j01 h, .bytes p] Q X := by
 refine q0g (vc := true) (n := 30) (d := d + 6) B.lkD (B.fn rfl rfl) ?_
 obtain ⟨src, tgt, proto, ident, ttl, dont, more, off⟩ := h
 have A : ∀ {r : Out V}, Sat r Q noX -> Sat (z30 src tgt proto ident ttl off (off / 8 : Nat) p r) Q noX := z7w ho.src ho.tgt ho.proto ho.ident ho.ttl (Nat.div_lt_of_lt_mul ho.off) ho.step hp
 have e8 := fdiv8 off
 induction dont using Bool.casesOn with
 | false => induction more using Bool.casesOn with
   | false =>
     refine (q70 src tgt proto ident ttl off p st d tn).symm ▸ ?_
     refine rwm e8 ?_
     exact A (q3w (X := noX) (fl := off / 8) ho.proto ho.ttl hp q)
   | true =>
     refine (q72 src tgt proto ident ttl off p st d tn).symm ▸ ?_
     refine rwm e8 ?_
     exact A ⟨rfl, q3w (X := noX) (fl := off / 8 + 8192) ho.proto ho.ttl hp q⟩
 | true => cases more with
   | false =>
     refine (q71 src tgt proto ident ttl off p st d tn).symm ▸ ?_
     refine rwm e8 ?_
     exact A ⟨rfl, q3w (X := noX) (fl := off / 8 + 16384) ho.proto ho.ttl hp q⟩
   | true =>
     refine (q73 src tgt proto ident ttl off p st d tn).symm ▸ ?_
     refine rwm e8 ?_
     exact A ⟨rfl, rfl, q3w (X := noX) (fl := off / 8 + 16384 + 8192) ho.proto ho.ttl hp q⟩
noncomputable def unF (b : List UInt8) (r : Out V) : Out V := (.need (decide (b.length <= (1000000 : Nat))) (.need (decide ((↑b.length : Int) < (20 : Int)) == false) (.need (decide ((0 : Int) <= (0 : Int) /\ (0 : Int) < (↑b.length : Int) /\ b.length <= (1000000 : Nat))) (.need (!(16 : Int) == (0 : Int) && !Builtin.divisionGoesByPylong (↑(b.getD (0) 0).toNat : Int) (16 : Int)) (.need (((↑(b.getD (0) 0).toNat : Int).fdiv (16 : Int) != (4 : Int)) == false) (.need (decide ((0 : Int) <= (0 : Int) /\ (0 : Int) < (↑b.length : Int) /\ b.length <= (1000000 : Nat))) (.need .true (.need (decide (Builtin.Int.intBits ((↑(b.getD (0) 0).toNat : Int).fmod (16 : Int)) <= (64 : Nat))) (.need (decide ((↑(b.getD (0) 0).toNat : Int).fmod (16 : Int) * (4 : Int) < (20 : Int)) == false) (.need (decide (b.length <= (1000000 : Nat))) (.need (decide ((↑(b.getD (0) 0).toNat : Int).fmod (16 : Int) * (4 : Int) > (↑b.length : Int)) == false) (.need (decide ((0 : Int) <= (2 : Int) /\ 2 + (2 : Nat) <= b.length /\ b.length <= (1000000 : Nat))) (.need (decide ((↑(g16 b (2)) : Int) < (↑(b.getD (0) 0).toNat : Int).fmod (16 : Int) * (4 : Int)) == false) (.need (decide (b.length <= (1000000 : Nat))) (.need (decide ((↑(g16 b (2)) : Int) > (↑b.length : Int)) == false) (.need (decide (b.length <= (1000000 : Nat))) (.need (decide ((q0t b none (some ((↑(b.getD (0) 0).toNat : Int).fmod (16 : Int) * (4 : Int)))).length <= (65000 : Nat))) (.need (((↑(chk (q0t b none (some ((↑(b.getD (0) 0).toNat : Int).fmod (16 : Int) * (4 : Int))))) : Int) != (0 : Int)) == false) (.need (decide ((0 : Int) <= (6 : Int) /\ 6 + (2 : Nat) <= b.length /\ b.length <= (1000000 : Nat))) (.need (decide (b.length <= (1000000 : Nat))) (.need .true (.need (decide ((0 : Int) <= (12 : Int) /\ 12 + (4 : Nat) <= b.length /\ b.length <= (1000000 : Nat))) (.need (decide ((0 : Int) <= (16 : Int) /\ 16 + (4 : Nat) <= b.length /\ b.length <= (1000000 : Nat))) (.need (decide ((0 : Int) <= (9 : Int) /\ (9 : Int) < (↑b.length : Int) /\ b.length <= (1000000 : Nat))) (.need (decide ((0 : Int) <= (4 : Int) /\ 4 + (2 : Nat) <= b.length /\ b.length <= (1000000 : Nat))) (.need (decide ((0 : Int) <= (8 : Int) /\ (8 : Int) < (↑b.length : Int) /\ b.length <= (1000000 : Nat))) (.need (decide ((0 : Int) <= (1 : Int) /\ (1 : Int) < (↑b.length : Int) /\ b.length <= (1000000 : Nat))) (.need .true (.need .true (.need .true (.need (decide (Builtin.Int.intBits (Builtin.bitAnd (↑(g16 b (6)) : Int) (8191 : Int)) <= (64 : Nat))) (.need .true (.need (decide (b.length <= (1000000 : Nat))) (.need .true r))))))))))))))))))))))))))))))))))
noncomputable def hdrU (b : List UInt8) : V := (.ob 286 [("source", (.int ((↑(g32 b (12)) : Int)))), ("target", (.int ((↑(g32 b (16)) : Int)))), ("protocol", (.int ((↑(b.getD (9) 0).toNat : Int)))), ("ident", (.int ((↑(g16 b (4)) : Int)))), ("ttl", (.int ((↑(b.getD (8) 0).toNat : Int)))), ("tos", (.int ((↑(b.getD (1) 0).toNat : Int)))), ("dont", (.bool (Builtin.bitAnd (↑(g16 b (6)) : Int) (16384 : Int) != (0 : Int)))), ("more", (.bool (Builtin.bitAnd (↑(g16 b (6)) : Int) (8192 : Int) != (0 : Int)))), ("offset", (.int (Builtin.bitAnd (↑(g16 b (6)) : Int) (8191 : Int) * (8 : Int)))), ("options", (.bytes (q0t b (some (20 : Int)) (some ((↑(b.getD (0) 0).toNat : Int).fmod (16 : Int) * (4 : Int))))))])
theorem q6o (b : List UInt8) (st : St) (d : Nat) (tn : Bool) : q0r lkD (q0q lkD true 30) (d + 6) tn (rF 339) [.bytes b] st = unF b (.ok (.tup [(hdrU b), (.bytes (q0t b (some ((↑(b.getD (0) 0).toNat : Int).fmod (16 : Int) * (4 : Int))) (some (↑(g16 b (2)) : Int))))]) st.up) := by kernel_rfl
theorem j30 (n i : Nat) : ((n &&& 2 ^ i) != 0) = decide (n / 2 ^ i % 2 = 1) := by
 refine rwb Nat.testBit_eq_decide_div_mod_eq ?_
 refine q27 (n.testBit i) (fun h => ?_) fun h => ?_
 .
   rw [bne_iff_ne]
   intro e
   have : (n &&& 2 ^ i).testBit i = true := by (rewrite [Nat.testBit_and]; refine rwm h ?_; refine rwm Nat.testBit_two_pow_self ?_); rfl
   rw [e, Nat.zero_testBit] at this
   exact zft this
 .
   rw [bne_eq_false_iff_eq]
   refine Nat.eq_of_testBit_eq fun j => ?_
   (rewrite [Nat.testBit_and]; refine rwm (Nat.zero_testBit _) ?_; refine rwm Nat.testBit_two_pow ?_)
   by_cases e : i = j
   . subst e; (refine rwm h ?_; refine rwm (Bool.false_and _) ?_; rfl)
   . (refine rwm (decide_eq_false e) ?_; refine rwm (Bool.and_false _) ?_; rfl)
theorem z43 (n i : Nat) : (Builtin.bitAnd (n : Int) ((2 ^ i : Nat) : Int) != (0 : Int)) = decide (n / 2 ^ i % 2 = 1) := by
 (refine rwm (bAnd _ _) ?_; refine rwb (j30 _ _) ?_; rewrite [Bool.eq_iff_iff, bne_iff_ne, bne_iff_ne])
 exact not_congr Int.natCast_eq_zero
theorem q7u (h : HdrN) : h.flags = 8192 * (cond h.dont 2 0 + cond h.more 1 0) + h.off / 8 := by
 obtain ⟨src, tgt, proto, ident, ttl, dont, more, off⟩ := h
 induction dont using Bool.casesOn with
 | false => induction more using Bool.casesOn with
   | false => exact (Nat.zero_add _).symm
   | true => exact Nat.add_comm _ _
 | true => cases more with
   | false => exact (Nat.add_comm (off / 8) 16384 : off / 8 + 16384 = 8192 * 2 + off / 8)
   | true => exact (Nat.add_assoc _ _ _).trans (Nat.add_comm _ _)
theorem flags_facts {h : HdrN} (ho : h.Ok) : h.flags < 65536 /\ decide (h.flags / 16384 % 2 = 1) = h.dont /\ decide (h.flags / 8192 % 2 = 1) = h.more /\ h.flags % 8192 * 8 = h.off := by
 have hm : h.off / 8 < 8192 := Nat.div_lt_of_lt_mul ho.off
 have hk : cond h.dont 2 0 + cond h.more 1 0 <= 3 := by cases h.dont <;> cases h.more <;> decide
 have hd : h.flags / 8192 = cond h.dont 2 0 + cond h.more 1 0 := by
   (refine rwm (q7u _) ?_; refine rwm (Nat.mul_add_div (by decide) _ _) ?_; refine rwm (Nat.div_eq_of_lt hm) ?_; refine rwm (Nat.add_zero _) ?_; rfl)
 have hr : h.flags % 8192 = h.off / 8 := by (refine rwm (q7u _) ?_; rewrite [Nat.mul_add_mod]; refine rwm (Nat.mod_eq_of_lt hm) ?_; rfl)
 refine ⟨?_, ?_, ?_, ?_⟩
 . refine rwm (q7u _) ?_
   exact Nat.lt_of_lt_of_le (Nat.add_lt_add_left hm _) (Nat.le_trans (Nat.add_le_add_right (Nat.mul_le_mul_left 8192 hk) 8192) (by decide))
 . (refine rwm (show 16384 = 8192 * 2 from rfl) ?_; rewrite [<- Nat.div_div_eq_div_mul]; refine rwm hd ?_)
   cases h.dont <;> cases h.more <;> rfl
 . refine rwm hd ?_
   cases h.dont <;> cases h.more <;> rfl
 . refine rwm hr ?_
   exact Nat.div_mul_cancel (Nat.dvd_of_mod_eq_zero ho.step)
structure Unp (b : List UInt8) (h : HdrN) (p : List UInt8) : Prop where
 len : b.length = 20 + p.length
 g0 : (b.getD 0 0).toNat = 69
 g1 : (b.getD 1 0).toNat = 0
 g2 : g16 b 2 = 20 + p.length
 g4 : g16 b 4 = h.ident
 g6 : g16 b 6 = h.flags
 g8 : (b.getD 8 0).toNat = h.ttl
 g9 : (b.getD 9 0).toNat = h.proto
 g12 : g32 b 12 = h.src
 g16 : g32 b 16 = h.tgt
 k1 : q0t b none (some ((20 : Nat) : Int)) = h.head p.length
 k2 : q0t b (some (20 : Int)) (some ((20 : Nat) : Int)) = []
 k3 : q0t b (some ((20 : Nat) : Int)) (some ((20 + p.length : Nat) : Int)) = p
theorem q9w {h : HdrN} {p : List UInt8} (ho : h.Ok) (hp : 20 + p.length <= 65535) : Unp (q3b h p) h p where
 len := q1x h p
 g0 := rfl
 g1 := rfl
 g2 := q5c (Nat.lt_succ_of_le hp)
 g4 := q5c ho.ident
 g6 := q5c (flags_facts ho).1
 g8 := j1l ho.ttl
 g9 := j1l ho.proto
 g12 := q7c ho.src
 g16 := q7c ho.tgt
 k1 := (z2e (k := 20) (Nat.le_add_left 20 _)).trans rfl
 k2 := (q9i (a := 20) (b := 20) (Nat.le_add_left 20 _) (Nat.le_add_left 20 _)).trans rfl
 k3 := by
   have hl := q1x h p
   refine (q9i (a := 20) (hl ▸ Nat.le_add_right 20 _) (Nat.le_of_eq hl.symm)).trans ?_
   refine rwm (Nat.add_sub_cancel_left _ _) ?_
   exact List.take_length
theorem z69 : Builtin.Int.intBits (((69 : Nat) : Int).fmod (16 : Int)) <= 64 := by decide +kernel
theorem z93 (h : HdrN) (n : Nat) : chk (h.head n) = 0 := congrArg (65535 - ·) (z7x h n)
theorem z82 {b p : List UInt8} {h : HdrN} {r : Out V} {Q : V -> St -> Prop} {X : Exc} (U : Unp b h p) (ho : h.Ok) (hp : 20 + p.length <= 65535) (k : Sat r Q X) : Sat (unF b r) Q X := by
 have h20 : 20 <= b.length := U.len ▸ Nat.le_add_right 20 _
 have i20 : (20 : Int) <= (b.length : Int) := Int.ofNat_le.mpr h20
 have hN : b.length <= 1000000 := U.len ▸ Nat.le_trans hp (by decide)
 have hM := decide_eq_true hN
 have ix : ∀ {i : Int}, 0 <= i -> i < 20 -> decide (0 <= i /\ i < (b.length : Int) /\ b.length <= 1000000) = true := fun a c => decide_eq_true ⟨a, Int.lt_of_lt_of_le c i20, hN⟩
 have i0 := ix (i := 0) (by decide) (by decide)
 have nt : ∀ {i : Int} {n : Nat}, 0 <= i -> n <= 20 -> decide (0 <= i /\ n <= b.length /\ b.length <= 1000000) = true := fun a c => decide_eq_true ⟨a, Nat.le_trans c h20, hN⟩
 have c2 : ((g16 b 2 : Nat) : Int) = (b.length : Int) := congrArg Nat.cast (U.g2.trans U.len.symm)
 unfold unF
 (refine rwm U.g0 ?_; refine rwm c2 ?_; refine rwm U.g6 ?_)
 refine ⟨hM, q5y (Int.not_lt.mpr i20), i0, x1i _, rfl, i0, rfl, decide_eq_true z69, rfl, hM, q5y (Int.not_lt.mpr i20), nt (by decide) (by decide), q5y (Int.not_lt.mpr i20), hM, q5y (Int.lt_irrefl _), hM, ?_, ?_, nt (by decide) (by decide), hM, rfl, nt (by decide) (by decide), nt (by decide) (by decide), ix (by decide) (by decide), nt (by decide) (by decide), ix (by decide) (by decide), ix (by decide) (by decide), rfl, rfl, rfl, ?_, rfl, hM, rfl, k⟩
 . exact (congrArg (fun l : List UInt8 => decide (l.length <= 65000)) U.k1).trans rfl
 . refine (congrArg (fun l : List UInt8 => ((chk l : Int) != 0) == false) U.k1).trans ?_
   refine rwm (z93 _ _) ?_
   rfl
 . refine rwm (z4k _) ?_
   exact decide_eq_true (z44 _ (Nat.lt_of_le_of_lt (Nat.mod_le _ _) (Nat.lt_of_lt_of_le (flags_facts ho).1 (by decide))))
theorem z67 {b p : List UInt8} {h : HdrN} (U : Unp b h p) (ho : h.Ok) : hdrU b = j01 h := by
 refine e04 (flags_facts ho :) fun f0 f1 f2 f3 => ?_
 have b3 : Builtin.bitAnd (h.flags : Int) (8191 : Int) * (8 : Int) = (h.off : Int) := by refine rwm (z4k _) ?_; exact congrArg Nat.cast f3
 have b1 : (Builtin.bitAnd (h.flags : Int) (16384 : Int) != (0 : Int)) = h.dont := (z43 h.flags 14).trans f1
 have b2 : (Builtin.bitAnd (h.flags : Int) (8192 : Int) != (0 : Int)) = h.more := (z43 h.flags 13).trans f2
 unfold hdrU
 rw [U.g12, U.g16, U.g9, U.g4, U.g8, U.g1, U.g6, U.g0, b1, b2, b3, show q0t b (some (20 : Int)) (some (((69 : Nat) : Int).fmod (16 : Int) * (4 : Int))) = [] from U.k2]
 rfl
theorem q8c {c : Cx} (B : Bs c) {h : HdrN} {p : List UInt8} (ho : h.Ok) (hp : 20 + p.length <= 65535) {d : Nat} {tn : Bool} {st : St} {Q : V -> St -> Prop} {X : Exc} (q : Q (.tup [j01 h, .bytes p]) st.up) : q0d c (d + 7) tn st (.prim (.ref 339)) [.bytes (q3b h p)] Q X := by
 refine q0g (vc := true) (n := 30) (d := d + 6) B.lkD (B.fn rfl rfl) ?_
 have U := q9w ho hp
 rw [q6o]
 refine z82 U ho hp ?_
 (refine rwm (z67 U ho) ?_; refine rwm U.g0 ?_; refine rwm U.g2 ?_)
 show Q (.tup [j01 h, .bytes (q0t (q3b h p) (some ((20 : Nat) : Int)) (some ((20 + p.length : Nat) : Int)))]) _
 refine rwm U.k3 ?_
 exact q
theorem z11 {fs : List (Str × V)} {h : Hdr} (e : j57 fs = some h) : fs = z63 h := by
 refine hid fun hG => ?_
 obtain ⟨⟨⟨n1, v1⟩, n2, v2⟩, h1, e⟩ := obi e
 obtain ⟨d, h2, e⟩ := obi e
 obtain ⟨m, h3, e⟩ := obi e
 obtain ⟨hc, e⟩ := q0c e
 refine hG ?_
 rw [Bool.and_eq_true, Bool.and_eq_true, Bool.and_eq_true] at hc
 refine rwb (oi e) ?_
 have t1 := sameFs_ok _ _ hc.1.1
 have t2 := sameFs_ok _ _ hc.2
 have t3 : (fs.drop 6).take 2 = [(Str.ofString "dont", .bool d), (Str.ofString "more", .bool m)] := by
   (refine rwm (two_is h1) ?_; refine rwm (show n1 = _ from q3m hc.1.2.1) ?_; refine rwm (show n2 = _ from q3m hc.1.2.2) ?_; refine rwm (show v1 = _ from q48 h2) ?_; refine rwm (show v2 = _ from q48 h3) ?_; rfl)
 have t4 : fs = fs.take 6 ++ ((fs.drop 6).take 2 ++ fs.drop 8) := by
   (refine rwm (show fs.drop 8 = (fs.drop 6).drop 2 by rw [List.drop_drop]) ?_; refine rwm (List.take_append_drop _ _) ?_; refine rwm (List.take_append_drop _ _) ?_; rfl)
 refine t4.trans ?_
 (refine rwm t1 ?_; refine rwm t2 ?_; refine rwm t3 ?_)
 rfl
theorem z9a : ∀ {fs : List (Str × V)} {ns : List Str}, fs.map (·.1) = ns -> fs = ns.zip (fs.map (·.2)) := by
 intro fs
 induction fs with
 | nil => intro _ h; exact h ▸ rfl
 | cons p fs ih =>
   intro _ h
   refine rwb h ?_
   exact congrArg (p :: ·) (ih rfl)
theorem z15 {fs : List (Str × V)} {m : Msg} (e : j6n fs = some m) : V.ob 187 fs = msgV m.k m.c m.z m.p := by
 obtain ⟨h1, e⟩ := q0c e
 refine rwm (z9a (z0i h1)) ?_
 induction fs using List.casesOn with
 | nil => exact ns e
 | cons a l =>
   refine hid fun hG => ?_
   refine e12 (obi e :) fun q h2 e => ?_
   refine e12 (obi e :) fun k h3 e => ?_
   refine e12 (obi e :) fun c h4 e => ?_
   refine e12 (obi e :) fun z h5 e => ?_
   refine hG ?_
   (refine e12 (omi e :) fun p h6 r => ?_; refine rwb r ?_)
   refine rwm (q30 h2) ?_
   show V.ob 187 [(_, a.2), (_, q.1.2), (_, q.2.1.2), (_, q.2.2.2)] = _
   (refine rwm (q0p h3) ?_; refine rwm (q0p h4) ?_; refine rwm (z1g h5) ?_; refine rwm (q7a h6) ?_)
   rfl
theorem q9z {g : Gh} {lo hi : Int} {z : Z} {i : Int} (h : zIn lo hi z = true) (r : ZR g z i) : lo <= i /\ i <= hi := by
 induction z using Z.casesOn with
 | c j =>
   cases r
   exact of_decide_eq_true h
 | s n k d =>
   obtain ⟨j, _, rfl, hd⟩ := r
   change j95 lo hi k d = true at h
   induction d using Dm.casesOn with
   | set l => exact of_decide_eq_true (aet h j hd)
   | rng a b =>
     have := of_decide_eq_true h
     exact ⟨Int.le_trans this.1 (Int.add_le_add_right hd.1 k), Int.le_trans (Int.add_le_add_right hd.2 k) this.2⟩
section
variable {c : Cx} {g : Gh}
theorem DR.consI {x : Str} {v : V} {fs : List (Str × V)} {es : List DictEntry} (h : DR c g ((x, v) :: fs) es) : ∃ t y es', es = ⟨PyData.keyHash c.w.params x, .str x t, y⟩ :: es' /\ VR c g v y /\ DR c g fs es' := by cases h with | cons h r => exact ⟨_, _, _, rfl, h, r⟩
theorem DR.map1 {g0 : Gh} {x : Str} {v v' : V} {fs fs' : List (Str × V)} (hv : ∀ y, VR c g v y -> VR c g0 v' y) (hf : ∀ es, DR c g fs es -> DR c g0 fs' es) : ∀ es, DR c g ((x, v) :: fs) es -> DR c g0 ((x, v') :: fs') es := fun es d => by
 cases d with | cons r d => exact .cons (hv _ r) (hf _ d)
theorem DR.map0 {g0 : Gh} : ∀ es, DR c g [] es -> DR c g0 [] es := fun es d => by cases d; exact .nil
theorem Has.to {g0 : Gh} {a : Addr} {o : Obj} (hk : g0.kn = g.kn) (h : Has c g a o) : Has c g0 a o := by
 unfold Has
 refine rwm hk ?_
 exact h
theorem VR.obMap {g0 : Gh} {C : Addr} {fs fs' : List (Str × V)} {x : Value} (hf : ∀ es, DR c g fs es -> DR c g0 fs' es) (r : VR c g (.ob C fs) x) (hk : g0.kn = g.kn := by rfl) : VR c g0 (.ob C fs') x := by
 (refine e44 r.obI fun a d es k r => ?_; refine rwm r ?_; intro h1 h2 D)
 exact .ob (h1.to hk) (h2.to hk) (hf _ D)
theorem DR.get {x : Str} {v : V} : ∀ {fs : List (Str × V)} {es : List DictEntry}, DR c g fs es -> (x, v) ∈ fs -> ∃ y, VR c g v y := by
 intro fs
 induction fs with
 | nil => intro _ _ m; exact nomatch m
 | cons p fs ih =>
   intro _ D m
   (refine e33 D.consI fun t y es' r => ?_; refine rwm r ?_; intro h r)
   rcases mc m with rfl | m
   . exact ⟨y, h⟩
   . exact ih r m
theorem VR.obGet {C : Addr} {fs : List (Str × V)} {x : Value} (r : VR c g (.ob C fs) x) {n : Str} {v : V} (m : (n, v) ∈ fs) : ∃ y, VR c g v y := by
 (refine e44 r.obI fun a d es k r => ?_; refine rwm r ?_; intro h1 h2 D)
 exact D.get m
theorem VR.obZ {C : Addr} {fs : List (Str × V)} {x : Value} (r : VR c g (.ob C fs) x) {n : Str} {z : Z} (m : (n, z.toV) ∈ fs) : ∃ i, ZR g z i := by
 refine hid fun hG => ?_
 obtain ⟨y, r⟩ := r.obGet m
 obtain ⟨i, t, _, h⟩ := r.zI
 refine hG ?_
 exact ⟨i, h⟩
theorem j3v {i : Int} {t : Tok} (h : 0 <= i) : VR c g (.int (i.toNat : Nat)) (.int i t) := by
 refine rwm (Int.toNat_of_nonneg h) ?_; exact .int _ _
theorem j20 {z : Z} {i : Int} (h : 0 <= i) (hz : ZR g z i) (y : Value) (r : VR c g z.toV y) : VR c g (.int (i.toNat : Nat)) y := by
 (refine e22 r.zI fun j t r => ?_; refine rwm r ?_; intro hj)
 refine rwm (hj.det hz) ?_
 exact j3v h
theorem x25 {z : Z} {i : Int} (hz : ZR g z i) (y : Value) (r : VR c g (.int i) y) : VR c g z.toV y := by
 refine e11 r.intI fun t r => rwm r ?_
 exact hz.vr _
theorem x0x {i : Int} (h : 0 <= i) (y : Value) (r : VR c g (.int i) y) : VR c g (.int (i.toNat : Nat)) y := by
 refine e11 r.intI fun t r => rwm r ?_
 exact j3v h
theorem z2t {v v' : V} (h : v = v') (y : Value) (r : VR c g v y) : VR c g v' y := h ▸ r
theorem j21 {z : Z} {i : Int} (h : 0 <= i) (hz : ZR g z i) : ZR g z (i.toNat : Nat) := by refine rwm (Int.toNat_of_nonneg h) ?_; exact hz
theorem q63 {i m : Int} {n : Nat} (h0 : 0 <= i) (h : i <= m) (hn : m < n) : i.toNat < n := Int.ofNat_lt.mp (Int.lt_of_le_of_lt (Int.le_trans (Int.le_of_eq (Int.toNat_of_nonneg h0)) h) hn)
theorem j59 {h : Hdr} {x : Value} (r : VR c g (j58 h) x) (ok : z66 h = true) : ∃ H, HR g h H /\ H.Ok /\ VR c g (j01 H) x := by
 unfold z66 at ok
 rw [Bool.and_eq_true, Bool.and_eq_true, Bool.and_eq_true, Bool.and_eq_true, Bool.and_eq_true] at ok
 refine hid fun hG => ?_
 obtain ⟨⟨⟨⟨⟨o1, o2⟩, o3⟩, o4⟩, o5⟩, o6⟩ := ok
 have o3 := of_decide_eq_true o3
 have o6 := of_decide_eq_true o6
 obtain ⟨i1, z1⟩ := r.obZ (n := Str.ofString "source") (z := h.src) (.head _)
 obtain ⟨i2, z2⟩ := r.obZ (n := Str.ofString "target") (z := h.tgt) (.tail _ (.head _))
 obtain ⟨i4, z4⟩ := r.obZ (n := Str.ofString "ident") (z := h.ident) (.tail _ (.tail _ (.tail _ (.head _))))
 obtain ⟨i5, z5⟩ := r.obZ (n := Str.ofString "ttl") (z := h.ttl) (.tail _ (.tail _ (.tail _ (.tail _ (.head _)))))
 refine hG ?_
 have b1 := q9z o1 z1
 have b2 := q9z o2 z2
 have b4 := q9z o4 z4
 have b5 := q9z o5 z5
 exact ⟨⟨i1.toNat, i2.toNat, h.proto.toNat, i4.toNat, i5.toNat, h.dont, h.more, h.off.toNat⟩, ⟨j21 b1.1 z1, j21 b2.1 z2, (Int.toNat_of_nonneg o3.1).symm, j21 b4.1 z4, j21 b5.1 z5, rfl, rfl, (Int.toNat_of_nonneg o6.1).symm⟩,
   ⟨q63 b1.1 b1.2 (by decide), q63 b2.1 b2.2 (by decide), q63 o3.1 (Int.le_sub_one_of_lt o3.2) (by decide), q63 b4.1 b4.2 (by decide), q63 b5.1 b5.2 (by decide), q63 o6.1 (Int.le_sub_one_of_lt o6.2.1) (by decide), by have := o6.1; have := o6.2.2; show h.off.toNat % 8 = 0; omega⟩,
   r.obMap (DR.map1 (j20 b1.1 z1) (DR.map1 (j20 b2.1 z2) (DR.map1 (x0x o3.1) (DR.map1 (j20 b4.1 z4) (DR.map1 (j20 b5.1 z5) (DR.map1 (z2t rfl) (DR.map1 (z2t rfl) (DR.map1 (z2t rfl) (DR.map1 (x0x o6.1) (DR.map1 (z2t rfl) DR.map0))))))))))⟩
theorem x0w {h : Hdr} {H : HdrN} {x : Value} (e : HR g h H) (r : VR c g (j01 H) x) : VR c g (j58 h) x :=
 r.obMap (DR.map1 (x25 e.src) (DR.map1 (x25 e.tgt) (DR.map1 (z2t (congrArg V.int e.proto.symm)) (DR.map1 (x25 e.ident) (DR.map1 (x25 e.ttl) (DR.map1 (z2t rfl) (DR.map1 (z2t (congrArg V.bool e.dont.symm)) (DR.map1 (z2t (congrArg V.bool e.more.symm)) (DR.map1 (z2t (congrArg V.int e.off.symm)) (DR.map1 (z2t rfl) DR.map0))))))))))
theorem x15 {p : SB} {l : List UInt8} (h : SBR g p l) (y : Value) (r : VR c g (.sb p) y) : VR c g (.bytes l) y := by
 (refine e22 r.sbI fun l' t r => ?_; refine rwm r ?_; intro h')
 refine rwm (h'.det h) ?_
 exact .bytes _ _
theorem x16 {p : SB} {l : List UInt8} (h : SBR g p l) (y : Value) (r : VR c g (.bytes l) y) : VR c g (.sb p) y := by
 refine e11 r.bytesI fun t r => rwm r ?_
 exact .sb _ h
theorem x26 {z : Z} {i : Int} (hz : ZR g z i) (y : Value) (r : VR c g z.toV y) : VR c g (.int i) y := by
 (refine e22 r.zI fun j t r => ?_; refine rwm r ?_; intro hj)
 refine rwm (hj.det hz) ?_
 exact .int _ _
theorem msg_low {k cc : Int} {z : Z} {p : SB} {x : Value} (r : VR c g (msgV k cc z p) x) : ∃ i l, ZR g z i /\ SBR g p l /\ VR c g (j1i k cc i l) x := by
 refine hid fun hG => ?_
 obtain ⟨i, hz⟩ := r.obZ (n := Str.ofString "rest") (z := z) (.tail _ (.tail _ (.head _)))
 obtain ⟨y, ry⟩ := r.obGet (n := Str.ofString "payload") (v := .sb p) (.tail _ (.tail _ (.tail _ (.head _))))
 obtain ⟨l, t, _, hp⟩ := ry.sbI
 refine hG ?_
 exact ⟨i, l, hz, hp, r.obMap (DR.map1 (z2t rfl) (DR.map1 (z2t rfl) (DR.map1 (x26 hz) (DR.map1 (x15 hp) DR.map0))))⟩
theorem x1f {k cc i : Int} {z : Z} {p : SB} {l : List UInt8} {x : Value} (hz : ZR g z i) (hp : SBR g p l) (r : VR c g (j1i k cc i l) x) : VR c g (msgV k cc z p) x :=
 r.obMap (DR.map1 (z2t rfl) (DR.map1 (z2t rfl) (DR.map1 (x25 hz) (DR.map1 (x16 hp) DR.map0))))
end
noncomputable def j24 (k : Int) (n : Nat) (p : Int) (z : Nat) (r : Out V) : Out V := .need (([(3 : Int), (4 : Int), (5 : Int), (11 : Int), (12 : Int)].any fun x => x == k) == !false) (.need (decide (n <= (1000000 : Nat))) (.need (decide ((n : Int) < (20 : Int)) == false) (.need (decide ((0 : Int) <= (2 : Int) /\ 2 + (2 : Nat) <= n /\ n <= (1000000 : Nat))) (.need (decide (n <= (1000000 : Nat))) (.need .true (.need .true (.need (decide (((0 : Int) <= p) /\ p <= (1000000 : Int))) (.need (decide (n + z <= (1000000 : Nat))) r))))))))
theorem z2x {k : Int} {n : Nat} {p : Int} {z : Nat} {r : Out V} {Q : V -> St -> Prop} {X : Exc} (hk : (([(3 : Int), (4 : Int), (5 : Int), (11 : Int), (12 : Int)].any fun x => x == k) == !false) = true) (hM : decide (n <= 1000000) = true) (h20 : 20 <= n) (hp : 0 <= p /\ p <= 1000000) (hz : n + z <= 1000000) (K : Sat r Q X) : Sat (j24 k n p z r) Q X :=
 ⟨hk, hM, q5y (Int.not_lt.mpr (Int.ofNat_le.mpr h20)), decide_eq_true ⟨by decide, Nat.le_trans (by decide) h20, of_decide_eq_true hM⟩, hM, rfl, rfl, decide_eq_true hp, decide_eq_true hz, K⟩
noncomputable def x11 (n : Nat) (o : List UInt8) : Int := if (n : Int) - ((20 : Int) + (o.length : Int)) > (0 : Int) then (n : Int) - ((20 : Int) + (o.length : Int)) else (0 : Int)
noncomputable def j84 (n : Nat) (o l : List UInt8) (v : V) (st : St) : Out V := .need (decide (n <= (1000000 : Nat))) (.need (decide (o.length <= (1000000 : Nat))) (.need .true (.need .true (.need .true (.need (decide (l.length <= (1000000 : Nat))) (.ok (.tup [v, .bytes (q0t l none (some (x11 n o)))]) st))))))
noncomputable def x1u (b : List UInt8) : Int := (if (↑(g16 b (2)) : Int) - (↑b.length : Int) > (0 : Int) then (↑(g16 b (2)) : Int) - (↑b.length : Int) else (0 : Int))
noncomputable def j1t (b : List UInt8) : List UInt8 := b ++ List.replicate (x1u b).toNat (0 : UInt8)
theorem z2y (k c r : Int) (b : List UInt8) (st : St) (d : Nat) (tn : Bool) : q0r lkD (q0q lkD true 40) (d + 7) tn (rF 382) [j1i k c r b] st = j24 k b.length (x1u b) (List.replicate (x1u b).toNat (0 : UInt8)).length (unF (j1t b) (j84 b.length (q0t (j1t b) (some (20 : Int)) (some ((((j1t b).getD (0) 0).toNat : Int).fmod (16 : Int) * (4 : Int)))) (q0t (j1t b) (some ((((j1t b).getD (0) 0).toNat : Int).fmod (16 : Int) * (4 : Int))) (some (g16 (j1t b) (2) : Nat))) (hdrU (j1t b)) st.up)) := by kernel_rfl
theorem j3q {a b : Nat} (h : b <= a) : (if (a : Int) - (b : Int) > 0 then (a : Int) - (b : Int) else 0) = ((a - b : Nat) : Int) := by
 rw [<- Int.ofNat_sub h]
 exact q3q (C := (· = ((a - b : Nat) : Int))) (fun W0 => rfl) fun h => (Int.le_antisymm (Int.not_lt.mp h) (Int.natCast_nonneg _)).symm
theorem q8l {c : Cx} (B : Bs c) {k cc r : Int} {h : HdrN} {l s : List UInt8} (hk : z7a k = true) (ho : h.Ok) (hp : 20 + l.length <= 65535) (hs : s.length <= l.length) {d : Nat} {tn : Bool} {st : St} {Q : V -> St -> Prop} {X : Exc} (q : Q (.tup [j01 h, .bytes s]) st.up) : q0d c (d + 8) tn st (.prim (.ref 382)) [j1i k cc r (h.head l.length ++ s)] Q X := by
 refine q0g (vc := true) (n := 40) (d := d + 7) B.lkD (B.fn rfl rfl) ?_
 have hk' : (([(3 : Int), (4 : Int), (5 : Int), (11 : Int), (12 : Int)].any fun x => x == k) == !false) = true := by
   unfold z7a at hk
   simp only [Bool.or_eq_true, beq_iff_eq] at hk
   rcases hk with (((rfl | rfl) | rfl) | rfl) | rfl <;> rfl
 have hb : (h.head l.length ++ s).length = 20 + s.length := List.length_append
 have eP : x1u (h.head l.length ++ s) = ((l.length - s.length : Nat) : Int) := by
   have gb : g16 (h.head l.length ++ s) 2 = 20 + l.length := q5c (Nat.lt_succ_of_le hp)
   unfold x1u
   rw [gb, hb, j3q (Nat.add_le_add_left hs 20), Nat.add_sub_add_left]
 have hz : s.length + (l.length - s.length) = l.length := Nat.add_sub_cancel' hs
 have hq : (s ++ List.replicate (l.length - s.length) (0 : UInt8)).length = l.length := by (refine rwm List.length_append ?_; refine rwm List.length_replicate ?_; refine rwm hz ?_; rfl)
 have eX : j1t (h.head l.length ++ s) = q3b h (s ++ List.replicate (l.length - s.length) (0 : UInt8)) := by
   unfold j1t q3b
   (refine rwm eP ?_; refine rwm (Int.toNat_natCast _) ?_; rewrite [List.append_assoc]; refine rwm hq ?_; rfl)
 have hp2 : 20 + (s ++ List.replicate (l.length - s.length) (0 : UInt8)).length <= 65535 := hq.symm ▸ hp
 have U := q9w ho hp2
 have hn : 20 + s.length <= 65535 := Nat.le_trans (Nat.add_le_add_left hs 20) hp
 have hM := decide_eq_true (Nat.le_trans hn (show 65535 <= 1000000 by decide))
 have d1 : l.length - s.length <= 1000000 := Nat.le_trans (Nat.sub_le _ _) (Nat.le_trans (Nat.le_trans (Nat.le_add_left _ 20) hp) (by decide))
 (rewrite [z2y]; refine rwm eX ?_; refine rwm eP ?_; refine rwm hb ?_; refine rwm (z67 U ho) ?_; refine rwm U.g0 ?_; refine rwm U.g2 ?_; refine rwm (Int.toNat_natCast _) ?_; refine rwm List.length_replicate ?_)
 refine z2x hk' hM (Nat.le_add_right 20 _) ⟨Int.natCast_nonneg _, Int.ofNat_le.mpr d1⟩ (by (rewrite [Nat.add_assoc]; refine rwm hz ?_); exact Nat.le_trans hp (by decide)) (z82 U ho hp2 ?_)
 (refine rwm (show q0t (q3b h (s ++ List.replicate (l.length - s.length) (0 : UInt8))) (some (20 : Int)) (some (((69 : Nat) : Int).fmod (16 : Int) * (4 : Int))) = [] from U.k2) ?_; refine rwm (show q0t (q3b h (s ++ List.replicate (l.length - s.length) (0 : UInt8))) (some (((69 : Nat) : Int).fmod (16 : Int) * (4 : Int))) (some ((20 + (s ++ List.replicate (l.length - s.length) (0 : UInt8)).length : Nat) : Int)) = _ from U.k3) ?_)
 refine ⟨hM, rfl, rfl, rfl, rfl, decide_eq_true (by refine rwm hq ?_; exact Nat.le_trans (Nat.le_trans (Nat.le_add_left _ 20) hp) (by decide)), ?_⟩
 have eR : x11 (20 + s.length) [] = (s.length : Nat) := by
   refine (j3q (a := 20 + s.length) (b := 20) (Nat.le_add_right 20 _)).trans ?_
   rw [Nat.add_sub_cancel_left]
 (refine rwm eR ?_; refine rwm (z2e (hq.symm ▸ hs)) ?_; refine rwm (List.take_left' rfl) ?_)
 exact q
theorem SBR.ipI {g : Gh} {h : Hdr} {p : SB} {b : List UInt8} (s : SBR g (.ip h p) b) : ∃ H l, b = q3b H l /\ HR g h H /\ H.Ok /\ SBR g p l /\ 20 + l.length <= 65535 := by
 cases s with
 | ip h1 h2 h3 h4 => exact ⟨_, _, rfl, h1, h2, h3, h4⟩
theorem SBR.icmpI {g : Gh} {k cc : Int} {z : Z} {p : SB} {b : List UInt8} (s : SBR g (.icmp k cc z p) b) : ∃ r l, b = q09 k cc r l /\ ZR g z r /\ (0 <= r /\ r < 4294967296) /\ (0 <= k /\ k < 256) /\ (0 <= cc /\ cc < 256) /\ SBR g p l /\ l.length <= 60000 := by
 cases s with
 | icmp h1 h2 h3 h4 h5 h6 h7 h8 h9 => exact ⟨_, _, rfl, h1, ⟨h2, h3⟩, ⟨h4, h5⟩, ⟨h6, h7⟩, h8, h9⟩
theorem q65 {c : Cx} (B : Bs c) : q01 c 325 (.orc (room 7 q54)) := q11 fun d tn vs st v st' Q X e q => by
 refine hid fun hG => ?_
 refine ep2 (obi e :) fun a b e1 e => ?_
 obtain ⟨⟨C, fs⟩, e2, e⟩ := obi e
 refine e12 (obi e :) fun p e3 e => ?_
 refine e12 (obi e :) fun h e4 e => ?_
 obtain ⟨hc, e⟩ := q0c e
 refine hG ?_
 obtain ⟨rfl, rfl⟩ := Prod.mk.inj (oi e)
 rw [Bool.and_eq_true, Bool.and_eq_true] at hc
 obtain ⟨⟨h1, h2⟩, h3⟩ := hc
 have hl := Nat.le_of_ble_eq_true h3
 (refine rwm (two_is e1) ?_; refine rwm (q9x e2) ?_; refine rwm (q7a e3) ?_; refine rwm (show C = 286 from Nat.eq_of_beq_eq_true h1) ?_; refine rwm (z11 e4) ?_)
 refine q0d.conv fun g xs R => ?_
 (refine e23 R.twoI fun x y r => ?_; refine rwm r ?_; intro r1 r2)
 refine e13 (j59 (h := h) r1 h2 :) fun H hr ho r1' => ?_
 (refine e22 r2.sbI fun l t r => ?_; refine rwm r ?_; intro s1)
 have len : 20 + l.length <= 65535 := by refine rwm s1.length ?_; exact hl
 exact ⟨[j01 H, .bytes l], .cons r1' (.cons (.bytes _ _) .nil), z05 B ho len fun g' r le vr => by
   obtain ⟨t', rfl⟩ := vr.bytesI
   exact ⟨_, .sb _ (.ip (hr.mono le) ho (s1.mono le) len), q⟩⟩
theorem z81 {c : Cx} {g : Gh} {h : Hdr} {H : HdrN} {p : SB} {l : List UInt8} (hr : HR g h H) (sp : SBR g p l) {x : Value} (vr : VR c g (.tup [j01 H, .bytes l]) x) : VR c g (.tup [j58 h, .sb p]) x := by
 (refine e33 vr.tupI fun a its k r => ?_; refine rwm r ?_; intro h1 h2)
 (refine e23 h2.twoI fun x y r => ?_; subst r; intro r1 r2)
 exact .tup h1 (.cons (x0w hr r1) (.cons (x16 sp _ r2) .nil))
theorem q9m {c : Cx} (B : Bs c) : q01 c 339 (.orc (room 7 q55)) := q11 fun d tn vs st v st' Q X e q => by
 refine e12 (obi e :) fun w e1 e => ?_
 refine e12 (obi e :) fun b e2 e => ?_
 refine ep2 (omi e :) fun h p e3 e => ?_
 obtain ⟨rfl, rfl⟩ := Prod.mk.inj e
 (refine rwm (q0y e1) ?_; refine rwm (q7a e2) ?_; refine rwm (z1b e3) ?_)
 refine q0d.conv fun g xs R => ?_
 (refine e12 R.oneI fun y r => ?_; refine rwm r ?_; intro r)
 (refine e22 r.sbI fun b t r => ?_; refine rwm r ?_; intro s)
 (refine e25 s.ipI fun H l r => ?_; subst r; intro hr ho sp len)
 exact ⟨[.bytes (q3b H l)], .cons (.bytes _ _) .nil, q8c B ho len fun g' r le vr => ⟨_, z81 (hr.mono le) (sp.mono le) vr, q⟩⟩
theorem q4h {c : Cx} (B : Bs c) : q01 c 212 (.orc (room 7 q2n)) := q11 fun d tn vs st v st' Q X e q => by
 refine hid fun hG => ?_
 refine e12 (obi e :) fun w e1 e => ?_
 obtain ⟨⟨C, fs⟩, e2, e⟩ := obi e
 refine e12 (obi e :) fun m e3 e => ?_
 obtain ⟨hc, e⟩ := q0c e
 refine hG ?_
 obtain ⟨rfl, rfl⟩ := Prod.mk.inj (oi e)
 rw [Bool.and_eq_true, Bool.and_eq_true, Bool.and_eq_true, Bool.and_eq_true] at hc
 obtain ⟨⟨⟨⟨h1, h2⟩, h3⟩, h4⟩, h5⟩ := hc
 have h2 := of_decide_eq_true h2
 have h3 := of_decide_eq_true h3
 have h5 := Nat.le_of_ble_eq_true h5
 (refine rwm (q0y e1) ?_; refine rwm (q9x e2) ?_; refine rwm (show C = 187 from Nat.eq_of_beq_eq_true h1) ?_; refine rwm (z15 e3) ?_)
 refine q0d.conv fun g xs R => ?_
 (refine e12 R.oneI fun x r => ?_; refine rwm r ?_; intro r1)
 refine e23 (msg_low r1 :) fun i l hz hp r1' => ?_
 have bz := q9z h4 hz
 have bz : 0 <= i /\ i < 4294967296 := ⟨bz.1, Int.lt_of_le_of_lt bz.2 (by decide)⟩
 have len : l.length <= 60000 := by refine rwm hp.length ?_; exact h5
 exact ⟨[j1i m.k m.c i l], .cons r1' .nil, q7z B h2 h3 bz len fun g' r le vr => by
   obtain ⟨t', rfl⟩ := vr.bytesI
   exact ⟨_, .sb _ (.icmp (hz.mono le) bz.1 bz.2 h2.1 h2.2 h3.1 h3.2 (hp.mono le) len), q⟩⟩
theorem q6l {c : Cx} (B : Bs c) : q01 c 219 (.orc (room 7 q3d)) := q11 fun d tn vs st v st' Q X e q => by
 refine hid fun hG => ?_
 refine e12 (obi e :) fun w e1 e => ?_
 refine e12 (obi e :) fun b e2 e => ?_
 refine e12 (omi e :) fun m e3 e => ?_
 refine hG ?_
 obtain ⟨rfl, rfl⟩ := Prod.mk.inj e
 (refine rwm (q0y e1) ?_; refine rwm (q7a e2) ?_; refine rwm (z8m e3) ?_)
 refine q0d.conv fun g xs R => ?_
 (refine e12 R.oneI fun y r => ?_; refine rwm r ?_; intro r)
 (refine e22 r.sbI fun b t r => ?_; refine rwm r ?_; intro s)
 (refine e27 s.icmpI fun rr l r => ?_; refine rwm r ?_; intro hz h1 h2 h3 hp len)
 exact ⟨[.bytes (q09 m.k m.c rr l)], .cons (.bytes _ _) .nil, q6a B h2 h3 h1 len fun g' y le vr => ⟨_, x1f (hz.mono le) (hp.mono le) vr, q⟩⟩
theorem z96 {H : HdrN} {l : List UInt8} {n : Nat} (hn : 20 <= n) : ((q3b H l).drop 0).take n = H.head l.length ++ l.take (n - 20) := by
 refine rwm List.drop_zero ?_
 unfold q3b
 (refine rwm List.take_append ?_; refine rwm (List.take_of_length_le (by refine rwm (q29 _ _) ?_; exact hn)) ?_; refine rwm (q29 _ _) ?_; rfl)
theorem z8c {c : Cx} (B : Bs c) : q01 c 382 (.orc (room 8 z8b)) := q11 fun d tn vs st v st' Q X e q => by
 refine hid fun hG => ?_
 refine e12 (obi e :) fun w e1 e => ?_
 obtain ⟨⟨C, fs⟩, e2, e⟩ := obi e
 obtain ⟨⟨k, cc, z, mp⟩, e3, e⟩ := obi e
 obtain ⟨hc, e⟩ := q0c e
 refine hG ?_
 rw [Bool.and_eq_true] at hc
 (refine rwm (q0y e1) ?_; refine rwm (q9x e2) ?_; refine rwm (show C = 187 from Nat.eq_of_beq_eq_true hc.1) ?_; refine rwm (z15 e3) ?_)
 clear e1 e2 e3
 have hk := hc.2
 clear hc
 dsimp only at e hk ⊢
 refine z3w (x14 mp) (fun r h0 => ?_) fun h0 => ?_
 .
   rw [h0] at e
   obtain ⟨h, p⟩ := r
   obtain ⟨rfl, rfl⟩ := Prod.mk.inj (oi e)
   refine rwm (z1b h0) ?_
   refine q0d.conv fun g xs R => ?_
   (refine e12 R.oneI fun x r => ?_; subst r; intro r1)
   refine e23 (msg_low r1 :) fun i b hz hp r1' => ?_
   (refine e25 hp.ipI fun H l r => ?_; subst r; intro hr ho sp len)
   exact ⟨[j1i k cc i (H.head l.length ++ l)], .cons r1' .nil, q8l B hk ho len (Nat.le_refl _) fun g' y le vr => ⟨_, z81 (hr.mono le) (sp.mono le) vr, q⟩⟩
 .
   rw [h0] at e
   refine hid fun hG => ?_
   obtain ⟨⟨x, lo, n⟩, h1, e⟩ := obi e
   refine ep2 (obi e :) fun h p h2 e => ?_
   obtain ⟨hn, e⟩ := q0c e
   refine hG ?_
   rw [Bool.and_eq_true] at hn
   obtain ⟨rfl, rfl⟩ := Prod.mk.inj (oi e)
   have hn2 : 20 <= n := Nat.le_of_ble_eq_true hn.2
   (refine rwm (j7n h1) ?_; refine rwm (show x = _ from z1b h2) ?_; refine rwm (show lo = 0 from Nat.eq_of_beq_eq_true hn.1) ?_)
   refine q0d.conv fun g xs R => ?_
   (refine e12 R.oneI fun x r => ?_; refine rwm r ?_; intro r1)
   refine e23 (msg_low r1 :) fun i b hz hp r1' => ?_
   (refine e13 hp.slI fun b' r => ?_; subst r; intro hp hle)
   (refine e25 hp.ipI fun H l r => ?_; subst r; intro hr ho sp len)
   rw [q1x, Nat.zero_add] at hle
   dsimp only at r1' hle
   rw [z96 hn2] at r1'
   have hle2 : 0 + (n - 20) <= l.length := by omega
   exact ⟨_, .cons r1' .nil, q8l B hk ho len (by refine rwm List.length_take ?_; omega) fun g' y le vr => ⟨_, z81 (hr.mono le) (by refine rwb (List.drop_zero (l := l)) ?_; exact j3l (lo := 0) (len := n - 20) (sp.mono le) hle2) vr, q⟩⟩
noncomputable def CS.retE : CS -> CE
 | .ret e => e
 | _ => .bad
noncomputable def CE.booL : CE -> List CE
 | .boo _ es => es
 | _ => []
noncomputable def ohL : List CE := (CS.retE (((q1p lk0 (rF 353))[0]?).getD .bad)).booL
noncomputable def ohE (i : Nat) : CE := (ohL[i]?).getD .bad
theorem x1n (a : Int) (st : St) (d : Nat) (tn : Bool) : (q0q lk0 true 12).ev ⟨[], d + 2, tn, true⟩ (ohE 0) [((Str.ofString "address"), .int a)] st = (.ok (.bool (a != (0 : Int))) (st)) := by kernel_rfl
theorem x1o (a : Int) (st : St) (d : Nat) (tn : Bool) : (q0q lk0 true 12).ev ⟨[], d + 2, tn, true⟩ (ohE 1) [((Str.ofString "address"), .int a)] st = (.ok (.bool (!decide (a >= (3758096384 : Int)))) (st)) := by kernel_rfl
theorem x1p (a : Int) (st : St) (d : Nat) (tn : Bool) : (q0q lk0 true 12).ev ⟨[], d + 2, tn, true⟩ (ohE 2) [((Str.ofString "address"), .int a)] st = (.need (!(16777216 : Int) == (0 : Int) && !Builtin.divisionGoesByPylong a (16777216 : Int)) (.ok (.bool (a.fdiv (16777216 : Int) != (127 : Int))) (st))) := by kernel_rfl
theorem j6u (a : Int) (st : St) (d : Nat) (tn : Bool) : q0r lk0 (q0q lk0 true 14) (d + 2) tn (rF 353) [.int a] st = (q12 (q0q lk0 true 14) ⟨[], d + 2, tn, true⟩ [.ret (.boo .And [ohE 0, ohE 1, ohE 2])] [((Str.ofString "address"), .int a)] st).bind z79 := q18 (by kernel_rfl) (by kernel_rfl) (by kernel_rfl) (by kernel_rfl)
section
variable {lk : Lk} {vc : Bool} {n : Nat} {F : Fx} {ρ : Loc} {st : St} {X : Exc}
theorem j7g {e : CE} {Q : Fl × Loc -> St -> Prop} (h : Sat ((q0q lk vc n).ev F e ρ st) (fun v st => Q (.ret v, ρ) st) X) : Sat ((q0q lk vc (n + 1)).ex F (.ret e) ρ st) Q X := q1d (r := (q0q lk vc n).ev F e ρ st) h
theorem j4t {op : BoolOp} {es : List CE} {Q : V -> St -> Prop} (h : Sat (boT (q0q lk vc n) F op es ρ st) Q X) : Sat ((q0q lk vc (n + 1)).ev F (.boo op es) ρ st) Q X := h
theorem z4l {T : Tb} {e e' : CE} {es : List CE} {Q : V -> St -> Prop} (h : Sat (T.ev F e ρ st) (fun v st => ∃ b, j8a v = some b /\ Sat (cond b (boT T F .And (e' :: es) ρ st) (.ok v st)) Q X) X) : Sat (boT T F .And (e :: e' :: es) ρ st) Q X :=
 q1d (r := T.ev F e ρ st) (Sat.mono h fun v st h => by
   refine e12 h fun b hb h => ?_
   refine rwm hb ?_
   exact h)
end
theorem q99 {α : Type} [DecidableEq α] {f : Int -> Option α} {z : Z} {g : Gh} {i : Int} {b : α} (h : allZ f z = some b) (r : ZR g z i) : f i = some b := by
 induction z using Z.casesOn with
 | c j => cases r; exact h
 | s n k d =>
   obtain ⟨j, _, rfl, hd⟩ := r
   induction d using Dm.casesOn with
   | set l =>
     refine e12 (obi h :) fun rs h1 h2 => ?_
     refine e12 (q6p h1 (f (j + k)) (List.mem_map.mpr ⟨j, hd, rfl⟩) :) fun x hx hm => ?_
     (refine rwm hx ?_; refine rwm (q3h h2 x hm) ?_; rfl)
   | rng => exact ns h
theorem q9h {c : Cx} (B : Bs c) {a : Int} {d : Nat} {tn : Bool} {st : St} {Q : V -> St -> Prop} {X : Exc} (q : Q (.bool (q2v a)) st) : q0d c (d + 3) tn st (.prim (.ref 353)) [.int a] Q X := by
 refine q0g (vc := true) (n := 14) (d := d + 2) B.lk0 (B.fn rfl rfl) ?_
 rw [j6u]
 refine q1d (q3n (j7g (n := 13) (j4t (n := 12) (z4l ?_))))
 unfold q2v at q
 rw [x1n]
 refine ⟨_, rfl, ?_⟩
 refine z9u (a != (0 : Int)) (fun h0 => ?_) fun h0 => ?_
 .
   rw [h0] at q
   exact q
 .
   rw [h0] at q
   refine rwm q2l ?_
   refine z4l ?_
   rw [x1o]
   refine ⟨_, rfl, ?_⟩
   refine z9u (!decide (a >= (3758096384 : Int))) (fun h1 => ?_) fun h1 => ?_
   .
     rw [h1] at q
     exact q
   .
     rw [h1] at q
     show Sat ((q0q lk0 true 12).ev _ _ _ _) _ _
     (rewrite [x1p]; refine rwm (PyProof.noPylong_small (by decide)) ?_)
     exact ⟨rfl, q⟩
theorem z09 {c : Cx} (B : Bs c) : q01 c 353 (.orc (room 3 q74)) := q11 fun d tn vs st v st' Q X e q => by
 refine hid fun hG => ?_
 refine e12 (obi e :) fun w e1 e => ?_
 refine e12 (omi e :) fun b hb e => ?_
 refine e12 (obi hb :) fun z hz hb => ?_
 refine hG ?_
 obtain ⟨rfl, rfl⟩ := Prod.mk.inj e
 (refine rwm (q0y e1) ?_; refine rwm (z1g hz) ?_)
 refine q0d.conv fun g xs R => ?_
 (refine e12 R.oneI fun y r => ?_; subst r; intro r)
 (refine e22 r.zI fun i t r => ?_; subst r; intro zr)
 have hi := oi (q99 (f := fun a => some (q2v a)) hb zr)
 exact ⟨[.int i], .cons (.int _ _) .nil, q9h B fun g' y le vr => ⟨_, vr, by refine rwm hi ?_; exact q⟩⟩
structure Lc1 where
 elt : Expr
 tgt : Expr
 iter : Expr
 ifs : List Expr
 scope : Scope
 pos : Pos
 rp : Pos
noncomputable def q1w : Expr := .Constant .none 0 ⟨0, 0, 0, 0⟩
noncomputable def lcX (b : List Stmt) : Lc1 := match b with
 | [.Return (some (.ListComp elt [⟨tgt, iter, ifs, 0⟩] scope pos)) p] => ⟨elt, tgt, iter, ifs, scope, pos, p⟩
 | _ => ⟨q1w, q1w, q1w, [], ⟨.function, [], false, false, []⟩, ⟨0, 0, 0, 0⟩, ⟨0, 0, 0, 0⟩⟩
noncomputable def q5s : Lc1 := lcX (rF 506).body
theorem j4r : (rF 506).body = [.Return (some (.ListComp q5s.elt [⟨q5s.tgt, q5s.iter, q5s.ifs, 0⟩] q5s.scope q5s.pos)) q5s.rp] := by kernel_rfl
theorem ok506 : q6h q5s.scope q5s.iter = true := by kernel_rfl
theorem cn506 : z7h [] q5s.scope.names [] = some [] := by kernel_rfl
noncomputable def z8g (vs : List V) (st : St) : Cb := (one vs).bind fun v => (j8f v).bind fun l => cond l.isEmpty (some (true, .lst [], st)) none
theorem ev506 (st : St) (d : Nat) (tn : Bool) : (q0q lk0 true 5).ev ⟨[], d, tn, true⟩ (cE lk0 4 ⟨(rF 506).sc, true⟩ q5s.iter) [((Str.ofString "options"), .lst [])] st = .ok (.lst []) st := by kernel_rfl
theorem z5s {c : Cx} (B : Bs c) : q01 c 506 (.orc (q0v 1 z8g)) := q07 fun d tn vs st v st' Q X e q => by
 refine e12 (obi e :) fun w e1 e => ?_
 refine e12 (obi e :) fun l e2 e => ?_
 obtain ⟨e3, e⟩ := q0c e
 (refine rwm (q0y e1) ?_; refine rwm (q8d e2) ?_; refine rwm (List.isEmpty_iff.mp e3) ?_)
 . (refine e03 (cb_inv e :) fun h r => ?_; subst r; intro r; subst r)
   have R : FnOk c 506 (rF 506) := B.fn rfl rfl
   refine e32 R.is_ fun ds qual cdv hI hds => ?_
   obtain ⟨hcell, hloc⟩ := R.c0 (by kernel_rfl)
   refine q0d.monoX (X := noX) (q42 hI hds R.nd (by decide +kernel) (by decide +kernel) R.ld hcell hloc R.co R.gen R.kind (fun W0 W0 W0 h => h) fun P h1 h2 h3 h4 h5 h6 h7 => ?_) fun C st' h => h.elim
   have I : PI P ⟨(rF 506).sc, true⟩ ⟨[], d, tn, true⟩ := ⟨h5, h4, h1, h2, h3, fun W0 => h6, fun W0 => h7⟩
   refine rwm j4r ?_
   refine q1r (q6x (x0d (q94 I cn506 ok506 (by kernel_rfl)) ?_))
   refine rwm (show (rF 506).ns.zip (q6j (rF 506).ns.length [.lst []] (rF 506).dvs) = [((Str.ofString "options"), .lst [])] by kernel_rfl) ?_
   refine (q3c (vc := true) B.lk0 5).ev I (n := 4) ?_
   rw [ev506]
   exact ⟨q89 (I.nh.trans rfl), q⟩
noncomputable def z2k (vs : List V) (st : St) : Cb := (one vs).bind fun v => (q2q v).bind fun b => cond b.isEmpty (some (true, .lst [], st.up)) none
theorem x12 (st : St) (d : Nat) (tn : Bool) : q12 (q0q lk0 true 20) ⟨[], d, tn, true⟩ (q1p lk0 (rF 473)) [((Str.ofString "octets"), .bytes [])] st = .need true (.ok (.ret (.ref st.nx), [((Str.ofString "octets"), .bytes []), ((Str.ofString "found"), .ref st.nx), ((Str.ofString "at"), .int 0)]) (st.new (.list []))) := by kernel_rfl
theorem z36 {c : Cx} (B : Bs c) : q01 c 473 (.orc (q0v 1 z2k)) := q07 fun d tn vs st v st' Q X e q => by
 refine hid fun hG => ?_
 obtain ⟨w, e1, e⟩ := obi e
 obtain ⟨l, e2, e⟩ := obi e
 obtain ⟨e3, e⟩ := q0c e
 refine hG ?_
 (refine rwm (q0y e1) ?_; refine rwm (q1i e2) ?_; refine rwm (List.isEmpty_iff.mp e3) ?_)
 . obtain ⟨h, rfl, rfl⟩ := cb_inv e
   refine q0g (vc := true) (n := 20) (d := d) B.lk0 (B.fn rfl rfl) ?_
   (refine rwm (q18 (ss := q1p lk0 (rF 473)) (b := [((Str.ofString "octets"), .bytes [])]) (by kernel_rfl) (by kernel_rfl) rfl (by kernel_rfl)) ?_; rewrite [x12])
   have e1 : z9c (.ref st.nx) (st.new (.list [])) = (.lst [], st.up) := by
     show frzL st.nx (st.new (.list [])) ((st.new (.list [])).get st.nx) = _
     (rewrite [St.get_new]; refine rwm (if_pos rfl) ?_)
     show (V.lst [], (st.new (.list [])).del st.nx) = _
     (refine rwm (St.del_new _ _) ?_; rfl)
   refine ⟨rfl, ?_⟩
   show Sat (Prod.casesOn (z9c (.ref st.nx) (st.new (.list []))) fun v st => Out.ok v st) Q noX
   refine rwm e1 ?_
   exact q
noncomputable def orcE : Tr Orc := .nd (.nd .lf 473 (q0v 1 z2k) .lf) 506 (q0v 1 z8g) .lf
noncomputable def lkE : Lk := tabs.lk orcE
theorem Bs.lkE {c : Cx} (B : Bs c) : LkOk c lkE := B.lk (.cons (z36 B) (.cons (z5s B) .nil)) rfl
theorem z3n (st : St) (d : Nat) (tn : Bool) : q0r lkE (q0q lkE true 30) (d + 2) tn (rF 513) [.bytes []] st = .need true (.need true (.need true (.need true (.need true (.need true (.need true (.need true (.need true (.need true (.ok (.bytes []) st.up)))))))))) := by kernel_rfl
theorem z8j {c : Cx} (B : Bs c) : q01 c 513 (.orc (room 3 z8i)) := q11 fun d tn vs st v st' Q X e q => by
 refine e12 (obi e :) fun w e1 e => ?_
 refine e12 (obi e :) fun l e2 e => ?_
 obtain ⟨e3, e⟩ := q0c e
 obtain ⟨rfl, rfl⟩ := Prod.mk.inj (oi e)
 (refine rwm (q0y e1) ?_; refine rwm (q1i e2) ?_; refine rwm (List.isEmpty_iff.mp e3) ?_)
 . refine q0g (vc := true) (n := 30) (d := d + 2) B.lkE (B.fn rfl rfl) ?_
   rw [z3n]
   exact ⟨rfl, rfl, rfl, rfl, rfl, rfl, rfl, rfl, rfl, rfl, q⟩
noncomputable def atO : Expr -> Expr
 | .Attribute o _ _ => o
 | _ => q1w
noncomputable def exP : Expr -> Pos
 | .Attribute _ _ p => p
 | .Subscript _ _ p => p
 | .Name _ p => p
 | .Call _ _ _ p => p
 | .ListComp _ _ _ p => p
 | _ => ⟨0, 0, 0, 0⟩
noncomputable def sbO : Expr -> Expr
 | .Subscript o _ _ => o
 | _ => q1w
noncomputable def sbE : Expr -> Expr
 | .Subscript _ e _ => e
 | _ => q1w
noncomputable def clF : Expr -> Expr
 | .Call f _ _ _ => f
 | _ => q1w
noncomputable def clA : Expr -> Expr
 | .Call _ [e] _ _ => e
 | _ => q1w
noncomputable def rtE : List Stmt -> Expr
 | [.Return (some e) _] => e
 | _ => q1w
noncomputable def rtP : List Stmt -> Pos
 | [.Return _ p] => p
 | _ => ⟨0, 0, 0, 0⟩
noncomputable def lcE (e : Expr) : Lc1 := match e with
 | .ListComp elt [⟨tgt, iter, ifs, 0⟩] scope pos => ⟨elt, tgt, iter, ifs, scope, pos, pos⟩
 | _ => ⟨q1w, q1w, q1w, [], ⟨.function, [], false, false, []⟩, ⟨0, 0, 0, 0⟩, ⟨0, 0, 0, 0⟩⟩
noncomputable def stE : Expr := rtE (rF 1003).body
noncomputable def stL : Lc1 := lcE (clA stE)
noncomputable def stW : Expr := sbO (atO stL.elt)
theorem j7u : (rF 1003).body = [.Return (some (.Call (.Name "sum" (exP (clF stE))) [.ListComp (.Attribute (.Subscript (.Attribute (.Name "self" (exP (atO stW))) "waiting" (exP stW)) (.Name "key" (exP (sbE (atO stL.elt)))) (exP (atO stL.elt))) "size" (exP stL.elt))
   [⟨.Name "key" (exP stL.tgt), .Attribute (.Name "self" (exP (atO stL.iter))) "waiting" (exP stL.iter), [], 0⟩] stL.scope stL.pos] [] (exP stE))) (rtP (rF 1003).body)] := by kernel_rfl
theorem st_ok : q6h stL.scope (.Attribute (.Name "self" (exP (atO stL.iter))) "waiting" (exP stL.iter)) = true := by kernel_rfl
theorem st_cn (n : Nat) : z7h [((Str.ofString "self"), n)] stL.scope.names [] = some [((Str.ofString "self"), n)] := by kernel_rfl
theorem z8q (n : Nat) : q0f (Str.ofString "self") [((Str.ofString "self"), n)] = some n := by kernel_rfl
theorem x2a : stL.scope.names.lookup (Str.ofString "key") = some .local := by refine rwb (q0b _ _) ?_; kernel_rfl
theorem x2b : q2i lk0 ⟨(rF 1003).sc, true⟩ "sum" = .val (.prim (.builtin "sum")) := by kernel_rfl
theorem z76 {n : Nat} {o : AO} : ∀ {l : List (Nat × AO)}, q4q n l = some o -> putL n o l = l := by
 intro l
 induction l with
 | nil => intro h; exact nomatch h
 | cons p l ih =>
   intro h
   rw [q06]
   change cond (Nat.beq n p.1) (some p.2) (q4q n l) = some o at h
   have hb : (n == p.1) = Nat.beq n p.1 := by (rewrite [Bool.eq_iff_iff, beq_iff_eq]; refine rwm Nat.beq_eq ?_; rfl)
   refine rwm hb ?_
   refine q27 (Nat.beq n p.1) (fun e => ?_) fun e => ?_
   .
     rw [e] at h
     cases h
     (refine rwm (if_pos rfl) ?_; refine rwm (Nat.eq_of_beq_eq_true e) ?_; rfl)
   .
     rw [e] at h
     (refine rwm (if_neg Bool.false_ne_true) ?_; refine rwm (ih h) ?_; rfl)
theorem St.set_same {st : St} {n : Nat} {o : AO} (h : st.get n = some o) : st.set n o = st := by
 unfold St.set
 (refine rwm (z76 h) ?_; rfl)
theorem q85 {st : St} {v : V} {C : Addr} {fs : List (Str × V)} {m : Nat} {xs : List (List Z × V)} {p p' : Option (List DictEntry × Nat)} (h : q36 st v = some (C, fs)) (hm : st.get m = some (.tab xs p)) : q36 (st.set m (.tab xs p')) v = some (C, fs) := by
 cases v <;> first | exact h | skip
 rename_i n
 unfold q36 at h ⊢
 dsimp only at h ⊢
 rw [St.get_set]
 by_cases e : n = m
 . subst e
   rw [hm] at h
   exact zns h
 . refine rwm (if_neg e) ?_
   exact h
theorem z1k : ∀ zs : List Z, zsV (zs.map Z.toV) = some zs
 | [] => rfl
 | .c i :: zs => by
   show (zsV (zs.map Z.toV)).map (Z.c i :: ·) = _
   refine rwm (z1k zs) ?_; rfl
 | .s n k d :: zs => by
   show (zsV (zs.map Z.toV)).map (Z.s n k d :: ·) = _
   refine rwm (z1k zs) ?_; rfl
section
variable {c : Cx}
theorem z8r {P : Pt} {ρ : Loc} {st : St} {n : Nat} {v : V} {fs : List (Str × V)} {m : Nat} {pos pos' : Pos} {X : Exc} (B : Bs c) (hk : P.env.kindOf (Str.ofString "self") = some .cell) (hc : P.cn.lookup (Str.ofString "self") = some n) (hn : st.get n = some (.cell (some v))) (hv : q36 st v = some (1034, fs)) (hw : q0f (Str.ofString "waiting") fs = some (.ref m)) {Q : V -> St -> Prop} (q : Q (.ref m) st) :
   EvE c P ρ st (.Attribute (.Name (Str.ofString "self") pos) (Str.ofString "waiting") pos') Q X :=
 z0j rfl (z6b hk hc hn ⟨1034, fs, .ref m, q43 hv, (B.lk0.at_ 1034 (Str.ofString "waiting") (by kernel_rfl)).1, by refine rwb (q0b _ _) ?_; exact hw, rfl, q⟩ (by decide +kernel))
theorem j2b : q05 ⟨(rF 1003).sc, true⟩ (Str.ofString "self") = some .cell := by kernel_rfl
theorem j2c : q05 ⟨z78 stL.scope (rF 1003).sc, false⟩ (Str.ofString "self") = some .cell := by kernel_rfl
theorem j2d : q05 ⟨z78 stL.scope (rF 1003).sc, false⟩ (Str.ofString "key") = some .local := by kernel_rfl
theorem q66 (B : Bs c) {v : V} {fs : List (Str × V)} {m : Nat} {xs : List (List Z × V)} {i : Int} {st st1 : St} (e1 : st1 = st.new (.cell (some v))) (hv : q36 st1 v = some (1034, fs)) (hw : q0f (Str.ofString "waiting") fs = some (.ref m)) (hm : st1.get m = some (.tab xs none))
   (hx : (xs = [] /\ i = 0) \/ ∃ zs w gs, xs = [(zs, w)] /\ q36 st1 w = some (951, gs) /\ q0f (Str.ofString "size") gs = some (.int i)) {d : Nat} {tn : Bool} {Q : V -> St -> Prop} {X : Exc} (q : Q (.int i) st1) : q0d c (d + 2) tn st (.prim (.ref 1003)) [v] Q X := by
 have R : FnOk c 1003 (rF 1003) := B.fn rfl rfl
 refine hid fun hG => ?_
 obtain ⟨ds, qual, cdv, hI, hds⟩ := R.is_
 obtain ⟨c1, c2, c3, c4⟩ := R.c1 (by decide +kernel)
 refine hG ?_
 refine q0d.monoX (X := noX) (q8r hI hds R.nd (by show 1 <= (rF 1003).ns.length; decide +kernel) (by show (rF 1003).ns.length <= 1 + (rF 1003).dvs.length; decide +kernel) R.ld c1 c2 c3 c4 R.co R.gen R.kind fun P h1 h2 h3 h4 h5 h6 h7 => ?_) fun C st' h => h.elim
 have en : (rF 1003).cells = [Str.ofString "self"] := by kernel_rfl
 have eb : (rF 1003).ns.zip (q6j (rF 1003).ns.length [v] (rF 1003).dvs) = [((Str.ofString "self"), v)] := by kernel_rfl
 have es : q5g (([((Str.ofString "self"), v)] : List (Str × V)).lookup ·) [Str.ofString "self"] st = st1 := by
   refine rwm e1 ?_
   show st.new (.cell (([((Str.ofString "self"), v)] : List (Str × V)).lookup (Str.ofString "self"))) = _
   (refine rwb (q0b _ _) ?_; refine rwm (show q0f (Str.ofString "self") [((Str.ofString "self"), v)] = some v by kernel_rfl) ?_; rfl)
 rw [en, eb] at h4 ⊢
 (refine rwm es ?_; refine rwm j7u ?_)
 generalize List.filter _ _ = ρ
 have h4 : P.cn = [((Str.ofString "self"), st.nx)] := h4
 have I : PI P ⟨(rF 1003).sc, true⟩ ⟨[((Str.ofString "self"), st.nx)], d + 1, tn, true⟩ := ⟨h5, h4, h1, h2, h3, fun W0 => h6, fun W0 => h7⟩
 have hcn : z5r ⟨[((Str.ofString "self"), st.nx)], d + 1, tn, true⟩ [((Str.ofString "self"), st.nx)] = true := by
   unfold z5r
   simp only [List.all_cons, List.all_nil, z8q, j03, Nat.beq_refl, Bool.and_true]
 have K := q94 I (st_cn st.nx) st_ok hcn
 have gself : st1.get st.nx = some (.cell (some v)) := by (refine rwm e1 ?_; rewrite [St.get_new]; refine rwm (if_pos rfl) ?_; rfl)
 have hne : st.nx ≠ m := fun e => by rw [<- e, gself] at hm; cases hm
 have look : ∀ {l : List (Str × Nat)}, l = [((Str.ofString "self"), st.nx)] -> l.lookup (Str.ofString "self") = some st.nx := fun e => by (refine rwm e ?_; refine rwb (q0b _ _) ?_); exact z8q _
 refine q1r (q6x (q5k (f := .builtin "sum") q0w rfl (q2j B.lk0 I x2b ⟨rfl, q02 rfl ?_⟩)))
 refine EvE.mono (Q := fun b st' => (∃ ys, b = .lst ys /\ q3a ys = some (ys.map fun W0 => i) /\ ((ys.map fun W0 => i).sum = i)) /\ st' = st1) ?_ fun b st' hq => ?_
 . refine TrG.unpin (Q' := fun b st' => (∃ ys, b = .lst ys /\ q3a ys = some (ys.map fun W0 => i) /\ ((ys.map fun W0 => i).sum = i)) /\ ∃ es kk, st' = st1.set m (.tab xs (some (es, kk)))) (z6c K B.sys (z8r B ((q0h I _).trans j2b) (look h4) gself hv hw ⟨m, xs, rfl, hm, ?_, fun es kk => ?_⟩)) ?_
   . rcases hx with ⟨rfl, _⟩ | ⟨zs, w, gs, rfl, _⟩
     . exact Nat.zero_le _
     . exact q21 (by show 1 <= 1000000; omega)
   . rcases hx with ⟨rfl, rfl⟩ | ⟨zs, w, gs, rfl, hw1, hw2⟩
     . exact ⟨⟨[], rfl, rfl, rfl⟩, es, kk, rfl⟩
     . refine ⟨_, .name x2a, fun cl C => ?_⟩
       have I' := I.comp (scope := stL.scope) (cn := [((Str.ofString "self"), st.nx)]) (cl := cl) (C := C)
       have hm2 : (st1.set m (.tab [(zs, w)] (some (es, kk)))).get m = some (.tab [(zs, w)] (some (es, kk))) := by (rewrite [St.get_set]; refine rwm (if_pos rfl) ?_; rfl)
       refine z0j rfl (q8z rfl (z8r B ((q0h I' _).trans j2c) (look I'.cn) (by (rewrite [St.get_set]; refine rwm (if_neg hne) ?_); exact gself) (q85 hv hm) hw (q04 (v := .tup (zs.map Z.toV)) ((q0h I' _).trans j2d) (by refine rwb (q0b _ _) ?_; kernel_rfl) (q78 (q0 := true) (v := w) ?_ rfl ?_) (by decide +kernel))))
       . show subT (zs.map Z.toV) ((st1.set m (.tab [(zs, w)] (some (es, kk)))).get m) = _
         unfold subT
         (refine rwm (z1k _) ?_; refine rwm hm2 ?_)
         exact if_pos rfl
       . refine ⟨951, gs, .int i, q43 (q85 hw1 hm), (B.lk0.at_ 951 (Str.ofString "size") (by kernel_rfl)).1, by refine rwb (q0b _ _) ?_; exact hw2, rfl, hm2, ?_⟩
         exact ⟨⟨[.int i], rfl, rfl, by simp⟩, es, kk, rfl⟩
   . rintro b st' ⟨hys, es, kk, rfl⟩
     refine ⟨m, xs, some (es, kk), by (rewrite [St.get_set]; refine rwm (if_pos rfl) ?_; rfl), hys, ?_⟩
     (rewrite [St.set_set]; refine rwm (St.set_same hm) ?_; rfl)
 . obtain ⟨⟨ys, rfl, hi, hsum⟩, rfl⟩ := hq
   refine q17 (q7j (p := (.int i, st')) (I.nh.trans rfl) (q0 := true) ?_ rfl q)
   show q25 st' ((q3a ys).map fun ns => .int ns.sum) = _
   refine rwm hi ?_
   show some (true, V.int ((ys.map fun W0 => i).sum), st') = _
   (refine rwm hsum ?_; rfl)
theorem z37 (B : Bs c) : q01 c 1003 (.orc (room 2 z1a)) := q11 fun d tn vs st v st' Q X e q => by
 refine e12 (obi e :) fun u e0 e => ?_
 generalize e1 : st.new (.cell (some u)) = st1 at e
 refine hid fun hG => ?_
 refine ep2 (obi e :) fun C fs hv e => ?_
 refine e12 (obi e :) fun m hw e => ?_
 refine e12 (obi hw :) fun w0 hw hw0 => ?_
 obtain ⟨hc, e⟩ := q0c e
 refine e12 (obi e :) fun l hl e => ?_
 refine hG ?_
 rw [show C = 1034 from Nat.eq_of_beq_eq_true hc] at hv
 rw [q3e hw0] at hw
 have hm := z4p hl
 refine rwm (q0y e0) ?_
 induction l using List.casesOn with
 | nil =>
   obtain ⟨rfl, rfl⟩ := Prod.mk.inj (oi e)
   exact q66 B e1.symm hv hw hm (.inl ⟨rfl, rfl⟩) q
 | cons p l =>
   obtain ⟨h0, e⟩ := q0c e
   obtain rfl := List.isEmpty_iff.mp h0
   refine hid fun hG => ?_
   refine ep2 (obi e :) fun D gs hw1 e => ?_
   refine e12 (obi e :) fun i hw2 e => ?_
   refine e12 (obi hw2 :) fun i0 hw2 hi => ?_
   obtain ⟨hc2, e⟩ := q0c e
   refine hG ?_
   obtain ⟨rfl, rfl⟩ := Prod.mk.inj (oi e)
   rw [show D = 951 from Nat.eq_of_beq_eq_true hc2] at hw1
   rw [q0p hi] at hw2
   exact q66 B e1.symm hv hw hm (.inr ⟨p.1, p.2, gs, rfl, hw1, hw2⟩) q
end
noncomputable def Pl (c : Cx) (v : V) : Prop := ∀ g g' x, (∀ p ∈ g.kn, p ∈ g'.kn) -> VR c g v x -> VR c g' v x
theorem Pl.int {c : Cx} {i : Int} : Pl c (.int i) := fun g g' x W0 r => by
 obtain ⟨t, rfl⟩ := r.intI
 exact .int _ _
theorem Pl.ints {c : Cx} {is : List Int} : ∀ {g g' : Gh} {xs : List Value}, VRs c g (is.map .int) xs -> VRs c g' (is.map .int) xs := by
 induction is with
 | nil =>
   intro g g' xs r
   refine rwm r.nilI ?_
   exact .nil
 | cons i is ih =>
   intro g g' xs r
   (refine e23 r.consI fun y ys r => ?_; subst r; intro r1 r2)
   obtain ⟨t, rfl⟩ := r1.intI
   exact .cons (.int _ _) (ih r2)
theorem Pl.lst {c : Cx} {is : List Int} : Pl c (.lst (is.map .int)) := fun g g' x hk r => by
 (refine e33 r.lstI fun a its k r => ?_; subst r; intro h r2)
 exact .lst (h.imp (hk _) id) (Pl.ints r2)
noncomputable def tkI : CS := ((q1p lk0 (rF 1052))[0]?).getD .bad
noncomputable def tkR : List CS := (q1p lk0 (rF 1052)).drop 1
noncomputable def z8x (nx : Nat) (a b : Int) (rest : List (Nat × AO)) : St := ⟨nx, (0, .list [.int a, .int b]) :: rest⟩
noncomputable def tkL (t : Int) : Loc := [((Str.ofString "source"), .ref 0), ((Str.ofString "top"), .int t)]
theorem j76 (nx : Nat) (a b t : Int) (rest : List (Nat × AO)) (d : Nat) (tn : Bool) : (q0q lk0 true 12).evT ⟨[], d, tn, true⟩ (CS.ifT tkI) (tkL t) (z8x nx a b rest) = (.need .true (.ok (decide (a > 0)) (z8x nx a b rest))) := by kernel_rfl
theorem j77 (nx : Nat) (a b t : Int) (rest : List (Nat × AO)) (d : Nat) (tn : Bool) : q12 (q0q lk0 true 12) ⟨[], d, tn, true⟩ (CS.thenB tkI) (tkL t) (z8x nx a b rest) = (.need .true (.need .true (.need (!t == (0 : Int)) (.need .true (.need (!t == (0 : Int) && !Builtin.divisionGoesByPylong a t) (.ok ((.ret (.int (a.fmod t))), [((Str.ofString "source"), (.ref 0)), ((Str.ofString "top"), (.int (t))), ((Str.ofString "drawn"), (.int (a.fmod t)))]) (.mk (nx) ((0, (.list [(.int (a.fdiv t)), (.int (b))])) :: rest)))))))) := by kernel_rfl
theorem j75 (nx : Nat) (a b t : Int) (rest : List (Nat × AO)) (d : Nat) (tn : Bool) : q12 (q0q lk0 true 13) ⟨[], d, tn, true⟩ tkR (tkL t) (z8x nx a b rest) = (.need .true (.need (decide (Builtin.Int.intBits b <= (64 : Nat))) (.need .true (.need .true (.need .true (.need .true (.need .true (.need (decide (Builtin.Int.intBits ((b * (39373 : Int) + (7 : Int)).fmod (2147483647 : Int)) <= (64 : Nat))) (.need .true (.need .true (.need (!(32 : Int) == (0 : Int) && !Builtin.divisionGoesByPylong (((b * (39373 : Int) + (7 : Int)).fmod (2147483647 : Int) * (b * (39373 : Int) + (7 : Int)).fmod (2147483647 : Int)).fmod (2147483629 : Int)) (32 : Int)) (.need .true (.need (!t == (0 : Int)) (.ok ((.ret (.int (((((b * (39373 : Int) + (7 : Int)).fmod (2147483647 : Int) * (b * (39373 : Int) + (7 : Int)).fmod (2147483647 : Int)).fmod (2147483629 : Int)).fdiv (32 : Int)).fmod t))), [((Str.ofString "source"), (.ref 0)), ((Str.ofString "top"), (.int (t)))]) (.mk (nx) ((0, (.list [(.int (a)), (.int ((b * (39373 : Int) + (7 : Int)).fmod (2147483647 : Int)))])) :: rest)))))))))))))))) := by kernel_rfl
theorem j74 (nx : Nat) (a b t : Int) (rest : List (Nat × AO)) (d : Nat) (tn : Bool) : q0r lk0 (q0q lk0 true 13) d tn (rF 1052) [.ref 0, .int t] (z8x nx a b rest) = (q12 (q0q lk0 true 13) ⟨[], d, tn, true⟩ (.ifs tkI.ifT tkI.thenB [] :: tkR) (tkL t) (z8x nx a b rest)).bind z79 := q18 (by kernel_rfl) (by kernel_rfl) (by kernel_rfl) (by kernel_rfl)
theorem x2i : j8q tkI.thenB = false := by kernel_rfl
theorem j2k {c : Cx} (B : Bs c) {nx : Nat} {a b t : Int} {rest : List (Nat × AO)} (ht : 0 < t) (ht2 : t < 1000000) (hb : 0 <= b /\ b < 2147483648) {d : Nat} {tn : Bool} {Q : V -> St -> Prop} {X : Exc}
   (q : ∀ r a' b', 0 <= r -> r < t -> (0 <= a -> 0 <= a' /\ a' <= a) -> 0 <= b' -> b' < 2147483648 -> Q (.int r) (z8x nx a' b' rest)) : q0d c (d + 1) tn (z8x nx a b rest) (.prim (.ref 1052)) [.ref 0, .int t] Q X := by
 refine q0g (vc := true) (n := 13) (d := d) B.lk0 (B.fn rfl rfl) ?_
 have t0 : (!t == (0 : Int)) = true := by (refine rwm (Bool.not_eq_true' _) ?_; rewrite [beq_eq_false_iff_ne]); exact Int.ne_of_gt ht
 have np : ∀ x, Builtin.divisionGoesByPylong x t = false := fun x => PyProof.noPylong_small (Int.ofNat_lt.mp (Int.lt_of_le_of_lt (Int.le_of_eq (Int.natAbs_of_nonneg (Int.le_of_lt ht))) (Int.lt_trans ht2 (by decide))))
 have np32 : ∀ x, Builtin.divisionGoesByPylong x 32 = false := fun x => PyProof.noPylong_small (by decide)
 rw [j74]
 refine q1d (q3n (z0r (n := 12) x2i ?_))
 rw [j76]
 simp only [j17, q56]
 refine ⟨trivial, ?_⟩
 by_cases ha : a > 0
 . (refine rwm (decide_eq_true ha) ?_; refine rwm q2l ?_; rewrite [j77]; refine rwm (np _) ?_; refine rwm t0 ?_)
   refine ⟨rfl, rfl, rfl, rfl, rfl, ?_⟩
   refine q _ (a.fdiv t) b (Int.fmod_nonneg_of_pos _ ht) (Int.fmod_lt_of_pos _ ht) (fun h => ?_) hb.1 hb.2
   refine rwm (Int.fdiv_eq_ediv_of_nonneg _ (Int.le_of_lt ht)) ?_
   exact ⟨Int.ediv_nonneg h (Int.le_of_lt ht), Int.ediv_le_self _ h⟩
 . (refine rwm (decide_eq_false ha) ?_; refine rwm q13 ?_; refine rwm q7r ?_)
   simp only [q56, q16]
   have hy : 0 <= (b * (39373 : Int) + (7 : Int)).fmod (2147483647 : Int) /\ (b * (39373 : Int) + (7 : Int)).fmod (2147483647 : Int) < 2147483647 := ⟨Int.fmod_nonneg_of_pos _ (by decide), Int.fmod_lt_of_pos _ (by decide)⟩
   have ib : ∀ x : Int, 0 <= x -> x < 2147483648 -> Builtin.Int.intBits x <= 64 := fun x h1 h2 => PySem.intBits_le_64 (Int.lt_of_lt_of_le (by decide) h1) (Int.lt_trans h2 (by decide))
   (rewrite [j75]; refine rwm (np32 _) ?_; refine rwm t0 ?_)
   generalize (b * (39373 : Int) + (7 : Int)).fmod (2147483647 : Int) = y at *
   refine ⟨rfl, decide_eq_true (ib _ hb.1 hb.2), rfl, rfl, rfl, rfl, rfl, decide_eq_true (ib _ hy.1 (Int.lt_trans hy.2 (by decide))), rfl, rfl, rfl, rfl, rfl, ?_⟩
   exact q _ a y (Int.fmod_nonneg_of_pos _ ht) (Int.fmod_lt_of_pos _ ht) (fun h => ⟨h, Int.le_refl _⟩) hy.1 (Int.lt_trans hy.2 (by decide))
section
variable {c : Cx} {P : Pt} {ρ : Loc} {st : St} {X : Exc} {g g' : Gh} {pv news : List (Addr × Obj)} {m ns : Str -> Option Value} {h0 h : Heap}
theorem At.relist (a : At c P g ρ st pv m ns news h0 h) {n : Nat} {vs vs' : List V} (e : st.get n = some (.list vs)) (hv : ∀ its, VRs c g vs its -> VRs c g vs' its) : At c P g ρ (st.set n (.list vs')) pv m ns news h0 h := by
 have H := a.hk
 have back : ∀ {i o}, (st.set n (.list vs')).get i = some o -> ∃ o', st.get i = some o' := fun {i o} h => by
   rw [St.get_set] at h
   by_cases q : i = n
   . exact ⟨_, q ▸ e⟩
   . rw [if_neg q] at h
     exact ⟨_, h⟩
 refine ⟨a.ok, a.below, a.dicts, a.fr, a.nw, ⟨H.kni, H.pvi, fun i o ei => ?_, fun i o a' d' ei k' => ?_, fun i j o o' a1 d1 a2 d2 hij ei ej k1 k2 => ?_, fun i hi => H.fin i hi, H.pk⟩, a.loc, a.cel, a.nsk⟩
 . rw [St.get_set] at ei
   by_cases q : i = n
   . subst q
     rw [if_pos rfl] at ei
     cases ei
     refine e22 (H.own i _ e :) fun b d h1 r1 => ?_
     cases r1 with
     | list hm r => exact ⟨b, _, h1, .list hm (hv _ r)⟩
   . rw [if_neg q] at ei
     exact H.own i o ei
 . obtain ⟨o', e'⟩ := back ei
   exact H.off i o' a' d' e' k'
 . obtain ⟨o1, e1⟩ := back ei
   obtain ⟨o2, e2⟩ := back ej
   exact H.apart i j o1 o2 a1 d1 a2 d2 hij e1 e2 k1 k2
noncomputable def j7s (B : Int) (i j : Nat) : List V := [.sint i 0 (.rng 0 B), .sint j 0 (.rng 0 2147483647)]
noncomputable def q1l (B : Int) (nx i j : Nat) (rest : List (Nat × AO)) : St := ⟨nx, (0, .list (j7s B i j)) :: rest⟩
theorem set0 {nx : Nat} {o o' : AO} {rest : List (Nat × AO)} : St.set ⟨nx, (0, o) :: rest⟩ 0 o' = ⟨nx, (0, o') :: rest⟩ := by
 unfold St.set
 (rewrite [q06]; refine rwm (if_pos (beq_self_eq_true _)) ?_; rfl)
theorem q79 (B : Bs c) {M : Int} {nx i j : Nat} {t : Int} {rest : List (Nat × AO)} (ht : 0 < t) (ht2 : t < 1000000) {d : Nat} {tn : Bool} {Q : V -> St -> Prop}
   (q : ∀ r, 0 <= r -> r < t -> Q (.int r) (q1l M (nx + 2) nx (nx + 1) rest)) : q0d c (d + 1) tn (q1l M nx i j rest) (.prim (.ref 1052)) [.ref 0, .int t] Q X :=
 fun P ρ h1 h2 h3 g pv m ns news h0 s x xs R a hf hxs K => by
 have e0 : (q1l M nx i j rest).get 0 = some (.list (j7s M i j)) := rfl
 refine hid fun hG => ?_
 obtain ⟨b, dd, _, r⟩ := a.hk.own 0 _ e0
 obtain ⟨_, its, k, _, rv⟩ := r.listI
 refine hG ?_
 (refine e23 rv.twoI fun y z r => ?_; subst r; intro r1 r2)
 obtain ⟨a0, t1, rfl, j1, z1, rfl, q1⟩ := r1.sintI
 obtain ⟨b0, t2, rfl, j2, z2, rfl, q2⟩ := r2.sintI
 have a1 : At c P g ρ (z8x nx (j1 + 0) (j2 + 0) rest) pv m ns news h0 s.heap := by
   have := a.relist (vs' := [.int (j1 + 0), .int (j2 + 0)]) e0 fun its hv => by
     (refine e23 hv.twoI fun y z r => ?_; subst r; intro r1 r2)
     obtain ⟨a3, t1, rfl, j3, z3, rfl, q3⟩ := r1.sintI
     obtain ⟨a4, t2, rfl, j4, z4, rfl, q4⟩ := r2.sintI
     rw [z1] at z3
     rw [z2] at z4
     cases z3
     cases z4
     exact .cons (.int _ _) (.cons (.int _ _) .nil)
   unfold q1l at this
   rw [set0] at this
   exact this
 have b1 : 0 <= j1 /\ j1 <= M := q1
 have b2 : 0 <= j2 /\ j2 <= 2147483647 := q2
 have R' := j2k (c := c) B (nx := nx) (a := j1 + 0) (b := j2 + 0) (rest := rest) ht ht2 (by rw [Int.add_zero]; exact ⟨b2.1, Int.lt_add_one_of_le b2.2⟩) (d := d) (tn := tn) (X := X) (Q := fun v st' => ∃ r a' b', v = .int r /\ (0 <= r /\ r < t) /\ (0 <= a' /\ a' <= M) /\ (0 <= b' /\ b' < 2147483648) /\ st' = z8x nx a' b' rest) (fun r a' b' p1 p2 p3 p4 p5 => by
   have := p3 (Int.le_trans b1.1 (Int.le_of_eq (Int.add_zero _).symm))
   exact ⟨r, a', b', rfl, ⟨p1, p2⟩, ⟨this.1, Int.le_trans this.2 (Int.le_trans (Int.le_of_eq (Int.add_zero _)) b1.2)⟩, ⟨p4, p5⟩, rfl⟩)
 refine R' P ρ h1 h2 h3 g pv m ns news h0 s x xs R a1 hf hxs ⟨fun g' news' h0' h' tk x v st' l mv a' r q' => ?_, K.ex⟩
 (refine e35 q' fun rr a2 b2 r => ?_; subst r; intro p1 p2 p3 r; subst r)
 obtain ⟨t, rfl⟩ := r.intI
 refine e13 (a'.nameZ a2 :) fun g2 l2 c2 n2 => ?_
 refine e13 (c2.nameZ b2 :) fun g3 l3 c3 n3 => ?_
 have c4 := c3.relist (n := 0) (vs := [.int a2, .int b2]) (vs' := j7s M nx (nx + 1)) rfl fun its hv => by
   (refine e23 hv.twoI fun y z r => ?_; subst r; intro r1 r2)
   obtain ⟨t1, rfl⟩ := r1.intI
   obtain ⟨t2, rfl⟩ := r2.intI
   exact .cons (.sint _ ⟨a2, l3.zi _ _ n2, (Int.add_zero _).symm, p2⟩) (.cons (.sint _ ⟨b2, n3, (Int.add_zero _).symm, ⟨p3.1, Int.le_sub_one_of_lt p3.2⟩⟩) .nil)
 have c5 : At c P g3 ρ (q1l M (nx + 2) nx (nx + 1) rest) pv m ns news' h0' h' := by
   have e : St.set (St.nxt (St.nxt (z8x nx a2 b2 rest))) 0 (.list (j7s M nx (nx + 1))) = q1l M (nx + 2) nx (nx + 1) rest := set0
   rw [e] at c4
   exact c4
 exact K.ok g3 news' h0' h' tk _ _ _ (l.trans (l2.trans l3)) mv c5 (.int _ _) (q rr p1.1 p1.2)
theorem j2l (B : Bs c) {M : Int} {nx i j : Nat} {t : Int} {rest : List (Nat × AO)} (ht : 0 < t) (ht2 : t < 1000000) {d : Nat} {tn : Bool} {Q : V -> St -> Prop}
   (q : Q (.sint (nx + 2) 0 (.rng 0 (t - 1))) (q1l M (nx + 3) nx (nx + 1) rest)) : q0d c (d + 1) tn (q1l M nx i j rest) (.prim (.ref 1052)) [.ref 0, .int t] Q X :=
 q0d.named (q79 B ht ht2 fun r h1 h2 => .inl ⟨r, .rng 0 (t - 1), rfl, ⟨h1, Int.le_sub_one_of_lt h2⟩, q⟩)
end
noncomputable def onE : Expr := rtE (rF 1059).body
noncomputable def onA : List Expr := match sbE onE with
 | .Call _ es _ _ => es
 | _ => []
noncomputable def onS : Expr := (onA[0]?).getD q1w
noncomputable def onN : Expr := (onA[1]?).getD q1w
theorem j6v : (rF 1059).body = [.Return (some (.Subscript (.Name (Str.ofString "things") (exP (sbO onE))) (.Call (.Name (Str.ofString "_law_take") (exP (clF (sbE onE)))) [.Name (Str.ofString "source") (exP onS), onN] [] (exP (sbE onE))) (exP onE))) (rtP (rF 1059).body)] := by kernel_rfl
theorem j6x : q2i lk0 ⟨(rF 1059).sc, true⟩ (Str.ofString "_law_take") = .val (.prim (.ref 1052)) := by kernel_rfl
theorem on_k1 : q05 ⟨(rF 1059).sc, true⟩ (Str.ofString "things") = some .local := by kernel_rfl
theorem on_k2 : q05 ⟨(rF 1059).sc, true⟩ (Str.ofString "source") = some .local := by kernel_rfl
noncomputable def onL (vs : List V) : Loc := [((Str.ofString "source"), .ref 0), ((Str.ofString "things"), .lst vs)]
theorem on_l1 (vs : List V) : q0f (Str.ofString "things") (onL vs) = some (.lst vs) := by kernel_rfl
theorem on_l2 (vs : List V) : q0f (Str.ofString "source") (onL vs) = some (.ref 0) := by kernel_rfl
theorem x1r (vs : List V) : (rF 1059).ns.zip (q6j (rF 1059).ns.length [.ref 0, .lst vs] (rF 1059).dvs) = onL vs := by kernel_rfl
noncomputable def onNP : Pos := exP (clF onN)
theorem x1q : onN = .Call (.Name (Str.ofString "len") onNP) [.Name (Str.ofString "things") (exP (clA onN))] [] (exP onN) := by kernel_rfl
theorem j6w : q2i lk0 ⟨(rF 1059).sc, true⟩ (Str.ofString "len") = .val (.prim (.builtin "len")) := by kernel_rfl
theorem z8s {vs : List V} {k : Nat} {st : St} (hk : k < vs.length) (hm : vs.length < 1000) : subV (.lst vs) (.int k) st = some (true, vs[k]) := by
 have e : vs[k]? = some vs[k] := List.getElem?_eq_getElem hk
 have e2 : seqIndex? (k : Int) vs.length = some k := by
   have n0 : (if (k : Int) < 0 then (k : Int) + vs.length else k) = k := if_neg (Int.not_lt.mpr (Int.natCast_nonneg k))
   show (if (decide (0 <= if (k : Int) < 0 then (k : Int) + vs.length else k) && decide ((if (k : Int) < 0 then (k : Int) + vs.length else k) < vs.length)) = true then some (if (k : Int) < 0 then (k : Int) + vs.length else k).toNat else none) = some k
   refine rwm n0 ?_
   exact if_pos ((Bool.and_eq_true _ _).mpr ⟨decide_eq_true (Int.natCast_nonneg k), decide_eq_true (Int.ofNat_lt.mpr hk)⟩)
 show x2d (some vs) (k : Int) = _
 unfold x2d
 refine rwm (if_pos ⟨Int.le_trans (by decide) (Int.natCast_nonneg k), Int.lt_trans (Int.ofNat_lt.mpr (Nat.lt_trans hk hm)) (by decide)⟩) ?_
 show ((seqIndex? (k : Int) vs.length).bind fun j => (vs[j]?).map fun v => (true, v)) = _
 refine rwm e2 ?_
 show (vs[k]?).map _ = _
 refine rwm e ?_
 rfl
theorem j6y {c : Cx} (B : Bs c) {M : Int} {nx i j : Nat} {vs : List V} {rest : List (Nat × AO)} (h0 : 0 < vs.length) (hm : vs.length < 1000) {d : Nat} {tn : Bool} {Q : V -> St -> Prop} {X : Exc}
   (q : ∀ v ∈ vs, Q v (q1l M (nx + 2) nx (nx + 1) rest)) : q0d c (d + 2) tn (q1l M nx i j rest) (.prim (.ref 1059)) [.ref 0, .lst vs] Q X := by
 have R : FnOk c 1059 (rF 1059) := B.fn rfl rfl
 refine e32 R.is_ fun ds qual cdv hI hds => ?_
 obtain ⟨hcell, hloc⟩ := R.c0 (by kernel_rfl)
 refine q0d.monoX (X := noX) (q42 hI hds R.nd (by show 2 <= (rF 1059).ns.length; decide +kernel) (by show (rF 1059).ns.length <= 2 + (rF 1059).dvs.length; decide +kernel) R.ld hcell hloc R.co R.gen R.kind (fun W0 W0 W0 h => h) fun P h1 h2 h3 h4 h5 h6 h7 => ?_) fun C st' h => h.elim
 have I : PI P ⟨(rF 1059).sc, true⟩ ⟨[], d + 1, tn, true⟩ := ⟨h5, h4, h1, h2, h3, fun W0 => h6, fun W0 => h7⟩
 (refine rwm j6v ?_; refine rwm (x1r _) ?_; refine rwm x1q ?_)
 have hv : ∀ {st : St} {Q : V -> St -> Prop} {pos : Pos}, Q (.lst vs) st -> EvE c P (onL vs) st (.Name (Str.ofString "things") pos) Q noX := fun q => q04 ((q0h I _).trans on_k1) (by refine rwb (q0b _ _) ?_; exact on_l1 vs) q (by decide +kernel)
 refine q1r (q6x (q8z rfl (hv (q5k (f := .ref 1052) (q9a (B.lk0.keep (by kernel_rfl))) rfl (q2j B.lk0 I j6x ⟨rfl, q02 rfl (q04 (v := .ref 0) ((q0h I _).trans on_k2) (by refine rwb (q0b _ _) ?_; exact on_l2 vs) (q02 rfl (q5k (f := .builtin "len") q0w rfl (q2j B.lk0 I j6w ⟨rfl, q02 rfl (hv (q17 (q7j (p := (V.int vs.length, q1l M nx i j rest)) (I.nh.trans rfl) (q0 := true) ?_ rfl (q17 ?_))))⟩))) (by decide +kernel))⟩)))))
 . have e : decide (vs.length <= 1000000) = true := decide_eq_true (Nat.le_trans (Nat.le_of_lt hm) (by decide))
   show z1h (q1l M nx i j rest) (some (decide (vs.length <= 1000000), V.int vs.length)) = _
   refine rwm e ?_
   rfl
 . refine z2v.toP ((q79 B (t := vs.length) (Int.ofNat_lt.mpr h0) (Int.ofNat_lt.mpr (Nat.lt_trans hm (by decide))) fun r r0 r1 => ?_) P _ h1 h2 h3)
   obtain ⟨k, rfl⟩ := Int.eq_ofNat_of_zero_le r0
   have hk : k < vs.length := Int.ofNat_lt.mp r1
   exact q78 (q0 := true) (v := vs[k]) (z8s hk hm) rfl (q _ (List.getElem_mem hk))
noncomputable def dRng (d : Dm) : Option (Int × Int) := Dm.casesOn d (fun W0 => none) fun a b => some (a, b)
theorem z5w {d : Dm} {p : Int × Int} (h : dRng d = some p) : d = .rng p.1 p.2 := by
 induction d using Dm.casesOn with
 | set l => exact ns h
 | rng a b => exact oi h ▸ rfl
noncomputable def j7r (st : St) : Option (Int × List (Nat × AO)) := List.casesOn st.l none fun p rest => (z4n (some p.2)).bind fun vs => (two vs).bind fun w => (q8e w.1).bind fun a => (q8e w.2).bind fun b => (dRng a.2.2).bind fun c => (dRng b.2.2).bind fun d =>
 cond (p.1 == 0 && a.2.1 == 0 && c.1 == 0 && b.2.1 == 0 && d.1 == 0 && d.2 == 2147483647) (some (c.2, rest)) none
theorem srcOf_eq {st : St} {M : Int} {rest : List (Nat × AO)} (h : j7r st = some (M, rest)) : ∃ i j, st = q1l M st.nx i j rest := by
 obtain ⟨nx, l⟩ := st
 induction l using List.casesOn with
 | nil => exact ns h
 | cons p r =>
   refine hid fun hG => ?_
   refine e12 (obi h :) fun vs h1 h => ?_
   refine e12 (obi h :) fun w h2 h => ?_
   refine e12 (obi h :) fun a h3 h => ?_
   refine e12 (obi h :) fun b h4 h => ?_
   refine e12 (obi h :) fun c h5 h => ?_
   refine e12 (obi h :) fun d h6 h => ?_
   obtain ⟨hc, h⟩ := q0c h
   obtain ⟨e, f⟩ := Prod.mk.inj (oi h)
   refine hG ?_
   simp only [Bool.and_eq_true, beq_iff_eq] at hc
   refine ⟨a.1, b.1, ?_⟩
   have hv : vs = j7s M a.1 b.1 := by (refine rwm (two_is h2) ?_; refine rwm (q2z h3) ?_; refine rwm (q2z h4) ?_; refine rwm (z5w h5) ?_; refine rwm (z5w h6) ?_; refine rwm hc.1.1.1.1.2 ?_; refine rwm hc.1.1.1.2 ?_; refine rwm hc.1.1.2 ?_; refine rwm hc.1.2 ?_; refine rwm hc.2 ?_; refine rwm e ?_); rfl
   have hp : p = (0, AO.list vs) := by (refine rwb (oi (q40 h1)) ?_; refine rwb hc.1.1.1.1.1 ?_; rfl)
   (refine rwm hp ?_; refine rwm hv ?_; refine rwm f ?_)
   rfl
noncomputable def drawn (M : Int) (nx : Nat) (rest : List (Nat × AO)) (t : Int) : Out V :=
 cond (t == 3) (.both (.ok (.int 0) (q1l M (nx + 2) nx (nx + 1) rest)) (.ok (.sint (nx + 2) 0 (.rng 1 2)) (q1l M (nx + 3) nx (nx + 1) rest))) (.ok (.sint (nx + 2) 0 (.rng 0 (t - 1))) (q1l M (nx + 3) nx (nx + 1) rest))
noncomputable def j6t : Orc := fun W0 d W0 vs st => Option.casesOn (two vs) .bad fun w => Option.casesOn (vInt w.2) .bad fun t => Option.casesOn (j7r st) .bad fun p => cond (q76 w.1 (.ref 0) && (Nat.ble 1 d && decide (0 < t /\ t < 1000000))) (drawn p.1 st.nx p.2 t) .bad
theorem j1o {c : Cx} (B : Bs c) : q01 c 1052 (.orc j6t) := fun W0 d tn vs st Q X h => by
 refine e12 (sat_opt h :) fun w hw h => ?_
 refine e12 (sat_opt h :) fun t ht h => ?_
 refine ep2 (sat_opt h :) fun M rest hs h => ?_
 obtain ⟨hc, k⟩ := q0s h
 clear h
 rw [Bool.and_eq_true, Bool.and_eq_true, decide_eq_true_eq] at hc
 refine e04 hc fun hv hd ht1 ht2 => ?_
 (refine rwm (two_is hw) ?_; refine rwm (q0p ht) ?_; refine rwm (q2y _ _ hv) ?_)
 clear hw ht hv
 obtain ⟨d, rfl⟩ : ∃ d', d = d' + 1 := ⟨d - 1, (Nat.sub_add_cancel (Nat.le_of_ble_eq_true hd)).symm⟩
 refine e21 (srcOf_eq hs :) fun i j e => ?_
 refine rwm e ?_
 generalize st.nx = nx at *
 dsimp only at k
 unfold drawn at k
 refine z9u (t == 3) (fun h3 => ?_) fun h3 => ?_
 .
   rw [h3] at k
   exact j2l B ht1 ht2 k
 .
   rw [h3] at k
   have h3 := eq_of_beq h3
   obtain ⟨q0, q1⟩ := k
   refine q0d.named (q79 B ht1 ht2 fun r r0 r1 => ?_)
   by_cases hr : r = 0
   . refine rwm hr ?_
     exact .inr (.inr q0)
   . exact .inl ⟨r, .rng 1 2, rfl, (show 1 <= r /\ r <= 2 from ⟨by omega, by omega⟩), q1⟩
noncomputable def j4u (l : List (Out V)) : Out V := List.rec .bad (fun a r ih => List.casesOn r a fun W0 W0 => .both a ih) l
theorem z1r {Q : V -> St -> Prop} {X : Exc} : ∀ {l : List (Out V)}, Sat (j4u l) Q X -> ∀ o ∈ l, Sat o Q X := by
 intro l
 induction l with
 | nil => intro h o ho; exact nomatch ho
 | cons a r ih =>
   intro h o ho
   induction r using List.casesOn with
   | nil =>
     refine rwm (List.mem_singleton.mp ho) ?_
     exact h
   | cons b r =>
     rcases mc ho with rfl | ho
     . exact h.1
     . exact ih h.2 o ho
noncomputable def q98 (a : Int) (l : List Int) : Bool := l.all (· == a)
noncomputable def x1t (M : Int) (nx : Nat) (rest : List (Nat × AO)) (p : List Int) : Out V := match p with
 | [] => .bad
 | a :: r => cond (q98 a r) (.ok (.int a) (q1l M (nx + 2) nx (nx + 1) rest)) (.ok (.sint (nx + 2) 0 (.set (a :: r))) (q1l M (nx + 3) nx (nx + 1) rest))
noncomputable def sbR (env : List (Nat × V)) (n : Nat) : V := Option.rec (.ref n) (fun v => v) (q4q n env)
noncomputable def sbV (env : List (Nat × V)) (v : V) : V := V.rec (motive_1 := fun W0 => V) (motive_2 := fun W0 => List V) (motive_3 := fun W0 => List (Str × V)) (motive_4 := fun W0 => Str × V)
 .none (fun b => .bool b) (fun i => .int i) (fun n k d => .sint n k d) (fun s => .str s) (fun b => .bytes b) (fun b => .sb b) (fun v => .prim v) (fun n => sbR env n) (fun W0 vs => .tup vs) (fun W0 vs => .lst vs) (fun C W0 fs => .ob C fs) (fun ks W0 vs => .dct ks vs) (fun a b c => .rng a b c)
 [] (fun W0 W0 v vs => v :: vs) [] (fun W0 W0 p ps => p :: ps) (fun s W0 v => (s, v)) v
noncomputable def j8x (env : List (Nat × V)) (vs : List V) : List V := vs.map (sbV env)
noncomputable def j8w (env : List (Nat × V)) (fs : List (Str × V)) : List (Str × V) := fs.map fun p => (p.1, sbV env p.2)
noncomputable def j19 (env : List (Nat × V)) (vs : List V) : List V := V.rec_1 (motive_1 := fun W0 => V) (motive_2 := fun W0 => List V) (motive_3 := fun W0 => List (Str × V)) (motive_4 := fun W0 => Str × V)
 .none (fun b => .bool b) (fun i => .int i) (fun n k d => .sint n k d) (fun s => .str s) (fun b => .bytes b) (fun b => .sb b) (fun v => .prim v) (fun n => sbR env n) (fun W0 vs => .tup vs) (fun W0 vs => .lst vs) (fun C W0 fs => .ob C fs) (fun ks W0 vs => .dct ks vs) (fun a b c => .rng a b c)
 [] (fun W0 W0 v vs => v :: vs) [] (fun W0 W0 p ps => p :: ps) (fun s W0 v => (s, v)) vs
noncomputable def j18 (env : List (Nat × V)) (fs : List (Str × V)) : List (Str × V) := V.rec_2 (motive_1 := fun W0 => V) (motive_2 := fun W0 => List V) (motive_3 := fun W0 => List (Str × V)) (motive_4 := fun W0 => Str × V)
 .none (fun b => .bool b) (fun i => .int i) (fun n k d => .sint n k d) (fun s => .str s) (fun b => .bytes b) (fun b => .sb b) (fun v => .prim v) (fun n => sbR env n) (fun W0 vs => .tup vs) (fun W0 vs => .lst vs) (fun C W0 fs => .ob C fs) (fun ks W0 vs => .dct ks vs) (fun a b c => .rng a b c)
 [] (fun W0 W0 v vs => v :: vs) [] (fun W0 W0 p ps => p :: ps) (fun s W0 v => (s, v)) fs
theorem z8n (env : List (Nat × V)) : ∀ vs, j19 env vs = j8x env vs := by
 intro vs
 induction vs with
 | nil => exact rfl
 | cons v vs ih =>
   show sbV env v :: j19 env vs = _
   refine rwm (ih) ?_
   rfl
theorem z8l (env : List (Nat × V)) : ∀ fs, j18 env fs = j8w env fs := by
 intro fs
 induction fs with
 | nil => exact rfl
 | cons q0 fs ih =>
   obtain ⟨s, v⟩ := q0
   show (s, sbV env v) :: j18 env fs = _
   refine rwm (ih) ?_
   rfl
noncomputable def q3g (c : Cx) (g : Gh) (env : List (Nat × V)) : Prop := ∀ n v, q4q n env = some v -> ∃ a d, g.pl n = some (a, d) /\ VR c g v (.ref a)
section
variable {c : Cx} {g : Gh} {env : List (Nat × V)}
theorem sbT {vs : List V} {its : List Value} (r : VRs c g (j8x env vs) its) : VRs c g (j19 env vs) its := by refine rwm (z8n _ _) ?_; exact r
theorem sbD {fs : List (Str × V)} {es : List DictEntry} (r : DR c g (j8w env fs) es) : DR c g (j18 env fs) es := by refine rwm (z8l _ _) ?_; exact r
theorem VR.sub_ref (h : q3g c g env) {n : Nat} {a d : Addr} (k : g.pl n = some (a, d)) : VR c g (sbV env (.ref n)) (.ref a) := by
 show VR c g (Option.rec (.ref n) (fun v => v) (q4q n env)) _
 refine q1v (q4q n env) (fun e => ?_) fun v e => ?_
 . exact .ref k
 .
   refine e22 (h n v e :) fun a' d' k' r => ?_
   rw [(Prod.mk.inj (oi (k'.symm.trans k))).1] at r
   exact r
theorem VR.sub (h : q3g c g env) {v : V} {x : Value} (r : VR c g v x) : VR c g (sbV env v) x :=
 VR.rec (motive_1 := fun v x W0 => VR c g (sbV env v) x) (motive_2 := fun v x W0 => VRs c g (j8x env v) x) (motive_3 := fun v x W0 => DR c g (j8w env v) x) .none .bool .int .sint .str .bytes .sb .prim (fun k => VR.sub_ref h k) (fun k W0 r => .tup k (sbT r)) (fun k W0 r => .lst k (sbT r)) (fun k k' W0 r => .ob k k' (sbD r)) .rng (fun k e W0 r => .dct k e (sbT r)) .nil (fun W0 W0 h r => .cons h r) .nil (fun W0 W0 h r => .cons h r) r
theorem VRs.sub (h : q3g c g env) {v : List V} {x : List Value} (r : VRs c g v x) : VRs c g (j8x env v) x :=
 VRs.rec (motive_1 := fun v x W0 => VR c g (sbV env v) x) (motive_2 := fun v x W0 => VRs c g (j8x env v) x) (motive_3 := fun v x W0 => DR c g (j8w env v) x) .none .bool .int .sint .str .bytes .sb .prim (fun k => VR.sub_ref h k) (fun k W0 r => .tup k (sbT r)) (fun k W0 r => .lst k (sbT r)) (fun k k' W0 r => .ob k k' (sbD r)) .rng (fun k e W0 r => .dct k e (sbT r)) .nil (fun W0 W0 h r => .cons h r) .nil (fun W0 W0 h r => .cons h r) r
theorem DR.sub (h : q3g c g env) {v : List (Str × V)} {x : List DictEntry} (r : DR c g v x) : DR c g (j8w env v) x :=
 DR.rec (motive_1 := fun v x W0 => VR c g (sbV env v) x) (motive_2 := fun v x W0 => VRs c g (j8x env v) x) (motive_3 := fun v x W0 => DR c g (j8w env v) x) .none .bool .int .sint .str .bytes .sb .prim (fun k => VR.sub_ref h k) (fun k W0 r => .tup k (sbT r)) (fun k W0 r => .lst k (sbT r)) (fun k k' W0 r => .ob k k' (sbD r)) .rng (fun k e W0 r => .dct k e (sbT r)) .nil (fun W0 W0 h r => .cons h r) .nil (fun W0 W0 h r => .cons h r) r
theorem q3g.mono {g' : Gh} (l : g.le g') (h : q3g c g env) : q3g c g' env := fun n v e => by
 refine e22 (h n v e :) fun a d k r => ?_
 exact ⟨a, d, l.pl _ _ k, r.mono l⟩
end
noncomputable def sbA (env : List (Nat × V)) (o : AO) : AO := match o with
 | .list vs => .list (j19 env vs)
 | .inst C fs => .inst C (j18 env fs)
 | .cell (some v) => .cell (some (sbV env v))
 | o => o
noncomputable def St.sub (env : List (Nat × V)) (st : St) : St := ⟨st.nx, st.l.map fun p => (p.1, sbA env p.2)⟩
theorem z3s (env : List (Nat × V)) (n : Nat) : ∀ l : List (Nat × AO), (l.map fun p => (p.1, sbA env p.2)).lookup n = (l.lookup n).map (sbA env) := by
 intro l
 induction l with
 | nil => exact rfl
 | cons p l ih =>
   (refine rwm List.map_cons ?_; refine rwm List.lookup_cons ?_; refine rwm List.lookup_cons ?_)
   cases n == p.1 with
   | true => rfl
   | false => exact ih
theorem j54 {env : List (Nat × V)} {st : St} {n : Nat} : (st.sub env).get n = (st.get n).map (sbA env) := by
 unfold St.get
 (refine rwm (q1k _ _) ?_; refine rwm (q1k _ _) ?_)
 exact z3s env n st.l
theorem ORel.sub {c : Cx} {g : Gh} {env : List (Nat × V)} {news : List (Addr × Obj)} {o : AO} {a d : Addr} (h : q3g c g env) (r : ORel c g news o a d) : ORel c g news (sbA env o) a d := by
 cases r with
 | list hm r => exact .list hm (by refine rwm (z8n _ _) ?_; exact r.sub h)
 | inst n hm hm' r => exact .inst n hm hm' (by refine rwm (z8l _ _) ?_; exact r.sub h)
 | cell0 hm e => exact .cell0 hm e
 | cell hm e r => exact .cell hm e (r.sub h)
 | tab hm r p s => exact .tab hm r p s
theorem HK.sub {c : Cx} {g : Gh} {env : List (Nat × V)} {st : St} {pv news : List (Addr × Obj)} (h : q3g c g env) (H : HK c g st pv news) : HK c g (st.sub env) pv news := by
 have back : ∀ {n o}, (st.sub env).get n = some o -> ∃ o', st.get n = some o' /\ o = sbA env o' := fun {n o} e => by
   rw [j54] at e
   refine e12 (omi e :) fun o' e1 e2 => ?_
   exact ⟨o', e1, e2.symm⟩
 refine ⟨H.kni, H.pvi, fun n o e => ?_, fun n o a d e k => ?_, fun n n' o o' a d a' d' hn e e' k k' => ?_, H.fin, H.pk⟩
 . (refine e12 (back e :) fun o' e1 r => ?_; refine rwm r ?_)
   refine e22 (H.own n o' e1 :) fun a d k r => ?_
   exact ⟨a, d, k, r.sub h⟩
 . (refine e12 (back e :) fun o' e1 r => ?_; refine rwm r ?_)
   exact H.off n o' a d e1 k
 . (refine e12 (back e :) fun o1 e1 r => ?_; refine rwm r ?_)
   (refine e12 (back e' :) fun o2 e2 r => ?_; refine rwm r ?_)
   exact H.apart n n' o1 o2 a d a' d' hn e1 e2 k k'
noncomputable def j0z (ns : List Nat) : List (Nat × V) -> St -> Option (List (Nat × V) × St) := List.rec (fun env st => some (env, st)) (fun n W0 ih env st => match st.get n with
 | some (.inst C fs) => ih ((n, sbV env (.ob C fs)) :: env) (st.del n)
 | some (.list vs) => ih ((n, sbV env (.lst vs)) :: env) (st.del n)
 | _ => none) ns
noncomputable def frzAll (ns : List Nat) (v : V) (st : St) : Out V := match j0z ns [] st with
 | some (env, st') => .ok (sbV env v) (st'.sub env)
 | none => .bad
section
variable {c : Cx} {P : Pt} {ρ : Loc} {pv news : List (Addr × Obj)} {m ns : Str -> Option Value} {h0 h : Heap}
theorem z3q {α : Type} (n k : Nat) (v : α) (l : List (Nat × α)) : q4q n ((k, v) :: l) = if n = k then some v else q4q n l := by
 show cond (Nat.beq n k) (some v) (q4q n l) = _
 by_cases e : n = k
 . (refine rwm (if_pos e) ?_; refine rwm (show Nat.beq n k = true by refine rwm Nat.beq_eq ?_; exact e) ?_); rfl
 . (refine rwm (if_neg e) ?_; refine rwm (show Nat.beq n k = false by rw [<- Bool.not_eq_true, Nat.beq_eq]; exact e) ?_); rfl
theorem q3g.cons {g : Gh} {env : List (Nat × V)} {n : Nat} {v : V} {a d : Addr} (h : q3g c g env) (hp : g.pl n = some (a, d)) (hv : VR c g v (.ref a)) : q3g c g ((n, v) :: env) := fun i w e => by
 rw [z3q] at e
 split at e
 . rename_i q
   cases e
   subst q
   exact ⟨a, d, hp, hv⟩
 . exact h i w e
theorem j00 : ∀ {ns : List Nat} {env env' : List (Nat × V)} {st st' : St} {g : Gh}, q3g c g env -> HK c g st pv news -> j0z ns env st = some (env', st') -> ∃ g', g.le g' /\ q3g c g' env' /\ HK c g' st' pv news := by
 intro ns
 induction ns with
 | nil => intro env env' st st' g h H e; cases e; exact ⟨g, .rfl, h, H⟩
 | cons n ns ih =>
   intro env env' st st' g h H e
   change (match st.get n with
     | some (.inst C fs) => j0z ns ((n, sbV env (.ob C fs)) :: env) (st.del n)
     | some (.list vs) => j0z ns ((n, sbV env (.lst vs)) :: env) (st.del n)
     | _ => none) = _ at e
   split at e
   . rename_i C fs hx
     refine e34 (H.freezeInst hx :) fun g1 a d l hp H1 r => ?_
     have h1 := h.mono l
     refine e13 (ih (h1.cons (l.pl _ _ hp) (r.sub h1)) H1 e :) fun g2 l2 h2 H2 => ?_
     exact ⟨g2, l.trans l2, h2, H2⟩
   . rename_i vs hx
     refine e24 (H.freezeList hx :) fun g1 a l hp H1 r => ?_
     have h1 := h.mono l
     refine e13 (ih (h1.cons (l.pl _ _ hp) (r.sub h1)) H1 e :) fun g2 l2 h2 H2 => ?_
     exact ⟨g2, l.trans l2, h2, H2⟩
   . exact zns e
end
theorem q0d.frzAll {c : Cx} {d : Nat} {tn : Bool} {st : St} {f : V} {vs : List V} {Q : V -> St -> Prop} {X X' : Exc} {ns : List Nat} (h : q0d c d tn st f vs (fun v st' => Sat (Mine.frzAll ns v st') Q X') X) : q0d c d tn st f vs Q X :=
 fun P ρ h1 h2 h3 g pv m ns' news h0 s x xs R a hf hxs K => h P ρ h1 h2 h3 g pv m ns' news h0 s x xs R a hf hxs ⟨fun g' news' h0' h' tk x v st' l mv a' r q => by
   unfold Mine.frzAll at q
   split at q
   . rename_i env st2 e
     refine e13 (j00 (env := []) (fun n v e => nomatch e) a'.hk e :) fun g2 l2 h2 H2 => ?_
     have a2 := a'.renew l2 a'.fr a'.nw (H2.sub h2)
     exact K.ok g2 news' h0' h' tk _ _ _ (l.trans l2) mv a2 ((r.mono l2).sub h2) q
   . exact q.elim, K.ex⟩
noncomputable def x0o (a : Int) (mtu : V) : V := .ob 741 [(Str.ofString "address", .int a), (Str.ofString "prefix", .int 8), (Str.ofString "mtu", mtu)]
noncomputable def z7o : V := .lst [j6q 33 34 [.int 0] [.int 16777218], j6q 69 70 [.int 0, .int 1] [.int 16777217, .int 33554433], j6q 99 100 [.int 1] [.int 33554434]]
noncomputable def z7n (mtu : V) : St := ⟨103, [
 (31, reA 32), (32, .tab [] none), (33, ipA [x0n 16777218 1500] j7h 31 false 0), (34, icA 35 36), (35, .list []), (36, .list []),
 (67, reA 68), (68, .tab [] none), (69, ipA [x0n 16777217 1500, x0o 33554433 mtu] q2d 67 true 0), (70, icA 71 72), (71, .list []), (72, .list []),
 (97, reA 98), (98, .tab [] none), (99, ipA [x0o 33554434 mtu] q52 97 false 0), (100, icA 101 102), (101, .list []), (102, .list [])]⟩
noncomputable def z18 : List Nat := [94, 93, 92, 91, 90, 89, 88, 87, 86, 85, 84, 83, 82, 81, 80, 79, 76, 75, 74, 66, 65, 64, 63, 60, 59, 58, 57, 56, 55, 54, 53, 52, 51, 50, 49, 48, 47, 46, 45, 42, 41, 40, 28, 27, 26, 25, 24, 23, 22, 21, 20, 19, 18, 17, 16, 15, 14, 13, 10, 9, 8]
theorem z3t (i : Int) (d : Nat) : (q0r lk0 (q0q lk0 false 40) (d + 20) true (rF 1118) [.int i] ⟨7, []⟩).noEx (frzAll z18) = .ok z7o (z7n (.int i)) := by kernel_rfl
theorem z3u (n : Nat) (k : Int) (dm : Dm) (d : Nat) : (q0r lk0 (q0q lk0 false 40) (d + 20) true (rF 1118) [.sint n k dm] ⟨7, []⟩).noEx (frzAll z18) = .ok z7o (z7n (.sint n k dm)) := by kernel_rfl
noncomputable def z7q : Orc := fun W0 d tn vs st => Option.casesOn (one vs) .bad fun v => Option.casesOn (vz v) .bad fun W0 => cond (tn && Nat.ble 21 d && Nat.beq st.nx 7 && st.l.isEmpty) (.ok z7o (z7n v)) .bad
theorem j7l {r : Out V} {ns : List Nat} {w : V} {st' : St} {Q : V -> St -> Prop} (e : r.noEx (frzAll ns) = .ok w st') (q : Q w st') : Sat r (fun v st => Sat (frzAll ns v st) Q noX) noX :=
 q08 (X := noX) (by refine rwm e ?_; exact q)
theorem z9z {c : Cx} (B : Bs c) {r : FnRec} {a : Addr} (R : FnOk c a r) {n : Nat} {vs : List V} {w : V} {d : Nat} {Q : V -> St -> Prop} {X : Exc} {st st' : St} {ns : List Nat} (e : (q0r lk0 (q0q lk0 false n) d true r vs st).noEx (frzAll ns) = .ok w st') (q : Q w st') : q0d c (d + 1) true st (.prim (.ref a)) vs Q X :=
 q0d.frzAll (X' := noX) (ns := ns) (q0g (vc := false) (n := n) B.lk0 R (j7l e q))
theorem z19 {c : Cx} (B : Bs c) {v w : V} {d : Nat} {Q : V -> St -> Prop} {X : Exc} {st' : St} (e : (q0r lk0 (q0q lk0 false 40) (d + 20) true (rF 1118) [v] ⟨7, []⟩).noEx (frzAll z18) = .ok w st') (q : Q w st') : q0d c (d + 21) true ⟨7, []⟩ (.prim (.ref 1118)) [v] Q X :=
 z9z (c := c) B (r := rF 1118) (a := 1118) (B.fn rfl rfl) (n := 40) (vs := [v]) (w := w) (d := d + 20) (Q := Q) (X := X) (st := ⟨7, []⟩) (st' := st') (ns := z18) e q
theorem z7r {c : Cx} (B : Bs c) : q01 c 1118 (.orc z7q) := fun W0 d tn vs st Q X h => by
 refine e12 (sat_opt h :) fun v hv h => ?_
 refine e12 (sat_opt h :) fun z hz h => ?_
 obtain ⟨hc, q⟩ := q0s h
 rw [Bool.and_eq_true, Bool.and_eq_true, Bool.and_eq_true] at hc
 have hst : st = ⟨7, []⟩ := by
   (refine rwb (Nat.eq_of_beq_eq_true hc.1.2) ?_; refine rwb (List.isEmpty_iff.mp hc.2) ?_; rfl)
 obtain ⟨d', rfl⟩ : ∃ d', d = d' + 21 := ⟨d - 21, (Nat.sub_add_cancel (Nat.le_of_ble_eq_true hc.1.1.2)).symm⟩
 (refine rwm hst ?_; refine rwm hc.1.1.1 ?_; refine rwm (q0y hv) ?_)
 rw [z1g hz] at q ⊢
 induction z using Z.casesOn with
 | c i => exact z19 B (z3t _ _) q
 | s n k dm => exact z19 B (z3u _ _ _ _) q
noncomputable def z0t (key : Int -> Int) (l : List Int) : List Int := List.rec [] (fun a W0 ih => cond (ih.any (· == key a)) ih (key a :: ih)) l
theorem z7g {key : Int -> Int} : ∀ {l : List Int} {a : Int}, a ∈ l -> key a ∈ z0t key l := by
 intro l
 induction l with
 | nil => intro a h; exact nomatch h
 | cons b l ih =>
   intro a h
   show key a ∈ cond ((z0t key l).any (· == key b)) (z0t key l) (key b :: z0t key l)
   rcases mc h with rfl | h
   . refine q27 ((z0t key l).any (· == key a)) (fun e => ?_) fun e => ?_
     .
       refine e12 (List.any_eq_true.mp e :) fun x hx hb => ?_
       refine rwb (eq_of_beq hb) ?_
       exact hx
     . exact .head _
   . refine q27 ((z0t key l).any (· == key b)) (fun e => ?_) fun e => ?_
     . exact ih h
     . exact .tail _ (ih h)
noncomputable def j67 (key : Int -> Int) (l : List Int) (k : Int) : List Int := l.filter fun a => key a == k
noncomputable def j6g (l : List Int) (a : Int) : Int := cond (l.any (· == 8)) a 0
noncomputable def j7v (l : List V) : Option (List Str) := List.rec (some []) (fun v W0 ih => (vStr v).bind fun i => ih.map (i :: ·)) l
theorem j2f {vs : List V} : ∀ {ss : List Str}, j7v vs = some ss -> vs = ss.map .str := by
 induction vs with
 | nil => exact fun h => oi h ▸ rfl
 | cons v vs ih =>
   intro ss h
   refine e12 (obi h :) fun i h1 h => ?_
   (refine e12 (omi h :) fun l h2 r => ?_; refine rwb r ?_)
   (refine rwm (z1f h1) ?_; refine rwm (ih h2) ?_)
   rfl
noncomputable def j3b (l : List Str) : List Str := List.rec [] (fun a W0 ih => cond (z9d a ih) ih (a :: ih)) l
theorem j0a : ∀ {l : List Str} {a : Str}, a ∈ l -> a ∈ j3b l := by
 intro l
 induction l with
 | nil => intro a h; exact nomatch h
 | cons b l ih =>
   intro a h
   show a ∈ cond (z9d b (j3b l)) (j3b l) (b :: j3b l)
   rcases mc h with rfl | h
   . refine q27 (z9d a (j3b l)) (fun e => ?_) fun e => ?_
     .
       rw [z62] at e
       show a ∈ j3b l
       simpa using e
     . exact .head _
   . refine q27 (z9d b (j3b l)) (fun e => ?_) fun e => ?_
     . exact ih h
     . exact .tail _ (ih h)
noncomputable def x1l (M : Int) (nx : Nat) (rest : List (Nat × AO)) (vs : List V) : Out V := match q3a vs with
 | some is => j4u ((z0t (j6g is) is).map fun k => x1t M nx rest (j67 (j6g is) is k))
 | none => (match j7v vs with
   | some ss => j4u ((j3b ss).map fun s => .ok (.str s) (q1l M (nx + 2) nx (nx + 1) rest))
   | none => .bad)
noncomputable def j6s : Orc := fun W0 d W0 vs st => Option.casesOn (two vs) .bad fun w => Option.casesOn (j8f w.2) .bad fun us => Option.casesOn (j7r st) .bad fun p => cond (q76 w.1 (.ref 0) && (Nat.ble 2 d && decide (0 < us.length /\ us.length < 1000))) (x1l p.1 st.nx p.2 us) .bad
theorem j1n {c : Cx} (B : Bs c) : q01 c 1059 (.orc j6s) := fun W0 d tn vs st Q X h => by
 refine e12 (sat_opt h :) fun w hw h => ?_
 refine e12 (sat_opt h :) fun us ht h => ?_
 refine ep2 (sat_opt h :) fun M rest hs h => ?_
 obtain ⟨hc, k⟩ := q0s h
 clear h
 rw [Bool.and_eq_true, Bool.and_eq_true, decide_eq_true_eq] at hc
 refine e04 hc fun hv hd ht1 ht2 => ?_
 (refine rwm (two_is hw) ?_; refine rwm (q8d ht) ?_; refine rwm (q2y _ _ hv) ?_)
 clear hw ht hv
 obtain ⟨d, rfl⟩ : ∃ d', d = d' + 2 := ⟨d - 2, (Nat.sub_add_cancel (Nat.le_of_ble_eq_true hd)).symm⟩
 refine e21 (srcOf_eq hs :) fun i j e => ?_
 refine rwm e ?_
 generalize st.nx = nx at *
 dsimp only at k
 refine q0d.named (j6y B ht1 ht2 fun v hv => ?_)
 unfold x1l at k
 refine z3w (q3a us) (fun is hi => ?_) fun hi => ?_
 . rw [hi] at k
   rw [q2u hi] at hv
   (refine e12 (List.mem_map.mp hv :) fun w hw r => ?_; refine rwb r ?_)
   have k := z1r k _ (List.mem_map.mpr ⟨j6g is w, z7g hw, rfl⟩)
   have hm : w ∈ j67 (j6g is) is (j6g is w) := List.mem_filter.mpr ⟨hw, beq_self_eq_true _⟩
   generalize j67 (j6g is) is (j6g is w) = p at *
   induction p using List.casesOn with
   | nil => cases hm
   | cons a r =>
     change Sat (cond (q98 a r) _ _) Q X at k
     refine q27 (q98 a r) (fun ha => ?_) fun ha => ?_
     .
       rw [ha] at k
       have : w = a := by
         rcases mc hm with rfl | hm
         . rfl
         . exact eq_of_beq (aet ha w hm)
       refine rwm this ?_
       exact .inr (.inr k)
     .
       rw [ha] at k
       exact .inl ⟨w, .set (a :: r), rfl, hm, k⟩
 . rw [hi] at k
   dsimp only at k
   refine z3w (j7v us) (fun ss hss => ?_) fun hss => ?_
   . rw [hss] at k
     rw [j2f hss] at hv
     (refine e12 (List.mem_map.mp hv :) fun w hw r => ?_; refine rwb r ?_)
     exact .inr (.inr (z1r k _ (List.mem_map.mpr ⟨w, j0a hw, rfl⟩)))
   . rw [hss] at k; exact k.elim
theorem j5f (a b : Int) (st : St) (d : Nat) (tn : Bool) : q0r lk0 (q0q lk0 true 12) d tn (rF 226) [.int a, .int b] st = (.need (decide ((0 : Int) <= a)) (.need (decide (a < (65536 : Int))) (.need (decide ((0 : Int) <= b)) (.need (decide (b < (65536 : Int))) (.need (decide (Builtin.Int.intBits a <= (64 : Nat))) (.need .true (.ok (.int (a * (65536 : Int) + b)) (st)))))))) := by kernel_rfl
theorem j5g {c : Cx} (B : Bs c) {a b : Int} {st : St} {d : Nat} {tn : Bool} {Q : V -> St -> Prop} {X : Exc} (ha : 0 <= a /\ a < 65536) (hb : 0 <= b /\ b < 65536) (q : Q (.int (a * 65536 + b)) st) : q0d c (d + 1) tn st (.prim (.ref 226)) [.int a, .int b] Q X := by
 refine q0g (vc := true) (n := 12) (d := d) B.lk0 (B.fn rfl rfl) ?_
 rw [j5f]
 exact ⟨decide_eq_true ha.1, decide_eq_true ha.2, decide_eq_true hb.1, decide_eq_true hb.2, decide_eq_true (PySem.intBits_le_64 (by omega) (by omega)), rfl, q⟩
theorem q0d.ints2 {c : Cx} {d : Nat} {tn : Bool} {st : St} {f : V} {n m : Nat} {k l : Int} {d1 d2 : Dm} {Q : V -> St -> Prop} {X : Exc} (h : ∀ i j, d1.Has i -> d2.Has j -> q0d c d tn st f [.int (i + k), .int (j + l)] Q X) : q0d c d tn st f [.sint n k d1, .sint m l d2] Q X :=
 fun P ρ h1 h2 h3 g pv mm ns news h0 s x xs R a hf hxs K => by
   (refine e23 hxs.twoI fun y z r => ?_; refine rwm r ?_; intro r1 r2)
   obtain ⟨i, t, rfl, j, e1, rfl, hj⟩ := r1.sintI
   obtain ⟨i', t', rfl, j', e2, rfl, hj'⟩ := r2.sintI
   exact h j j' hj hj' P ρ h1 h2 h3 g pv mm ns news h0 s x _ R a hf (.cons (.int _ _) (.cons (.int _ _) .nil)) K
theorem z5z {lo hi k i : Int} {d : Dm} (h : j95 lo hi k d = true) (hi' : d.Has i) : lo <= i + k /\ i + k <= hi := by
 induction d using Dm.casesOn with
 | set l => exact of_decide_eq_true (aet h i hi')
 | rng a b =>
   have := of_decide_eq_true h
   exact ⟨Int.le_trans this.1 (Int.add_le_add_right hi'.1 k), Int.le_trans (Int.add_le_add_right hi'.2 k) this.2⟩
noncomputable def j6r : Orc := fun W0 d W0 vs st => Option.casesOn (two vs) .bad fun w => Option.casesOn (q8e w.1) .bad fun x => Option.casesOn (q8e w.2) .bad fun y => cond (Nat.ble 1 d && j95 0 65535 x.2.1 x.2.2 && j95 0 65535 y.2.1 y.2.2) (.ok (.sint st.nx 0 (.rng 0 4294967295)) st.nxt) .bad
theorem j1m {c : Cx} (B : Bs c) : q01 c 226 (.orc j6r) := fun W0 d tn vs st Q X h => by
 refine e12 (sat_opt h :) fun w hw h => ?_
 refine e12 (sat_opt h :) fun x hx h => ?_
 refine e12 (sat_opt h :) fun y hy h => ?_
 obtain ⟨hc, q⟩ := q0s h
 rw [Bool.and_eq_true, Bool.and_eq_true] at hc
 (refine rwm (two_is hw) ?_; refine rwm (q2z hx) ?_; refine rwm (q2z hy) ?_)
 clear hw hx hy h
 obtain ⟨d', rfl⟩ : ∃ d', d = d' + 1 := ⟨d - 1, (Nat.sub_add_cancel (Nat.le_of_ble_eq_true hc.1.1)).symm⟩
 refine q0d.named (q0d.ints2 fun i j hi hj => ?_)
 have h1 := z5z hc.1.2 hi
 have h2 := z5z hc.2 hj
 exact j5g B ⟨h1.1, Int.lt_add_one_of_le h1.2⟩ ⟨h2.1, Int.lt_add_one_of_le h2.2⟩ (.inl ⟨_, .rng 0 4294967295, rfl, ⟨by omega, by omega⟩, q⟩)
noncomputable def j6z : Tr Orc := .nd (.nd (.nd .lf 212 (room 7 q2n) .lf) 226 j6r .lf) 325 (room 7 q54) (.nd (.nd .lf 1052 j6t .lf) 1059 j6s .lf)
noncomputable def lkP : Lk := tabs.lk j6z
theorem z3y : j6z.list = [(212, room 7 q2n), (226, j6r), (325, room 7 q54), (1052, j6t), (1059, j6s)] := rfl
theorem Bs.lkP {c : Cx} (B : Bs c) : LkOk c lkP := by
 refine B.lk (orc := j6z) ?_ (by kernel_rfl)
 refine rwm z3y ?_
 exact .cons (q4h B) (.cons (j1m B) (.cons (q65 B) (.cons (j1o B) (.cons (j1n B) .nil))))
noncomputable def q92 : FnRec := q03 (j78 2) [] []
noncomputable def z4e : Sx := ⟨q92.sc, true⟩
noncomputable def z0u : List Stmt := match q92.body with
 | [.For _ _ b _ _, _] => b
 | _ => []
noncomputable def bcS (i : Nat) : CS := ((q1p lk0 (rF 555))[i]?).getD .bad
noncomputable def bcL (a n : Int) : Loc := [((Str.ofString "address"), .int a), ((Str.ofString "net"), .int n), ((Str.ofString "prefix"), .int 8)]
noncomputable def j9b (n : Int) : Int := Builtin.bitAnd n ((4294967295 : Int) - ((2 : Int) ^ ((32 : Int) - (8 : Int)).toNat - (1 : Int))) + ((4294967295 : Int) - ((4294967295 : Int) - ((2 : Int) ^ ((32 : Int) - (8 : Int)).toNat - (1 : Int))))
theorem j4f (a n : Int) (st : St) (d : Nat) (tn : Bool) : (q0q lk0 true 25).evT ⟨[], d + 2, tn, true⟩ (bcS 0).ifT (bcL a n) st = .ok (a == 4294967295) st := by kernel_rfl
theorem j4e (a n : Int) (st : St) (d : Nat) (tn : Bool) : q12 (q0q lk0 true 26) ⟨[], d + 2, tn, true⟩ ((q1p lk0 (rF 555)).drop 1) (bcL a n) st = (.need .true (.need .true (.need .true (.need .true (.need .true (.need .true (.need .true (.need .true (.need .true (.need .true (.need .true (.need .true (.need .true (.need .true (.need .true (.need .true (.ok (.ret (.bool (a == j9b n)), bcL a n) st))))))))))))))))) := by kernel_rfl
theorem j4g (a n : Int) (st : St) (d : Nat) (tn : Bool) : q12 (q0q lk0 true 25) ⟨[], d + 2, tn, true⟩ (bcS 0).thenB (bcL a n) st = .ok (.ret (.bool true), bcL a n) st := by kernel_rfl
theorem j4d (a n : Int) (st : St) (d : Nat) (tn : Bool) : q0r lk0 (q0q lk0 true 26) (d + 2) tn (rF 555) [.int a, .int n, .int 8] st = (q12 (q0q lk0 true 26) ⟨[], d + 2, tn, true⟩ (.ifs (bcS 0).ifT (bcS 0).thenB [] :: (q1p lk0 (rF 555)).drop 1) (bcL a n) st).bind z79 := q18 (by kernel_rfl) (by kernel_rfl) (by kernel_rfl) (by kernel_rfl)
theorem j9c : j8q (bcS 0).thenB = false := by kernel_rfl
noncomputable def j02 (n a : Int) : Bool := cond (a == 4294967295) true (a == j9b n)
theorem j9d {c : Cx} (B : Bs c) {a n : Int} {d : Nat} {tn : Bool} {st : St} {Q : V -> St -> Prop} {X : Exc} (q : Q (.bool (j02 n a)) st) : q0d c (d + 3) tn st (.prim (.ref 555)) [.int a, .int n, .int 8] Q X := by
 refine q0g (vc := true) (n := 26) (d := d + 2) B.lk0 (B.fn rfl rfl) ?_
 rw [j4d]
 refine q1d (q3n (z0r (n := 25) j9c ?_))
 rw [j4f]
 unfold j02 at q
 show Sat (cond (a == 4294967295) _ _) _ _
 refine q27 (a == (4294967295 : Int)) (fun h => ?_) fun h => ?_
 .
   rw [h] at q
   (refine rwm q2l ?_; rewrite [j4g])
   exact q
 .
   rw [h] at q
   (refine rwm q13 ?_; refine rwm q7r ?_)
   simp only [q56, q16]
   rw [j4e]
   exact ⟨rfl, rfl, rfl, rfl, rfl, rfl, rfl, rfl, rfl, rfl, rfl, rfl, rfl, rfl, rfl, rfl, q⟩
noncomputable def z8e (vs : List V) (st : St) : Option (V × St) := (three vs).bind fun q => (vInt q.2.1).bind fun n => (vInt q.2.2).bind fun p => cond (p == 8) (((vz q.1).bind (allZ fun a => some (j02 n a))).map fun b => (.bool b, st)) none
theorem z8f {c : Cx} (B : Bs c) : q01 c 555 (.orc (room 3 z8e)) := q11 fun d tn vs st v st' Q X e q => by
 refine hid fun hG => ?_
 obtain ⟨⟨w, n', p'⟩, e1, e⟩ := obi e
 refine e12 (obi e :) fun n e2 e => ?_
 refine e12 (obi e :) fun p e3 e => ?_
 obtain ⟨hp, e⟩ := q0c e
 refine e12 (omi e :) fun b hb e => ?_
 refine e12 (obi hb :) fun z hz hb => ?_
 refine hG ?_
 obtain ⟨rfl, rfl⟩ := Prod.mk.inj e
 (refine rwm (q30 e1) ?_; refine rwm (show w = _ from z1g hz) ?_; refine rwm (show n' = _ from q0p e2) ?_; refine rwm (show p' = _ from q0p e3) ?_; refine rwm (eq_of_beq hp) ?_)
 refine q0d.conv fun g xs R => ?_
 (refine e23 R.consI fun y ys r => ?_; subst r; intro r rs)
 (refine e22 r.zI fun i t r => ?_; subst r; intro zr)
 have hi := oi (q99 (f := fun a => some (j02 n a)) hb zr)
 exact ⟨[.int i, .int n, .int 8], .cons (.int _ _) rs, j9d B fun g' y le vr => ⟨_, vr, by refine rwm hi ?_; exact q⟩⟩
noncomputable def rtK (i : Nat) : V := match i with
 | 0 => .none
 | 1 => rtV 16777216 8 0 0
 | 2 => rtV 33554432 8 0 1
 | _ => rtV 0 0 33554433 0
noncomputable def rtsK (k : Nat) : V := match k with
 | 1 => q2d
 | _ => q52
noncomputable def z6p : List (Nat × Int × Nat) := [(1, 33554434, 2), (1, 50331647, 2), (1, 33554531, 2), (1, 150994949, 0), (1, 16777218, 1), (2, 16777218, 3)]
noncomputable def j5z (k : Nat) (a : Int) : Option Nat := List.rec none (fun p W0 ih => cond (Nat.beq p.1 k && p.2.1 == a) (some p.2.2) ih) z6p
theorem fd1 (d : Nat) (st : St) : ∀ tn : Bool, q0r lk0 (q0q lk0 false 60) (d + 10) tn (rF 710) [q2d, .int 33554434] st = .ok (rtK 2) st := fun tn => by induction tn using Bool.casesOn <;> kernel_rfl
theorem fd2 (d : Nat) (st : St) : ∀ tn : Bool, q0r lk0 (q0q lk0 false 60) (d + 10) tn (rF 710) [q2d, .int 50331647] st = .ok (rtK 2) st := fun tn => by induction tn using Bool.casesOn <;> kernel_rfl
theorem fd3 (d : Nat) (st : St) : ∀ tn : Bool, q0r lk0 (q0q lk0 false 60) (d + 10) tn (rF 710) [q2d, .int 33554531] st = .ok (rtK 2) st := fun tn => by induction tn using Bool.casesOn <;> kernel_rfl
theorem fd4 (d : Nat) (st : St) : ∀ tn : Bool, q0r lk0 (q0q lk0 false 60) (d + 10) tn (rF 710) [q2d, .int 150994949] st = .ok (rtK 0) st := fun tn => by induction tn using Bool.casesOn <;> kernel_rfl
theorem fd5 (d : Nat) (st : St) : ∀ tn : Bool, q0r lk0 (q0q lk0 false 60) (d + 10) tn (rF 710) [q2d, .int 16777218] st = .ok (rtK 1) st := fun tn => by induction tn using Bool.casesOn <;> kernel_rfl
theorem fd6 (d : Nat) (st : St) : ∀ tn : Bool, q0r lk0 (q0q lk0 false 60) (d + 10) tn (rF 710) [q52, .int 16777218] st = .ok (rtK 3) st := fun tn => by induction tn using Bool.casesOn <;> kernel_rfl
theorem j0v {c : Cx} (B : Bs c) {d : Nat} {tn : Bool} {st : St} {Q : V -> St -> Prop} {X : Exc} : ∀ p ∈ z6p, Q (rtK p.2.2) st -> q0d c (d + 11) tn st (.prim (.ref 710)) [rtsK p.1, .int p.2.1] Q X := by
 have go : ∀ {k : V} {a : Int} {i : Nat}, q0r lk0 (q0q lk0 false 60) (d + 10) tn (rF 710) [k, .int a] st = .ok (rtK i) st -> Q (rtK i) st -> q0d c (d + 11) tn st (.prim (.ref 710)) [k, .int a] Q X := fun {k a i} e q =>
   q0g (vc := false) (n := 60) (d := d + 10) B.lk0 (B.fn rfl rfl) (by refine rwm e ?_; exact q)
 intro p hp q
 unfold z6p at hp
 rcases mc hp with rfl | hp
 . exact go (fd1 _ _ _) q
 rcases mc hp with rfl | hp
 . exact go (fd2 _ _ _) q
 rcases mc hp with rfl | hp
 . exact go (fd3 _ _ _) q
 rcases mc hp with rfl | hp
 . exact go (fd4 _ _ _) q
 rcases mc hp with rfl | hp
 . exact go (fd5 _ _ _) q
 rcases mc hp with rfl | hp
 . exact go (fd6 _ _ _) q
 . cases hp
theorem z6o {k : Nat} {a : Int} {i : Nat} (h : j5z k a = some i) : (k, a, i) ∈ z6p := by
 unfold j5z at h
 generalize z6p = l at *
 induction l with
 | nil => exact zns h
 | cons p l ih =>
   obtain ⟨k', a', i'⟩ := p
   have h : cond (Nat.beq k' k && a' == a) (some i') (List.rec (motive := fun W0 => Option Nat) none (fun p W0 ih => cond (Nat.beq p.1 k && p.2.1 == a) (some p.2.2) ih) l) = some i := h
   refine q27 (Nat.beq k' k && a' == a) (fun hc => ?_) fun hc => ?_
   .
     rw [hc] at h
     cases h
     rw [Bool.and_eq_true] at hc
     (refine rwm (Nat.eq_of_beq_eq_true hc.1) ?_; refine rwm (eq_of_beq hc.2) ?_)
     exact .head _
   .
     rw [hc] at h
     exact .tail _ (ih h)
noncomputable def kOf (self : V) : Option Nat := cond (q76 q2d self) (some 1) (cond (q76 q52 self) (some 2) none)
theorem x05 {self : V} {k : Nat} (h : kOf self = some k) : self = rtsK k := by
 unfold kOf at h
 refine q27 (q76 q2d self) (fun h1 => ?_) fun h1 => ?_
 .
   rw [h1] at h
   cases h
   exact (q2y _ _ h1).symm
 .
   rw [h1] at h
   refine q27 (q76 q52 self) (fun h2 => ?_) fun h2 => ?_
   .
     rw [q13, h2] at h
     cases h
     exact (q2y _ _ h2).symm
   . rw [q13, h2] at h; exact zns h
noncomputable def j7j (vs : List V) (st : St) : Option (V × St) := (two vs).bind fun q => (kOf q.1).bind fun k => ((vz q.2).bind (allZ (j5z k))).map fun i => (rtK i, st)
theorem j13 {c : Cx} (B : Bs c) : q01 c 710 (.orc (room 11 j7j)) := q11 fun d tn vs st v st' Q X e q => by
 refine hid fun hG => ?_
 refine ep2 (obi e :) fun self w e1 e => ?_
 refine e12 (obi e :) fun k hk e => ?_
 refine e12 (omi e :) fun i hi e => ?_
 refine e12 (obi hi :) fun z hz hb => ?_
 refine hG ?_
 obtain ⟨rfl, rfl⟩ := Prod.mk.inj e
 (refine rwm (two_is e1) ?_; refine rwm (show self = _ from x05 hk) ?_; refine rwm (show w = _ from z1g hz) ?_)
 refine q0d.conv fun g xs R => ?_
 (refine e23 R.consI fun y ys r => ?_; subst r; intro r0 rs)
 (refine e12 rs.oneI fun y2 r => ?_; subst r; intro r)
 (refine e22 r.zI fun j t r => ?_; subst r; intro zr)
 exact ⟨[rtsK k, .int j], .cons r0 (.cons (.int _ _) .nil), j0v B _ (z6o (q99 hb zr)) fun g' y le vr => ⟨_, vr, q⟩⟩
noncomputable def j60 : Tr Orc := .nd (.nd (.nd (.nd .lf 187 (q0v 2 z2j) .lf) 212 (room 7 q2n) (.nd .lf 219 (room 7 q3d) .lf)) 286 (q0v 2 z2i) (.nd (.nd .lf 325 (room 7 q54) .lf) 339 (room 7 q55) .lf)) 353 (room 3 q74) (.nd (.nd (.nd .lf 382 (room 8 z8b) .lf) 513 (room 3 z8i) (.nd .lf 555 (room 3 z8e) .lf)) 710 (room 11 j7j) (.nd (.nd .lf 1003 (room 2 z1a) .lf) 1118 z7q .lf))
theorem z3z : j60.list = [(187, q0v 2 z2j), (212, room 7 q2n), (219, room 7 q3d), (286, q0v 2 z2i), (325, room 7 q54), (339, room 7 q55), (353, room 3 q74), (382, room 8 z8b), (513, room 3 z8i), (555, room 3 z8e), (710, room 11 j7j), (1003, room 2 z1a), (1118, z7q)] := rfl
noncomputable def lkR : Lk := tabs.lk j60
theorem Bs.lkR {c : Cx} (B : Bs c) : LkOk c lkR := by
 refine B.lk (orc := j60) ?_ (by kernel_rfl)
 refine rwm z3z ?_
 exact .cons (z14 B) (.cons (q4h B) (.cons (q6l B) (.cons (z13 B) (.cons (q65 B) (.cons (q9m B) (.cons (z09 B) (.cons (z8c B) (.cons (z8j B) (.cons (z8f B) (.cons (j13 B) (.cons (z37 B) (.cons (z7r B) .nil))))))))))))
inductive Kd where
 | echo (n : Nat)
 | error (n : Nat)
 | plain (n : Nat)
noncomputable def Kd.str : Kd -> Str
 | .echo _ => Str.ofString "echo"
 | .error _ => Str.ofString "error"
 | .plain _ => Str.ofString "plain"
noncomputable def hdrE : Hdr := ⟨.c 16777218, .c 33554434, 17, .c 0, .c 64, false, false, 0⟩
noncomputable def Kd.pay : Kd -> SB
 | .echo n => .icmp 8 0 (.s 4 0 (.rng 0 4294967295)) (.var 3 n)
 | .error n => .icmp 3 1 (.c 0) (j8s (.ip hdrE (.var 3 n)) 0 (20 + min n 8))
 | .plain n => .var 3 n
noncomputable def Kd.proto : Kd -> Int
 | .plain _ => 99
 | _ => 1
noncomputable def zL (n : Nat) (l : List Int) : Z := match l with
 | [a] => .c a
 | l => .s n 0 (.set l)
structure Box where
 S : List Int
 T : List Int
 L : List Int
 M : List Int
noncomputable def Box.hdr (b : Box) (k : Kd) (dont : Bool) (off : Int) : Hdr := ⟨zL 0 b.S, zL 1 b.T, k.proto, .s 2 1 (.rng 0 98), zL 3 b.L, dont, false, off⟩
noncomputable def Box.loc (b : Box) (k : Kd) (dont : Bool) (off : Int) : Loc := [(Str.ofString "mtu", (zL 5 b.M).toV), (Str.ofString "kind", .str k.str), (Str.ofString "header", j58 (b.hdr k dont off)), (Str.ofString "payload", .sb k.pay), (Str.ofString "script", .ref 6)]
noncomputable def lawR : List CS := (z0u.drop 3).map (cS lkR 40 z4e)
noncomputable def q86 : Fl -> Bool
 | .next => true
 | _ => false
theorem q87 {f : Fl} (h : q86 f = true) : f = .next := by
 induction f using Fl.casesOn <;> first | rfl | exact ft h
noncomputable def x03 (k : Nat) (v : Option V) : Bool := Option.casesOn v false fun v => Option.casesOn (z83 v) false fun n => Nat.beq n k
theorem z7c {k : Nat} {v : Option V} (h : x03 k v = true) : v = some (.ref k) := by
 refine e12 (opt_cond h :) fun v hv h => ?_
 refine e12 (opt_cond h :) fun n h1 h2 => ?_
 rw [hv, q3e h1, Nat.eq_of_beq_eq_true h2]
noncomputable def z7s (r : Out (Fl × Loc)) : Bool := Out.rec (fun p W0 => q86 p.1 && x03 6 (q0f (Str.ofString "script") p.2)) (fun W0 W0 => false) (fun c W0 ih => c && ih) (fun W0 W0 il ir => il && ir) false r
noncomputable def j8v (b : Box) (k : Kd) (dont : Bool) (off : Int) : Bool := z7s (q12 (q0q lkR false 60) ⟨[], 100, true, true⟩ lawR (b.loc k dont off) ⟨7, []⟩)
noncomputable def q53 : List Int := [16777218]
noncomputable def z8d : List Int := [0, 3758096389, 2130706433]
noncomputable def z8u : List Int := [33554434, 16777217, 33554433, 150994949, 50331647, 33554431, 33554531]
noncomputable def tFwd : List Int := [33554434, 150994949, 50331647, 33554531]
noncomputable def q9b : List Int := [64, 2, 1]
noncomputable def x06 : List Int := [64, 2]
noncomputable def q6b : List Int := [60, 68, 1500]
noncomputable def q15 : Str := Str.ofString "script"
theorem z7t {r : Out (Fl × Loc)} (h : z7s r = true) : Sat r (fun p st => p.1 = .next /\ p.2.lookup q15 = some (.ref 6)) noX := by
 induction r with
 | ok p st =>
   have h : (q86 p.1 && x03 6 (q0f q15 p.2)) = true := h
   rw [Bool.and_eq_true] at h
   obtain ⟨h1, h2⟩ := h
   exact ⟨q87 h1, (q0b _ _).symm.trans (z7c h2)⟩
 | ex C st => exact zft h
 | need c r ih =>
   have h : (c && z7s r) = true := h
   rw [Bool.and_eq_true] at h
   exact ⟨h.1, ih h.2⟩
 | both l r il ir =>
   have h : (z7s l && z7s r) = true := h
   rw [Bool.and_eq_true] at h
   exact ⟨il h.1, ir h.2⟩
 | bad => exact ft h
noncomputable def j12 : List Int := [16777218, 0, 3758096389, 2130706433, 33554431, 33554433]
structure Lf where
 k : Kd
 dont : Bool
 off : Int
structure Nms where
 s : Nat
 t : Nat
 i : Nat
 l : Nat
 m : Nat
 z : Nat
 b : Nat
noncomputable def q4t (d l : List Int) : Bool := d.all fun a => l.any (· == a)
noncomputable def Kd.payN (k : Kd) (z b : Nat) : SB := match k with
 | .echo n => .icmp 8 0 (.s z 0 (.rng 0 4294967295)) (.var b n)
 | .error n => .icmp 3 1 (.c 0) (q4o (.ip hdrE (.var b n)) 0 (20 + min n 8))
 | .plain n => .var b n
noncomputable def q6y (p : SB) : Nat × Nat := SB.rec (fun b n => (b, n)) (fun W0 W0 ih => ih) (fun W0 W0 W0 W0 ih => ih) (fun W0 W0 W0 ih => ih) p
noncomputable def q90 (z : Z) : Nat := Z.casesOn z (fun W0 => 0) fun n W0 W0 => n
noncomputable def j8u (p : SB) : Kd × Nat × Nat := match p with
 | .icmp a _ z _ => cond (a == 8) (.echo (q6y p).2, q90 z, (q6y p).1) (.error (q6y p).2, 0, (q6y p).1)
 | p => (.plain (q6y p).2, 0, (q6y p).1)
noncomputable def j1w (s : Str) (p : SB) : Option (Kd × Nat × Nat) := cond (decide (p = (j8u p).1.payN (j8u p).2.1 (j8u p).2.2) && eqS s (j8u p).1.str) (some (j8u p)) none
noncomputable def x24 (z : Z) : Option (Nat × List Int) := Z.casesOn z (fun W0 => none) fun n e d => Dm.casesOn d (fun l => cond (e == 0) (some (n, l)) none) fun W0 W0 => none
theorem q8g {z : Z} {q : Nat × List Int} (h : x24 z = some q) : z = .s q.1 0 (.set q.2) := by
 induction z using Z.casesOn with
 | c i => exact ns h
 | s n e d =>
   induction d using Dm.casesOn with
   | rng _ _ => exact ns h
   | set l =>
     obtain ⟨h1, h2⟩ := q0c (show cond (e == 0) (some (n, l)) none = some q from h)
     (refine rwb (oi h2) ?_; refine rwm (eq_of_beq h1) ?_; rfl)
noncomputable def j3j (h : Hdr) (k : Kd) : Option (Nat × Nat × Nat × Nat) := (x24 h.src).bind fun s => (x24 h.tgt).bind fun t => (x24 h.ttl).bind fun l =>
 cond (decide (h.ident = .s (q90 h.ident) 1 (.rng 0 98)) && q4t s.2 j12 && q4t t.2 z8u && q4t l.2 q9b && decide (h.proto = k.proto) && !h.more) (some (s.1, t.1, q90 h.ident, l.1)) none
noncomputable def lfOf (m h : V) (s : Str) (p : SB) : Option (Lf × Nms) := ((vz m).bind x24).bind fun m => (vOb h).bind fun h => (j57 h.2).bind fun hd => (j1w s p).bind fun q => (j3j hd q.1).bind fun w =>
   cond (q4t m.2 q6b && Nat.beq h.1 286) (some (⟨q.1, hd.dont, hd.off⟩, ⟨w.1, w.2.1, w.2.2.1, w.2.2.2, m.1, q.2.1, q.2.2⟩)) none
noncomputable def q62 (ρ : Loc) : Option (Lf × Nms) := (q0f (Str.ofString "mtu") ρ).bind fun m => ((q0f (Str.ofString "kind") ρ).bind vStr).bind fun s => (q0f (Str.ofString "header") ρ).bind fun h => ((q0f (Str.ofString "payload") ρ).bind vSb).bind fun p => lfOf m h s p
theorem q46 {d l : List Int} (h : q4t d l = true) {i : Int} (hi : (Dm.set d).Has i) : i ∈ l := by
 have := aet h i hi
 refine e12 (List.any_eq_true.mp this :) fun x hx hb => ?_
 refine rwb (eq_of_beq hb) ?_
 exact hx
theorem SBR.finI {g g0 : Gh} {x y : SB} (hl : x.len = y.len) (hx : ∀ l, SBR g x l -> SBR g0 y l) {lo n : Nat} {l : List UInt8} (h : SBR g (q4o x lo n) l) : SBR g0 (q4o y lo n) l := by
 unfold q4o at h ⊢
 refine rwb hl ?_
 by_cases hc : (lo == 0 && n == x.len) = true
 . rw [if_pos hc] at h ⊢
   exact hx _ h
 . rw [if_neg hc] at h ⊢
   (refine e13 h.slI fun l' r => ?_; subst r; intro h1 h2)
   exact .sl (hx _ h1) h2
theorem SBR.varI {g : Gh} {b n : Nat} {l : List UInt8} (h : SBR g (.var b n) l) : g.by_ b = some l /\ l.length = n := by
 cases h with
 | var h1 h2 => exact ⟨h1, h2⟩
theorem z85 {g g0 : Gh} {b b' n : Nat} (hb : g0.by_ b' = g.by_ b) (l : List UInt8) (h : SBR g (.var b n) l) : SBR g0 (.var b' n) l := by
 obtain ⟨h1, h2⟩ := h.varI
 exact .var (hb.trans h1) h2
theorem j68 {k : Kd} {z b z' b' : Nat} {g g0 : Gh} {l : List UInt8} (h : SBR g (k.payN z b) l) (hz : g0.zi z' = g.zi z) (hb : g0.by_ b' = g.by_ b) : SBR g0 (k.payN z' b') l := by
 induction k using Kd.casesOn with
 | echo n =>
   obtain ⟨r, l, rfl, ⟨j, q1, q2, q3⟩, ⟨h1, h2⟩, ⟨h3, h4⟩, ⟨h5, h6⟩, hp, len⟩ := SBR.icmpI h
   exact .icmp ⟨j, hz.trans q1, q2, q3⟩ h1 h2 h3 h4 h5 h6 (z85 hb _ hp) len
 | error n =>
   obtain ⟨r, l, rfl, hr, ⟨h1, h2⟩, ⟨h3, h4⟩, ⟨h5, h6⟩, hp, len⟩ := SBR.icmpI h
   refine .icmp hr h1 h2 h3 h4 h5 h6 (SBR.finI (g := g) (x := .ip hdrE (.var b n)) (y := .ip hdrE (.var b' n)) rfl (fun l h => ?_) hp) len
   (refine e25 h.ipI fun H l r => ?_; subst r; intro e ho sp len)
   exact .ip ⟨e.src, e.tgt, e.proto, e.ident, e.ttl, e.dont, e.more, e.off⟩ ho (z85 hb _ sp) len
 | plain n => exact z85 hb _ h
theorem x1v (k : Kd) : k.pay = k.payN 4 3 := by cases k <;> rfl
theorem j69 {s : Str} {p : SB} {k : Kd} {z b : Nat} (e : j1w s p = some (k, z, b)) {g : Gh} {l : List UInt8} (h : SBR g p l) : s = k.str /\ ∀ g0 : Gh, g0.zi 4 = g.zi z -> g0.by_ 3 = g.by_ b -> SBR g0 k.pay l := by
 unfold j1w at e
 generalize j8u p = q at e
 obtain ⟨hc, e⟩ := q0c e
 obtain rfl := oi e
 rw [Bool.and_eq_true] at hc
 refine ⟨q3m hc.2, fun g0 hz hb => ?_⟩
 rw [of_decide_eq_true hc.1] at h
 refine rwm (x1v _) ?_
 exact j68 h hz hb
theorem z99 {c : Cx} {g g0 : Gh} {n n' : Nat} {S B : List Int} {j : Int} (h1 : g.zi n = some j) (h2 : g0.zi n' = some j) (hB : j ∈ B) {x : Value} (r : VR c g (.sint n 0 (.set S)) x) : VR c g0 (zL n' B).toV x := by
 obtain ⟨i, t, rfl, j', q1, rfl, _⟩ := r.sintI
 obtain rfl := oi (h1.symm.trans q1)
 refine ZR.vr ?_ t
 have go : ZR g0 (.s n' 0 (.set B)) (j + 0) := ⟨j, h2, rfl, hB⟩
 induction B using List.casesOn with
 | nil => exact go
 | cons a B =>
   induction B using List.casesOn with
   | nil => exact (Int.add_zero j).trans (List.mem_singleton.mp hB)
   | cons _ _ => exact go
theorem z5v {c : Cx} {g g0 : Gh} {i : Int} : ∀ y, VR c g (.int i) y -> VR c g0 (.int i) y := fun y r => by refine e11 r.intI fun t r => rwm r ?_; exact .int _ _
theorem z5u {c : Cx} {g g0 : Gh} {i : Bool} : ∀ y, VR c g (.bool i) y -> VR c g0 (.bool i) y := fun y r => by refine rwm (r.boolI) ?_; exact .bool _
theorem z97 {c : Cx} {g g0 : Gh} {i : List UInt8} : ∀ y, VR c g (.bytes i) y -> VR c g0 (.bytes i) y := fun y r => by refine e11 r.bytesI fun t r => rwm r ?_; exact .bytes _ _
theorem z98 {c : Cx} {g g0 : Gh} {n n' : Nat} (h : g0.zi n' = g.zi n) : ∀ y, VR c g (.sint n 1 (.rng 0 98)) y -> VR c g0 (.sint n' 1 (.rng 0 98)) y := fun y r => by
 obtain ⟨i, t, rfl, j, p1, rfl, p3⟩ := r.sintI
 exact .sint t ⟨j, h.trans p1, rfl, p3⟩
theorem sint_num {c : Cx} {g : Gh} {n : Nat} {S : List Int} {x : Value} (r : VR c g (.sint n 0 (.set S)) x) : ∃ j, g.zi n = some j /\ j ∈ S := by
 obtain ⟨i, t, rfl, j, h1, _, h3⟩ := r.sintI
 exact ⟨j, h1, h3⟩
noncomputable def ghL (g : Gh) (n : Nms) : Gh := ⟨g.kn, fun i => if i = 6 then g.pl 3 else none, fun i => if i = 0 then g.zi n.s else if i = 1 then g.zi n.t else if i = 2 then g.zi n.i else if i = 3 then g.zi n.l else if i = 4 then g.zi n.z else if i = 5 then g.zi n.m else none, fun i => if i = 3 then g.by_ n.b else none⟩
section
variable {c : Cx} {P : Pt} {ρ : Loc} {st : St} {g : Gh} {pv news : List (Addr × Obj)} {m ns : Str -> Option Value} {h0 h : Heap} {lf : Lf} {nm : Nms}
theorem j55 {nm : Nms} {n : Nat} (hn : (7 : Nat) <= n) : (ghL g nm).pl n = none /\ (ghL g nm).zi n = none /\ (ghL g nm).by_ n = none := by
 have h : ∀ k, k < 7 -> n ≠ k := fun k hk e => absurd hn (by omega)
 refine ⟨if_neg (h 6 (by decide)), ?_, if_neg (h 3 (by decide))⟩
 exact (if_neg (h 0 (by decide))).trans ((if_neg (h 1 (by decide))).trans ((if_neg (h 2 (by decide))).trans ((if_neg (h 3 (by decide))).trans ((if_neg (h 4 (by decide))).trans (if_neg (h 5 (by decide)))))))
inductive LeafIs (ρ : Loc) : Lf -> Nms -> Prop
 | mk {M S T L : List Int} {hd : Hdr} {k : Kd} {s : Str} {p : SB} {nm na nt nl z b : Nat} (e1 : ρ.lookup (Str.ofString "mtu") = some (.sint nm 0 (.set M))) (e2 : ρ.lookup (Str.ofString "kind") = some (.str s)) (e3 : ρ.lookup (Str.ofString "header") = some (.ob 286 (z63 hd))) (e4 : ρ.lookup (Str.ofString "payload") = some (.sb p)) (k1 : hd.src = .s na 0 (.set S)) (k2 : hd.tgt = .s nt 0 (.set T)) (k3 : hd.ttl = .s nl 0 (.set L)) (hp : j1w s p = some (k, z, b))
   (hM : q4t M q6b = true) (hS : q4t S j12 = true) (hT : q4t T z8u = true) (hL : q4t L q9b = true) (hI : hd.ident = .s (q90 hd.ident) 1 (.rng 0 98)) (hpr : hd.proto = k.proto) (hmo : hd.more = false) : LeafIs ρ ⟨k, hd.dont, hd.off⟩ ⟨na, nt, q90 hd.ident, nl, nm, z, b⟩
theorem z65 {hd : Hdr} {k : Kd} {w : Nat × Nat × Nat × Nat} (h : j3j hd k = some w) : ∃ S T L, hd.src = .s w.1 0 (.set S) /\ hd.tgt = .s w.2.1 0 (.set T) /\ hd.ttl = .s w.2.2.2 0 (.set L) /\ q4t S j12 = true /\ q4t T z8u = true /\ q4t L q9b = true /\ hd.ident = .s (q90 hd.ident) 1 (.rng 0 98) /\ hd.proto = k.proto /\ hd.more = false /\ w.2.2.1 = q90 hd.ident := by
 refine hid fun hG => ?_
 refine e12 (obi h :) fun S k1 h => ?_
 refine e12 (obi h :) fun T k2 h => ?_
 refine e12 (obi h :) fun L k3 h => ?_
 obtain ⟨hc, h⟩ := q0c h
 obtain ⟨hc, c6⟩ := q0m hc
 obtain ⟨hc, c5⟩ := q0m hc
 obtain ⟨hc, c4⟩ := q0m hc
 obtain ⟨hc, c3⟩ := q0m hc
 obtain ⟨c1, c2⟩ := q0m hc
 refine hG ?_
 refine rwb (oi h) ?_
 exact ⟨_, _, _, q8g k1, q8g k2, q8g k3, c2, c3, c4, of_decide_eq_true c1, of_decide_eq_true c5, q5z c6, rfl⟩
theorem z7i (hl : q62 ρ = some (lf, nm)) : LeafIs ρ lf nm := by
 refine hid fun hG => ?_
 refine e12 (obi hl :) fun mv e1 hl => ?_
 refine e12 (obi hl :) fun s e2 hl => ?_
 refine e12 (obi hl :) fun hv e3 hl => ?_
 refine e12 (obi hl :) fun p e4 hl => ?_
 refine e12 (obi e2 :) fun sv e2 f2 => ?_
 refine e12 (obi e4 :) fun pv e4 f4 => ?_
 refine e12 (obi hl :) fun M h1 hl => ?_
 refine e12 (obi hl :) fun o h2 hl => ?_
 refine e12 (obi hl :) fun hd h3 hl => ?_
 refine e12 (obi hl :) fun q h4 hl => ?_
 refine e12 (obi hl :) fun w h5 hl => ?_
 obtain ⟨hc, hl⟩ := q0c hl
 obtain ⟨hM, hN⟩ := q0m hc
 refine e12 (obi h1 :) fun z g1 h1 => ?_
 obtain ⟨S, T, L, d1, d2, d3, d4, d5, d6, d7, d8, d9, d10⟩ := z65 h5
 rw [q0b] at e1 e2 e3 e4
 obtain ⟨r1, r2⟩ := Prod.mk.inj (oi hl)
 refine hG ?_
 (refine rwb r1 ?_; refine rwb r2 ?_; refine rwm d10 ?_)
 refine .mk (e1.trans (congrArg some ((z1g g1).trans (congrArg Z.toV (q8g h1))))) (e2.trans (congrArg some (z1f f2))) (e3.trans (congrArg some ?_)) (e4.trans (congrArg some (q7a f4))) d1 d2 d3 h4 hM d4 d5 d6 d7 d8 d9
 (refine rwm (q9x h2) ?_; refine rwm (show o.1 = 286 from Nat.eq_of_beq_eq_true hN) ?_; refine rwm (z11 h3) ?_; rfl)
theorem leaf_at (hcn : P.cn = []) (a : At c P g ρ st pv m ns news h0 h) (hl : q62 ρ = some (lf, nm)) (hs : ρ.lookup q15 = some (.ref 3)) :
   ∃ s t l mm : Int, s ∈ j12 /\ t ∈ z8u /\ l ∈ q9b /\ mm ∈ q6b /\ ∀ b : Box, s ∈ b.S -> t ∈ b.T -> l ∈ b.L -> mm ∈ b.M -> At c P (ghL g nm) (b.loc lf.k lf.dont lf.off) ⟨7, []⟩ pv m ns news h0 h := by
 refine hid fun hG => ?_
 obtain ⟨e1, e2, e3, e4, k1, k2, k3, hp, hM, hS, hT, hL, hI, hpr, hmo⟩ := z7i hl
 clear hl
 refine e12 (a.loc _ _ e1 :) fun y1 n1 r1 => ?_
 refine e12 (a.loc _ _ e2 :) fun y2 n2 r2 => ?_
 refine e12 (a.loc _ _ e3 :) fun y3 n3 r3 => ?_
 refine e12 (a.loc _ _ e4 :) fun y4 n4 r4 => ?_
 refine e12 (a.loc _ _ hs :) fun y5 n5 r5 => ?_
 clear e1 e2 e3 e4 hs
 refine e12 (sint_num r1 :) fun jm zm bm => ?_
 obtain ⟨u1, ra⟩ := r3.obGet (n := Str.ofString "source") (.head _)
 obtain ⟨u2, rb⟩ := r3.obGet (n := Str.ofString "target") (.tail _ (.head _))
 obtain ⟨u3, rc⟩ := r3.obGet (n := Str.ofString "ttl") (.tail _ (.tail _ (.tail _ (.tail _ (.head _)))))
 rw [k1] at ra
 rw [k2] at rb
 rw [k3] at rc
 refine e12 (sint_num ra :) fun js zs bs => ?_
 refine e12 (sint_num rb :) fun jt zt bt => ?_
 refine e12 (sint_num rc :) fun jl zl bl => ?_
 refine e22 r4.sbI fun l0 t0 h4 hl0 => ?_
 obtain ⟨hstr, hpay⟩ := j69 hp hl0
 refine hG ?_
 refine ⟨js, jt, jl, jm, q46 hS bs, q46 hT bt, q46 hL bl, q46 hM bm, fun bx q1 q2 q3 q4 => ?_⟩
 refine ⟨a.ok, a.below, a.dicts, a.fr, a.nw, ⟨a.hk.kni, a.hk.pvi, fun n o e => (zns e), fun n o W0 W0 e => (zns e), fun n n' o o' W0 W0 W0 W0 W0 e => (zns e), fun n hn => j55 hn, a.hk.pk⟩, fun x v e => ?_, fun x n e => (by rw [hcn] at e; exact zns e), a.nsk⟩
 have e := q0l e
 unfold Box.loc at e
 rcases mc e with e | e
 . obtain ⟨rfl, rfl⟩ := Prod.mk.inj e
   exact ⟨_, n1, z99 (n' := 5) zm zm q4 r1⟩
 rcases mc e with e | e
 . obtain ⟨rfl, rfl⟩ := Prod.mk.inj e
   obtain ⟨tt, e2⟩ := r2.strI
   exact ⟨_, n2, by (refine rwm e2 ?_; refine rwm hstr ?_); exact .str _ _⟩
 rcases mc e with e | e
 . obtain ⟨rfl, rfl⟩ := Prod.mk.inj e
   refine ⟨_, n3, r3.obMap (DR.map1 (fun y r => z99 (n' := 0) zs zs q1 (k1 ▸ r)) (DR.map1 (fun y r => z99 (n' := 1) zt zt q2 (k2 ▸ r)) (DR.map1 (hpr ▸ z5v) (DR.map1 (fun y r => z98 (n := q90 _) (n' := 2) rfl y (hI ▸ r)) (DR.map1 (fun y r => z99 (n' := 3) zl zl q3 (k3 ▸ r)) (DR.map1 z5v (DR.map1 z5u (DR.map1 (hmo ▸ z5u) (DR.map1 z5v (DR.map1 z97 DR.map0))))))))))⟩
 rcases mc e with e | e
 . obtain ⟨rfl, rfl⟩ := Prod.mk.inj e
   exact ⟨_, n4, by refine rwm h4 ?_; exact .sb t0 (hpay (ghL g _) rfl rfl)⟩
 rcases mc e with e | e
 . obtain ⟨rfl, rfl⟩ := Prod.mk.inj e
   refine e22 r5.refI fun aa dd e5 hpl => ?_
   exact ⟨_, n5, by refine rwm e5 ?_; exact .ref (d := dd) hpl⟩
 . exact absurd e List.not_mem_nil
theorem j1e (B : Bs c) (I : PI P z4e ⟨[], 100, true, true⟩) (hcn : P.cn = []) (hl : q62 ρ = some (lf, nm)) (hs : ρ.lookup q15 = some (.ref 3))
   (hcls : ∀ s t l m, s ∈ j12 -> t ∈ z8u -> l ∈ q9b -> m ∈ q6b -> ∃ b : Box, s ∈ b.S /\ t ∈ b.T /\ l ∈ b.L /\ m ∈ b.M /\ j8v b lf.k lf.dont lf.off = true) {Q : Fl -> Loc -> St -> Prop} {X : Exc} (q : Q .next [(q15, .ref 3)] ⟨st.nx, []⟩) : ExS c P ρ st (z0u.drop 3) Q X :=
 fun g pv m news h0 s Qc Ec a K => by
   refine hid fun hG => ?_
   refine e45 (leaf_at hcn a hl hs :) fun sv tv lv mv h1 h2 h3 h4 k => ?_
   refine e15 (hcls sv tv lv mv h1 h2 h3 h4 :) fun b p1 p2 p3 p4 hr => ?_
   have a0 := k b p1 p2 p3 p4
   refine e12 (a.loc _ _ hs :) fun y5 n5 r5 => ?_
   refine hG ?_
   (refine e22 r5.refI fun aa dd r => ?_; refine rwm r ?_; intro hpl)
   have run : ExS c P (b.loc lf.k lf.dont lf.off) ⟨7, []⟩ (z0u.drop 3) (fun fl ρ' W0 => fl = .next /\ ρ'.lookup q15 = some (.ref 6)) noX := q10 (q3c B.lkR 60) I (z7t hr)
   refine run (ghL g nm) pv m news h0 s Qc Ec a0 ⟨fun g' m' news' h0' h' tk x fl ρ' st' l v a' r q' => ?_, fun W0 W0 W0 W0 W0 W0 W0 W0 W0 W0 W0 x => x.elim⟩
   obtain ⟨rfl, e⟩ := q'
   refine e12 (a'.loc _ _ e :) fun y hy ry => ?_
   (refine e22 ry.refI fun a6 d6 r => ?_; subst r; intro hp6)
   have : (aa, dd) = (a6, d6) := oi ((l.pl 6 (aa, dd) hpl).symm.trans hp6)
   cases this
   have a2 : At c P ⟨g'.kn, g.pl, g.zi, g.by_⟩ [(q15, .ref 3)] ⟨st.nx, []⟩ pv m' m' news' h0' h' := ⟨a'.ok, a'.below, a'.dicts, a'.fr, a'.nw, ⟨a'.hk.kni, a'.hk.pvi, fun n o e => (zns e), fun n o W0 W0 e => (zns e), fun n n' o o' W0 W0 W0 W0 W0 e => (zns e), fun n hn => a.hk.fin n hn, a'.hk.pk⟩, (fun x v e => by
     rcases mc (q0l e) with e | e
     . cases e
       exact ⟨_, hy, .ref hpl⟩
     . cases e), fun x n e => (by rw [hcn] at e; exact zns e), a'.nsk⟩
   refine K.ok ⟨g'.kn, g.pl, g.zi, g.by_⟩ m' news' h0' h' tk x .next _ _ ⟨fun p hp => l.kn p hp, fun W0 W0 h => h, fun W0 W0 h => h, fun W0 W0 h => h⟩ v a2 ?_ q
   cases r
   exact .next
end
theorem q5p {c : Cx} {lk : Lk} {T : Tb} {P : Pt} {S : Sx} {F : Fx} {X : Exc} (H : TbOk c lk T) (I : PI P S F) {n : Nat} {rest : List Stmt} {Q : Fl -> Loc -> St -> Prop} : ∀ {ss : List Stmt} {ρ : Loc} {st : St}, Sat (q12 T F (ss.map (cS lk n S)) ρ st) (fun p st => match p.1 with | .next => ExS c P p.2 st rest Q X | fl => Q fl p.2 st) X -> ExS c P ρ st (ss ++ rest) Q X := by
 intro ss
 induction ss with
 | nil => intro ρ st h; exact h
 | cons s ss ih =>
   intro ρ st h
   have h := q0a h
   refine q1r (H.ex (Q := fun b ρ' st' => match b with | .next => ExS c P ρ' st' (ss ++ rest) Q X | b => Q b ρ' st') I (Sat.mono h fun p st' h' => ?_))
   obtain ⟨b, ρ'⟩ := p
   change Sat (z1d (b, ρ') st' (q12 T F (ss.map (cS lk n S)))) _ _ at h'
   induction b using Fl.casesOn with
   | next => exact ih h'
   | brk => exact h'
   | cont => exact h'
   | ret v => exact h'
noncomputable def szB (n : Nat) : Bool := [0, 1, 7, 8, 33, 60].any fun k => Nat.beq n k
noncomputable def kdB : Kd -> Bool
 | .echo n => szB n
 | .error n => szB n
 | .plain n => szB n
noncomputable def okLf (l : Lf) : Bool := kdB l.k && (l.off == 0 || l.off == 8)
noncomputable def lfB (o : Option (Lf × Nms)) : Bool := Option.casesOn o false fun p => okLf p.1
noncomputable def q5t (r : Out (Fl × Loc)) : Bool := Out.rec (fun p W0 => q86 p.1 && lfB (q62 p.2) && x03 3 (q0f q15 p.2)) (fun W0 W0 => false) (fun c W0 ih => c && ih) (fun W0 W0 il ir => il && ir) false r
theorem z0v {r : Out (Fl × Loc)} (h : q5t r = true) : Sat r (fun p st => p.1 = .next /\ (∃ lf nm, q62 p.2 = some (lf, nm) /\ okLf lf = true) /\ p.2.lookup q15 = some (.ref 3)) noX := by
 induction r with
 | ok p st =>
   have h : (q86 p.1 && lfB (q62 p.2) && x03 3 (q0f q15 p.2)) = true := h
   rw [Bool.and_eq_true, Bool.and_eq_true] at h
   obtain ⟨⟨h1, h2⟩, h3⟩ := h
   refine ⟨q87 h1, ?_, (q0b _ _).symm.trans (z7c h3)⟩
   exact e12 (opt_cond h2 :) fun p e h2 => ⟨p.1, p.2, e, h2⟩
 | ex C st => exact zft h
 | need c r ih =>
   have h : (c && q5t r) = true := h
   rw [Bool.and_eq_true] at h
   exact ⟨h.1, ih h.2⟩
 | both l r il ir =>
   have h : (q5t l && q5t r) = true := h
   rw [Bool.and_eq_true] at h
   exact ⟨il h.1, ir h.2⟩
 | bad => exact zft h
noncomputable def locP : Loc := [(Str.ofString "source", .ref 0), (q15, .ref 3)]
noncomputable def lawP : List CS := ((z0u.drop 1).take 2).map (cS lkP 40 z4e)
theorem x1w (M : Int) : q5t (q12 (q0q lkP false 40) ⟨[], 100, true, true⟩ lawP locP (q1l M 4 1 2 [])) = true := by kernel_rfl
theorem z3o : z0u.drop 1 = (z0u.drop 1).take 2 ++ z0u.drop 3 := by kernel_rfl
noncomputable def AllCls : Prop := ∀ lf : Lf, okLf lf = true -> ∀ s t l m, s ∈ j12 -> t ∈ z8u -> l ∈ q9b -> m ∈ q6b -> ∃ b : Box, s ∈ b.S /\ t ∈ b.T /\ l ∈ b.L /\ m ∈ b.M /\ j8v b lf.k lf.dont lf.off = true
theorem j70 {c : Cx} {P : Pt} (B : Bs c) (I : PI P z4e ⟨[], 100, true, true⟩) (hcn : P.cn = []) (hall : AllCls) {M : Int} {Q : Fl -> Loc -> St -> Prop} {X : Exc} (q : ∀ nx, Q .next [(q15, .ref 3)] ⟨nx, []⟩) : ExS c P locP (q1l M 4 1 2 []) (z0u.drop 1) Q X := by
 refine rwm z3o ?_
 refine q5p (q3c (vc := false) B.lkP 40) I (n := 40) ?_
 refine Sat.monoX (X := noX) (Sat.mono (z0v (x1w M)) fun p st h => ?_) fun C st h => h.elim
 obtain ⟨h1, ⟨lf, nm, h2, h3⟩, h4⟩ := h
 obtain ⟨fl, ρ⟩ := p
 dsimp only at h1 h2 h4
 subst h1
 exact j1e B I hcn h2 h4 (hall lf h3) (q _)
noncomputable def plS (i : Nat) : Stmt := ((rF 1045).body[i]?).getD (.Pass ⟨0, 0, 0, 0⟩)
noncomputable def noE : Expr := .Constant .none 0 ⟨0, 0, 0, 0⟩
noncomputable def x0y : Stmt -> Expr
 | .If t _ _ _ => t
 | _ => noE
noncomputable def stP : Stmt -> Pos
 | .If _ _ _ p => p
 | .Return _ p => p
 | .Assign _ _ p => p
 | _ => ⟨0, 0, 0, 0⟩
noncomputable def x0z : Stmt -> Stmt
 | .If _ (s :: _) _ _ => s
 | s => s
noncomputable def asT : Stmt -> Expr
 | .Assign (t :: _) _ _ => t
 | _ => noE
noncomputable def asE : Stmt -> Expr
 | .Assign _ e _ => e
 | .Return (some e) _ => e
 | _ => noE
noncomputable def sbL : Expr -> Expr
 | .Subscript o _ _ => o
 | .BinOp l _ _ _ => l
 | _ => noE
noncomputable def sbR' : Expr -> Expr
 | .Subscript _ i _ => i
 | .BinOp _ _ r _ => r
 | _ => noE
noncomputable def q8h : Expr -> Pos
 | .Subscript _ _ p => p
 | .Name _ p => p
 | .BinOp _ _ _ p => p
 | .List _ p => p
 | _ => ⟨0, 0, 0, 0⟩
noncomputable def lsE (i : Nat) : Expr -> Expr
 | .List es _ => (es[i]?).getD noE
 | _ => noE
noncomputable def plT : Expr := x0y (plS 1)
noncomputable def plA : Stmt := x0z (plS 1)
noncomputable def plR (i : Nat) : Expr := lsE i (asE (plS 4))
noncomputable def plI : Expr := sbR' (plR 0)
theorem j7c : (rF 1045).body = [plS 0, .If plT [.Assign [.Name (Str.ofString "cell") (q8h (asT plA))] (.Subscript (.Name q15 (q8h (sbL (asE plA)))) (.Name (Str.ofString "k") (q8h (sbR' (asE plA)))) (q8h (asE plA))) (stP plA)] [] (stP (plS 1)), plS 2, plS 3,
 .Return (some (.List [.BinOp (.Name (Str.ofString "big") (q8h (sbL (plR 0)))) .Mult plI (q8h (plR 0)), .Name (Str.ofString "mixed") (q8h (plR 1))] (q8h (asE (plS 4))))) (stP (plS 4))] := by kernel_rfl
noncomputable def plX : Sx := ⟨(rF 1045).sc, true⟩
noncomputable def plL0 (us : List V) (k : Int) : Loc := [(q15, .lst us), (Str.ofString "k", .int k)]
noncomputable def j7b (us : List V) (k c : Int) : Loc := [(q15, .lst us), (Str.ofString "k", .int k), (Str.ofString "cell", .int c)]
noncomputable def plL2 (us : List V) (k c b m : Int) : Loc := [(q15, .lst us), (Str.ofString "k", .int k), (Str.ofString "cell", .int c), (Str.ofString "big", .int b), (Str.ofString "mixed", .int m)]
theorem pl0 (us : List V) (k : Int) (st : St) (d : Nat) (tn : Bool) : q12 (q0q lk0 true 12) ⟨[], d, tn, true⟩ ([plS 0].map (cS lk0 12 plX)) (plL0 us k) st = .ok (.next, j7b us k 0) st := by kernel_rfl
theorem x1x (us : List V) (k : Int) (st : St) (d : Nat) (tn : Bool) : (q0q lk0 true 12).evT ⟨[], d, tn, true⟩ (cE lk0 12 plX plT) (j7b us k 0) st = (.need (decide (us.length <= (1000000 : Nat))) (.ok (decide (k < (us.length : Int))) st)) := by kernel_rfl
noncomputable def q4m (c : Int) : Int := if (-1 : Int) - c > c then (-1 : Int) - c else c
noncomputable def j1h (b k : Int) : Int := ((b.fmod (2147483629 : Int) + (7919 : Int) * k * k + (31 : Int) * k + (17 : Int)) * (48271 : Int)).fmod (2147483647 : Int)
theorem pl23 (us : List V) (k cc : Int) (st : St) (d : Nat) (tn : Bool) : q12 (q0q lk0 true 20) ⟨[], d, tn, true⟩ ([plS 2, plS 3].map (cS lk0 20 plX)) (j7b us k cc) st = (.need .true (.need .true (.need .true (.need .true (.need .true (.need .true (.need .true (.need (decide (Builtin.Int.intBits ((7919 : Int) * k) <= (64 : Nat))) (.need .true (.need .true (.need .true (.need .true
 (.need (decide (Builtin.Int.intBits ((q4m cc).fmod (2147483629 : Int) + (7919 : Int) * k * k + (31 : Int) * k + (17 : Int)) <= (64 : Nat))) (.need .true (.need .true (.ok (.next, plL2 us k cc (q4m cc) (j1h (q4m cc) k)) st)))))))))))))))) := by kernel_rfl
theorem plInt (us : List V) (k cc big mixed : Int) (st : St) (d : Nat) (tn : Bool) : (q0q lk0 true 12).ev ⟨[], d, tn, true⟩ (cE lk0 12 plX plI) (plL2 us k cc big mixed) st = (.need .true (.need .true (.ok (.int (if decide (big >= (10 : Int) ^ Int.toNat (18 : Int)) = true then (1 : Int) else (0 : Int))) st))) := by kernel_rfl
theorem pl_ks : q05 plX q15 = some .local /\ q05 plX (Str.ofString "k") = some .local /\ q05 plX (Str.ofString "cell") = some .local /\ q05 plX (Str.ofString "big") = some .local /\ q05 plX (Str.ofString "mixed") = some .local := ⟨by kernel_rfl, by kernel_rfl, by kernel_rfl, by kernel_rfl, by kernel_rfl⟩
theorem x1z (vs : V) (k : Int) : (rF 1045).ns.zip (q6j (rF 1045).ns.length [vs, .int k] (rF 1045).dvs) = [(q15, vs), (Str.ofString "k", .int k)] := by kernel_rfl
theorem x1y (us : List V) (k c : Int) : q6k (Str.ofString "cell") (.int c) (j7b us k 0) = j7b us k c := by
 rw [<- q1s]
 kernel_rfl
theorem j7d {c : Cx} (B : Bs c) {is : List Int} {k : Nat} (hk : k < 2) (hm : is.length < 1000) {d : Nat} {tn : Bool} {Q : V -> St -> Prop} {X : Exc} (q : ∀ a b : Int, 0 <= a -> 0 <= b -> b < 2147483648 -> Q (.ref 0) ⟨1, [(0, .list [.int a, .int b])]⟩) :
   q0d c (d + 1) tn ⟨0, []⟩ (.prim (.ref 1045)) [.lst (is.map .int), .int k] Q X := by
 have R : FnOk c 1045 (rF 1045) := B.fn rfl rfl
 refine e32 R.is_ fun ds qual cdv hI hds => ?_
 obtain ⟨hcell, hloc⟩ := R.c0 (by kernel_rfl)
 refine q0d.monoX (X := noX) (q42 hI hds R.nd (by show 2 <= (rF 1045).ns.length; decide +kernel) (by show (rF 1045).ns.length <= 2 + (rF 1045).dvs.length; decide +kernel) R.ld hcell hloc R.co R.gen R.kind (fun W0 W0 W0 h => h) fun P h1 h2 h3 h4 h5 h6 h7 => ?_) fun C st' h => h.elim
 have I : PI P plX ⟨[], d, tn, true⟩ := ⟨h5, h4, h1, h2, h3, fun W0 => h6, fun W0 => h7⟩
 have H12 := q3c (vc := true) B.lk0 12
 have H20 := q3c (vc := true) B.lk0 20
 refine e05 pl_ks fun k1 k2 k3 k4 k5 => ?_
 (refine rwm (x1z _ _) ?_; refine rwm j7c ?_)
 -- behind the cell
 have rest : ∀ cc : Int, ExS c P (j7b (is.map .int) k cc) ⟨0, []⟩ [plS 2, plS 3, .Return (some (.List [.BinOp (.Name (Str.ofString "big") (q8h (sbL (plR 0)))) .Mult plI (q8h (plR 0)), .Name (Str.ofString "mixed") (q8h (plR 1))] (q8h (asE (plS 4))))) (stP (plS 4))] (fun fl W0 st' => Q fl.val st') noX := fun cc => by
   refine q5p H20 I (n := 20) (ss := [plS 2, plS 3]) ?_
   rw [pl23]
   have hk' : (k : Int) = 0 \/ (k : Int) = 1 := (Nat.le_one_iff_eq_zero_or_eq_one.mp (Nat.le_of_lt_succ hk)).imp (congrArg Nat.cast) (congrArg Nat.cast)
   have f1 : Builtin.Int.intBits ((7919 : Int) * k) <= 64 := by rcases hk' with e | e <;> rw [e] <;> decide +kernel
   have m1 : 0 <= (q4m cc).fmod (2147483629 : Int) /\ (q4m cc).fmod (2147483629 : Int) < 2147483629 := ⟨Int.fmod_nonneg_of_pos _ (by decide), Int.fmod_lt_of_pos _ (by decide)⟩
   have f2 : Builtin.Int.intBits ((q4m cc).fmod (2147483629 : Int) + (7919 : Int) * k * k + (31 : Int) * k + (17 : Int)) <= 64 := by
     have g : ∀ {a b : Int}, 0 <= a -> a <= 7919 -> 0 <= b -> b <= 31 -> Builtin.Int.intBits ((q4m cc).fmod (2147483629 : Int) + a + b + (17 : Int)) <= 64 := fun p1 p2 p3 p4 => PySem.intBits_le_64 (Int.le_trans (by decide) (Int.add_nonneg (Int.add_nonneg (Int.add_nonneg m1.1 p1) p3) (by decide))) (Int.lt_trans (Int.add_lt_add_right (Int.add_lt_add_of_lt_of_le (Int.add_lt_add_of_lt_of_le m1.2 p2) p4) 17) (by decide))
     rcases hk' with e | e <;> refine rwm e ?_ <;> exact g (by decide) (by decide) (by decide) (by decide)
   refine ⟨rfl, rfl, rfl, rfl, rfl, rfl, rfl, decide_eq_true f1, rfl, rfl, rfl, rfl, decide_eq_true f2, rfl, rfl, ?_⟩
   have b0 : 0 <= q4m cc := by unfold q4m; split <;> omega
   have x0 : 0 <= j1h (q4m cc) k := Int.fmod_nonneg_of_pos _ (by decide)
   have x1 : j1h (q4m cc) k < 2147483647 := Int.fmod_lt_of_pos _ (by decide)
   generalize q4m cc = b at *
   generalize j1h b k = mx at *
   refine q1r (q6x (z6d (q02 rfl (q4e (q04 (v := .int b) ((q0h I _).trans k4) (by refine rwb (q0b _ _) ?_; kernel_rfl) (H12.ev I (n := 12) ?_) (by decide +kernel))))))
   rw [plInt]
   refine ⟨rfl, rfl, ?_⟩
   refine q7e (.of_right ?_) (q02 rfl (q04 (v := .int mx) ((q0h I _).trans k5) (by refine rwb (q0b _ _) ?_; kernel_rfl) (q17 ⟨(q21 (by show 2 <= 1000000; decide)), ?_⟩) (by decide +kernel)))
   . split <;> exact PySem.intBits_le_64 (by decide) (by decide)
   . refine q _ _ ?_ x0 (Int.lt_trans x1 (by decide))
     split <;> omega
 refine q5p H12 I (n := 12) (ss := [plS 0]) ?_
 (refine rwm (show ([(q15, V.lst (is.map .int)), (Str.ofString "k", .int k)] : Loc) = plL0 (is.map .int) k from rfl) ?_; rewrite [pl0])
 refine q1r (j5u (TrG.mono (H12.evT I (n := 12) (Q := fun b st' => b = decide ((k : Int) < ((is.map V.int).length : Int)) /\ st' = ⟨0, []⟩) ?_) fun b st' hb => ?_))
 . rw [x1x]
   exact ⟨decide_eq_true (by refine rwm (List.length_map _) ?_; exact Nat.le_trans (Nat.le_of_lt hm) (by decide)), rfl, rfl⟩
 . obtain ⟨rfl, rfl⟩ := hb
   by_cases hlt : (k : Int) < ((is.map V.int).length : Int)
   . refine rwm (if_pos (decide_eq_true hlt)) ?_
     have hk2 : k < (is.map V.int).length := Int.ofNat_lt.mp hlt
     refine q1r (q5n (I.top rfl) ((q0h I _).trans k3) (q8z rfl (q04 (v := .lst (is.map .int)) ((q0h I _).trans k1) (by refine rwb (q0b _ _) ?_; kernel_rfl) (q04 (v := .int k) ((q0h I _).trans k2) (by refine rwb (q0b _ _) ?_; kernel_rfl) (q78 (z8s hk2 (by refine rwm (List.length_map _) ?_; exact hm)) rfl ?_) (by decide +kernel)) (by decide +kernel))) rfl)
     refine rwm (List.getElem_map _) ?_
     show ExS c P (q6k (Str.ofString "cell") _ (j7b (is.map .int) k 0)) _ _ _ _
     rw [x1y]
     exact z6m (rest _)
   . refine rwm (if_neg (by simpa using hlt)) ?_
     exact z6m (rest 0)
theorem z6l {c : Cx} {P : Pt} {ρ ρ0 ρE : Loc} {st : St} {X : Exc} {Q : Fl -> Loc -> St -> Prop} {t : Sem Flow} (hcn : P.cn = []) (hρ : ∀ x v, ρ0.lookup x = some v -> ρ.lookup x = some v /\ Pl c v) (hE : ∀ x v, ρE.lookup x = some v -> Pl c v)
   (h : ExB c P ρ0 ⟨0, []⟩ t (fun fl ρ' st' => fl = .next /\ ∀ x v, ρE.lookup x = some v -> ρ'.lookup x = some v) noX) (q : Q .next ρE ⟨st.nx, []⟩) : ExB c P ρ st t Q X :=
 fun g pv m news h0 s Qc Ec a K => by
 refine h ⟨g.kn, fun W0 => none, fun W0 => none, fun W0 => none⟩ pv m news h0 s Qc Ec ⟨a.ok, a.below, a.dicts, a.fr, a.nw, ⟨a.hk.kni, a.hk.pvi, fun n o e => (nomatch e), fun n o W0 W0 e => (nomatch e), fun n n' o o' W0 W0 W0 W0 W0 e => (nomatch e), fun n W0 => ⟨rfl, rfl, rfl⟩, a.hk.pk⟩, fun x v e => ?_, fun x n e => ?_, a.nsk⟩ ?_
 . obtain ⟨e1, e2⟩ := hρ x v e
   refine e12 (a.loc x v e1 :) fun y hy r => ?_
   exact ⟨y, hy, e2 g _ _ (fun W0 h => h) r⟩
 . rw [hcn] at e; exact zns e
 . constructor
   . intro g' m' news' h0' h' tk x b ρ' st' l v a' r q'
     obtain ⟨rfl, hl⟩ := q'
     refine K.ok ⟨g'.kn, g.pl, g.zi, g.by_⟩ m' news' h0' h' tk x .next ρE ⟨st.nx, []⟩ ⟨fun p hp => l.kn p hp, fun W0 W0 h => h, fun W0 W0 h => h, fun W0 W0 h => h⟩ v ?_ ?_ q
     . exact ⟨a'.ok, a'.below, a'.dicts, a'.fr, a'.nw, ⟨a'.hk.kni, a'.hk.pvi, fun n o e => (nomatch e), fun n o W0 W0 e => (nomatch e), fun n n' o o' W0 W0 W0 W0 W0 e => (nomatch e), fun n hn => a.hk.fin n hn, a'.hk.pk⟩, fun x v e => by
         refine e12 (a'.loc x v (hl x v e) :) fun y hy r => ?_
         exact ⟨y, hy, hE x v e g' _ _ (fun W0 h => h) r⟩, fun x n e => (by rw [hcn] at e; exact zns e), a'.nsk⟩
     . cases r; exact .next
   . intro _ _ _ _ _ _ _ _ _ _ _ x
     exact x.elim
theorem At.nameP {c : Cx} {P : Pt} {g : Gh} {ρ : Loc} {st : St} {pv news : List (Addr × Obj)} {m ns : Str -> Option Value} {h0 h : Heap} (a : At c P g ρ st pv m ns news h0 h) (ad : Addr × Addr) : ∃ g', g.le g' /\ At c P g' ρ st.nxt pv m ns news h0 h /\ g'.pl st.nx = some ad := by
 have f := a.hk.fin st.nx (Nat.le_refl _)
 have no : ∀ {n o}, st.get n = some o -> n ≠ st.nx := fun {n o} e q => by
   obtain ⟨b, d, k, _⟩ := a.hk.own n o e
   rw [q, f.1] at k
   exact zns k
 have l : g.le ⟨g.kn, fun n => if n = st.nx then some ad else g.pl n, g.zi, g.by_⟩ := ⟨fun W0 h => h, fun n j e => by
   show (if n = st.nx then some ad else g.pl n) = some j
   by_cases q : n = st.nx
   . rw [q, f.1] at e; exact zns e
   . refine rwm (if_neg q) ?_; exact e, fun W0 W0 h => h, fun W0 W0 h => h⟩
 have back : ∀ {n o j}, st.get n = some o -> (if n = st.nx then some ad else g.pl n) = some j -> g.pl n = some j := fun e k => by rw [if_neg (no e)] at k; exact k
 refine ⟨_, l, ⟨a.ok, a.below, a.dicts, a.fr, a.nw, ⟨a.hk.kni, a.hk.pvi, fun n o e => ?_, fun n o b d e k => a.hk.off n o b d e (back e k), fun n n' o o' b d b' d' hn e e' k k' => a.hk.apart n n' o o' b d b' d' hn e e' (back e k) (back e' k'), fun n hn => ?_, a.hk.pk⟩, fun x v e => ?_, fun x n e => ?_, a.nsk⟩, if_pos rfl⟩
 . refine e22 (a.hk.own n o e :) fun b d k r => ?_
   exact ⟨b, d, l.pl _ _ k, r.mono l fun p hp W0 => hp⟩
 . have hn : st.nx + 1 <= n := hn
   have := a.hk.fin n (Nat.le_of_succ_le hn)
   exact ⟨by show (if n = st.nx then some ad else g.pl n) = none; refine rwm (if_neg (Nat.ne_of_gt hn)) ?_; exact this.1, this.2⟩
 . refine e12 (a.loc x v e :) fun y q r => ?_
   exact ⟨y, q, r.mono l⟩
 . refine e12 (a.cel x n e :) fun b q r => ?_
   exact ⟨b, q, l.pl _ _ r⟩
noncomputable def j8y : Str := Str.ofString "source"
theorem x0l {c : Cx} {P : Pt} {ρ : Loc} {vs : List V} {x y : Int} {t : Sem Flow} (hcn : P.cn = []) (hx : 0 <= x) (hy : 0 <= y /\ y < 2147483648) (h1 : ρ.lookup q15 = some (.lst vs)) (h2 : ρ.lookup j8y = some (.ref 0))
   (h : ExB c P locP (q1l x 4 1 2 []) t (fun fl ρ' W0 => fl = .next /\ ρ'.lookup q15 = some (.ref 3)) noX) : ExB c P ρ ⟨1, [(0, .list [.int x, .int y])]⟩ t (fun fl ρ' st' => fl = .next /\ ∀ z v, [(q15, V.lst vs)].lookup z = some v -> ρ'.lookup z = some v) noX :=
 fun g pv m news h0 s Qc Ec a K => by
 refine hid fun hG => ?_
 refine e13 (a.nameZ x :) fun g1 l1 a1 e1 => ?_
 refine e13 (a1.nameZ y :) fun g2 l2 a2 e2 => ?_
 refine e12 (a.loc _ _ h1 :) fun ys ns rs => ?_
 refine hG ?_
 (refine e33 rs.lstI fun sa its kk r => ?_; subst r; intro hsa hits)
 refine e13 (a2.nameP (sa, sa) :) fun g3 l3 a3 e3 => ?_
 have a4 := a3.relist (n := 0) (vs := [.int x, .int y]) (vs' := j7s x 1 2) rfl fun its hv => by
   (refine e23 hv.twoI fun y1 z1 r => ?_; refine rwm r ?_; intro r1 r2)
   refine e11 r1.intI fun t1 r => rwm r ?_
   refine e11 r2.intI fun t2 r => rwm r ?_
   exact .cons (.sint _ ⟨x, l3.zi _ _ (l2.zi _ _ e1), (Int.add_zero _).symm, ⟨hx, Int.le_refl _⟩⟩) (.cons (.sint _ ⟨y, l3.zi _ _ e2, (Int.add_zero _).symm, ⟨hy.1, Int.le_sub_one_of_lt hy.2⟩⟩) .nil)
 have a5 : At c P g3 locP (q1l x 4 1 2 []) pv m m news h0 s.heap := by
   have e : St.set (St.nxt (St.nxt (St.nxt ⟨1, [(0, .list [.int x, .int y])]⟩))) 0 (.list (j7s x 1 2)) = q1l x 4 1 2 [] := set0
   rw [e] at a4
   refine a4.reloc fun z v e => ?_
   rcases mc (q0l e) with e | e
   . cases e
     exact a4.loc _ _ h2
   rcases mc e with e | e
   . cases e
     exact ⟨_, ns, .ref e3⟩
   . cases e
 have l : g.le g3 := l1.trans (l2.trans l3)
 refine h g3 pv m news h0 s Qc Ec a5 ⟨fun g' m' news' h0' h' tk z fl ρ' st' l' v a' r q => ?_, fun W0 W0 W0 W0 W0 W0 W0 W0 W0 W0 W0 x => x.elim⟩
 obtain ⟨rfl, e⟩ := q
 refine e12 (a'.loc _ _ e :) fun w hw rw_ => ?_
 (refine e22 rw_.refI fun a6 d6 r => ?_; subst r; intro hp6)
 have : (sa, sa) = (a6, d6) := oi ((l'.pl _ _ e3).symm.trans hp6)
 cases this
 refine K.ok g' m' news' h0' h' tk z .next [(q15, .lst vs)] st' (l.trans l') v (a'.reloc fun z v e => ?_) (by cases r; exact .next) ⟨rfl, fun z v e => e⟩
 rcases mc (q0l e) with e | e
 . cases e
   exact ⟨_, hw, rs.mono (l.trans l')⟩
 . cases e
noncomputable def lb0 : Stmt := (z0u[0]?).getD (.Pass ⟨0, 0, 0, 0⟩)
noncomputable def clE : Expr -> Expr
 | .Call f _ _ _ => f
 | _ => noE
noncomputable def clEs (i : Nat) : Expr -> Expr
 | .Call _ es _ _ => (es[i]?).getD noE
 | _ => noE
noncomputable def clP : Expr -> Pos
 | .Call _ _ _ p => p
 | _ => ⟨0, 0, 0, 0⟩
theorem x07 : z0u = .Assign [.Name j8y (q8h (asT lb0))] (.Call (.Name (Str.ofString "_law_pool") (q8h (clE (asE lb0)))) [.Name q15 (q8h (clEs 0 (asE lb0))), .Name (Str.ofString "k") (q8h (clEs 1 (asE lb0)))] [] (clP (asE lb0))) (stP lb0) :: z0u.drop 1 := by kernel_rfl
theorem j3k : q05 z4e q15 = some .local /\ q05 z4e (Str.ofString "k") = some .local /\ q05 z4e j8y = some .local := ⟨by kernel_rfl, by kernel_rfl, by kernel_rfl⟩
theorem j1c : q2i lk0 z4e (Str.ofString "_law_pool") = .val (.prim (.ref 1045)) := by kernel_rfl
theorem j8c {c : Cx} {P : Pt} (B : Bs c) (I : PI P z4e ⟨[], 100, true, true⟩) (hcn : P.cn = []) (hall : AllCls) {is : List Int} (hm : is.length < 1000) {k : Nat} (hk : k < 2) {st : St} {Q : Fl -> Loc -> St -> Prop} {X : Exc} (q : ∀ st, Q .next [(q15, .lst (is.map .int))] st) :
   ExS c P [(q15, .lst (is.map .int)), (Str.ofString "k", .int k)] st z0u Q X := by
 refine z6l (ρ0 := [(q15, .lst (is.map .int)), (Str.ofString "k", .int k)]) (ρE := [(q15, .lst (is.map .int))]) hcn (fun x v e => ⟨e, ?_⟩) (fun x v e => ?_) ?_ (q _)
 . rcases mc (q0l e) with e | e
   . cases e; exact Pl.lst
   rcases mc e with e | e
   . cases e; exact Pl.int
   . cases e
 . rcases mc (q0l e) with e | e
   . cases e; exact Pl.lst
   . cases e
 refine e03 j3k fun k1 k2 k3 => ?_
 refine rwm x07 ?_
 refine q1r (q5n (I.top rfl) ((q0h I _).trans k3) (q5k (f := .ref 1045) (q9a (B.lk0.keep (by kernel_rfl))) rfl (q2j B.lk0 I j1c ⟨rfl, q02 rfl (q04 (v := .lst (is.map .int)) ((q0h I _).trans k1) (by refine rwb (q0b _ _) ?_; kernel_rfl) (q02 rfl (q04 (v := .int k) ((q0h I _).trans k2) (by refine rwb (q0b _ _) ?_; kernel_rfl) (q17 (z2v.toP (j7d B hk hm (d := 99) (fun a b ha hb hb' => ?_) P _ I.d I.tn (I.nh.trans rfl)))) (by decide +kernel))) (by decide +kernel))⟩)) rfl)
 refine x0l hcn ha ⟨hb, hb'⟩ ?_ ?_ (j70 B I hcn hall fun nx => ⟨rfl, by refine rwb (q0b _ _) ?_; kernel_rfl⟩)
 . show (q6k j8y _ _).lookup _ = _
   rw [q1b]
   have : (q15 == j8y) = false := by decide +kernel
   (refine rwm this ?_; refine rwm (if_neg (by decide)) ?_; refine rwb (q0b _ _) ?_)
   kernel_rfl
 . show (q6k j8y _ _).lookup _ = _
   rw [q1b]
   simp
noncomputable def j7t (l : List Stmt) (i : Nat) : Stmt := (l[i]?).getD (.Pass ⟨0, 0, 0, 0⟩)
noncomputable def foE : Stmt -> Expr
 | .For _ e _ _ _ => e
 | _ => noE
noncomputable def foT : Stmt -> Expr
 | .For t _ _ _ _ => t
 | _ => noE
noncomputable def foP : Stmt -> Pos
 | .For _ _ _ _ p => p
 | s => stP s
noncomputable def coK : Expr -> Nat
 | .Constant _ k _ => k
 | _ => 0
noncomputable def coP : Expr -> Pos
 | .Constant _ _ p => p
 | _ => ⟨0, 0, 0, 0⟩
noncomputable def lawI : Expr := foE (j7t q92.body 0)
noncomputable def rtB : Expr := asE (j7t q92.body 1)
theorem j1a : q92.body = [.For (.Name (Str.ofString "k") (q8h (foT (j7t q92.body 0)))) lawI z0u [] (foP (j7t q92.body 0)), .Return (some (.Constant (.bool true) (coK rtB) (coP rtB))) (stP (j7t q92.body 1))] := by kernel_rfl
noncomputable def q8b (n : Int) : Int := if (if n < (2 : Int) then n else (2 : Int)) > 1 then (if n < (2 : Int) then n else (2 : Int)) else 1
theorem j1b (us : List V) (st : St) : (q0q lk0 true 12).ev ⟨[], 100, true, true⟩ (cE lk0 12 z4e lawI) [(q15, .lst us)] st = (.need (decide (us.length <= (1000000 : Nat))) (.need .true (.need .true (.need .true (.ok (.rng 0 (q8b us.length) 1) st))))) := by kernel_rfl
theorem z3p : q9f lawI = true := by kernel_rfl
theorem j6h (v : V) (k : Int) : q6k (Str.ofString "k") (.int k) [(q15, v)] = [(q15, v), (Str.ofString "k", .int k)] := by
 rw [<- q1s]
 kernel_rfl
theorem x09 {c : Cx} {P : Pt} (B : Bs c) (I : PI P z4e ⟨[], 100, true, true⟩) (hcn : P.cn = []) (hall : AllCls) {is : List Int} (hm : is.length < 1000) {st : St} {Q : Fl -> Loc -> St -> Prop} {X : Exc} (q : ∀ ρ st, Q (.ret (.bool true)) ρ st) :
   ExS c P [(q15, .lst (is.map .int))] st q92.body Q X := by
 refine e03 j3k fun k1 k2 k3 => ?_
 refine rwm j1a ?_
 have fin : ∀ st, ExS c P [(q15, .lst (is.map .int))] st [.Return (some (.Constant (.bool true) (coK rtB) (coP rtB))) (stP (j7t q92.body 1))] Q X := fun st => q1r (q6x (z0k (q _ _)))
 have one : ∀ (k : Nat) (hk : k < 2) (st : St) {Q : Fl -> Loc -> St -> Prop} (q : ∀ st, Q .next [(q15, .lst (is.map .int))] st), z4f c P [(q15, .lst (is.map .int))] st (.Name (Str.ofString "k") (q8h (foT (j7t q92.body 0)))) (.int k) fun ρ₁ st₁ => ExS c P ρ₁ st₁ z0u Q noX := fun k hk st Q q => by
   refine z1m (I.top rfl) ((q0h I _).trans k2) ?_
   show ExS c P (q6k (Str.ofString "k") (.int k) [(q15, .lst (is.map .int))]) st z0u _ noX
   refine rwm (j6h _ _) ?_
   exact j8c B I hcn hall hm hk q
 refine q1r (j3f (I.top rfl) (q2m z3p _) ((q3c (vc := true) B.lk0 12).ev I (n := 12) ?_))
 refine rwm (j1b _ _) ?_
 refine ⟨decide_eq_true (by refine rwm (List.length_map _) ?_; omega), rfl, rfl, rfl, ?_⟩
 have ht : q8b ((is.map V.int).length : Int) = 1 \/ q8b ((is.map V.int).length : Int) = 2 := by unfold q8b; split <;> split at * <;> omega
 rcases ht with e | e
 . refine rwm e ?_
   exact ⟨[.int 0], (q3s (I.nh.trans rfl) (by kernel_rfl)).1, one 0 (by omega) _ fun st => fin st⟩
 . refine rwm e ?_
   exact ⟨[.int 0, .int 1], (q3s (I.nh.trans rfl) (by kernel_rfl)).1, one 0 (by omega) _ fun st => one 1 (by omega) _ fun st => fin st⟩
theorem z86 {c : Cx} {g : Gh} {P : Params} {h : Heap} : ∀ {is : List Int} {vs : List Value}, WellAll P h vs (is.map WData.int) -> VRs c g (is.map .int) vs := by
 intro is
 induction is with
 | nil => intro vs w; cases w; exact .nil
 | cons i is ih =>
   intro vs w
   cases w with | cons w1 w2 =>
   cases w1
   exact .cons (.int _ _) (ih w2)
theorem x08 {c : Cx} (B : Bs c) (hall : AllCls) {base : Heap} {env : Env} {s : Shared} {m : Str -> Option Value} {is : List Int} {vs : List Value} {a : Addr} {P0 : Params} {body : List Stmt} {Q : Flow -> Shared -> Prop} {E : Value -> Shared -> Prop}
   (hbody : body = q92.body) (hsc : env.scope = q92.sc) (hfr : env.frame = some base.objs.size) (hlo : env.locals = base.objs.size) (hgl : env.globals = mainGlobals) (hbl : env.builtins = builtinsNs)
   (KX : c.K.In base) (T : Top c.p c.loose c.mean c.mg c.mb base) (hH : c.H0 = base) (K0 : Below callerA base [] base) (F : Fr base base.objs.size s.heap m) (hm : m q15 = some (.ref a))
   (hl : base.get? a = some { cls := .type "list", data := .seq vs.toArray }) (hv : WellAll P0 base vs (is.map WData.int)) (hlen : is.length < 1000)
   (hq : ∀ h' tk, (∀ b o, base.get? b = some o -> h'.get? b = some o) -> Q (.ret (.bool true)) { s with heap := h', toks := tk }) :
   wpAny (model c.prog c.w) (callerA.deeper env) (execs body env) Q E s := by
 subst hbody
 let P : Pt := { A := callerA.deeper env, A0 := callerA, base := base, outer := [], env := env, top := env, L := base.objs.size, cn := [], d := 100, tn := true, nh := true }
 have hk : q92.sc.kind = .function := by kernel_rfl
 have ok : POk c P := ⟨Around.frames_deeper K0.stack, hfr, by refine rwm hsc ?_; exact hk, by refine rwm hsc ?_; exact hk, hgl, hbl, KX, T, fun b o e => by rw [hH] at e; exact e, (by show callerA.depth + 1 + 4 * 100 + 4 < recursionLimit; decide +kernel), (by show callerA.units + 3 + 40 * 100 + 400 < cLine; decide +kernel), fun W0 => rfl⟩
 have I : PI P z4e ⟨[], 100, true, true⟩ := ⟨hsc, rfl, rfl, rfl, rfl, fun W0 => hlo, fun W0 => rfl⟩
 let g : Gh := ⟨[], fun W0 => none, fun W0 => none, fun W0 => none⟩
 have a0 : At c P g [(q15, .lst (is.map .int))] ⟨0, []⟩ [] m m [] base s.heap := by
   refine ⟨ok, K0, ktsDicts_nil, F, fun p hp => (nomatch hp), ⟨fun p hp => (nomatch hp), fun p hp => (nomatch hp), fun n o e => (nomatch e), fun n o W0 W0 e => (nomatch e), fun n n' o o' W0 W0 W0 W0 W0 e => (nomatch e), fun n W0 => ⟨rfl, rfl, rfl⟩, fun p hp => (nomatch hp)⟩, fun x v e => ?_, fun x n e => (nomatch e), .inl ⟨hlo, rfl⟩⟩
   rcases mc (q0l e) with e | e
   . cases e
     exact ⟨_, hm, .lst (k := 0) (.inr (by refine rwm hH ?_; exact hl)) (z86 hv)⟩
   . cases e
 refine x09 (P := P) B I rfl hall hlen (Q := fun fl W0 W0 => fl = .ret (.bool true)) (X := noX) (fun W0 W0 => rfl) g [] m [] base s Q E a0 ⟨fun g' m' news' h0' h' tk x b ρ' st' l v a' r q => ?_, fun W0 W0 W0 W0 W0 W0 W0 W0 W0 W0 W0 x => x.elim⟩
 subst q
 cases r with | ret r =>
 obtain rfl := r.boolI
 exact hq h' tk fun b o e => a'.fr.keep _ _ (v.turn.other b o e (fun z => nomatch z))
theorem law_fin {prog : Program} {w : World} {K : Frag} {p : Program} {loose : List Str} {mean : ExcName -> Option Value} {mg mb : Str -> Option Value} (tb : TabsOk tabs K) (hall : AllCls) {base : Heap} {env : Env} {s : Shared} {m : Str -> Option Value} {is : List Int} {a : Addr} {P0 : Params} {body : List Stmt} {Q : Flow -> Shared -> Prop} {E : Value -> Shared -> Prop}
   (KX : K.In base) (T : Top p loose mean mg mb base) (K0 : Below callerA base [] base) (F : Fr base base.objs.size s.heap m) (W : Well P0 base (.ref a) (ofPy (PyData.list (is.map PyData.int)))) (hlen : ¬ (63 : Int) < is.length)
   (hbody : body = q92.body) (hsc : env.scope = q92.sc) (hfr : env.frame = some base.objs.size) (hlo : env.locals = base.objs.size) (hgl : env.globals = mainGlobals) (hbl : env.builtins = builtinsNs) (hm : m q15 = some (.ref a))
   (hq : ∀ h' tk, (∀ b o, base.get? b = some o -> h'.get? b = some o) -> Q (.ret (.bool true)) { s with heap := h', toks := tk }) :
   wpAny (model prog w) (callerA.deeper env) (execs body env) Q E s := by
 have e : ofPy (PyData.list (is.map PyData.int)) = .list (is.map WData.int) := by
   show WData.list (ofPys (is.map PyData.int)) = _
   (refine rwm (ofPys_eq _) ?_; refine rwm List.map_map ?_)
   rfl
 rw [e] at W
 cases W with | list h1 h2 =>
 exact x08 (c := ⟨prog, w, K, p, loose, mean, mg, mb, base⟩) ⟨tb, trivial⟩ hall hbody hsc hfr hlo hgl hbl KX T rfl K0 F hm h1 h2 (by omega) hq
noncomputable def fz (o : Obj) : Option Obj := Heap.get? ⟨#[o], {}⟩ 0
noncomputable def pick (l : List Obj) : Nat -> List Nat -> Frag -> Frag := List.rec (fun W0 W0 t => t) (fun o W0 ih i as t => List.rec t (fun a r W0 => cond (a.beq i) (Option.rec (ih i.succ r t) (fun o => (a, o) :: ih i.succ r t) (fz o)) (ih i.succ as t)) as) l
theorem z74 (l : List Obj) : ∀ {i : Nat} {as : List Nat} {t : Frag} {a : Nat} {o : Obj}, (pick l i as t).lookup a = some o -> (∃ k, a = i + k /\ (l[k]?).bind fz = some o) \/ t.lookup a = some o := by
 induction l with
 | nil => exact fun e => .inr e
 | cons x l ih =>
   intro i as t a o e
   have nx : ∀ {as : List Nat}, (pick l i.succ as t).lookup a = some o -> (∃ k, a = i + k /\ ((x :: l)[k]?).bind fz = some o) \/ t.lookup a = some o := fun e => (ih e).elim (fun ⟨k, h1, h2⟩ => .inl ⟨k + 1, h1.trans (Nat.succ_add i k), h2⟩) .inr
   induction as with
   | nil => exact .inr e
   | cons b r _ =>
     have e : List.lookup a (cond (b.beq i) (Option.rec (pick l i.succ r t) (fun o => (b, o) :: pick l i.succ r t) (fz x)) (pick l i.succ (b :: r) t) : Frag) = some o := e
     refine q27 (b.beq i) (fun hc => ?_) fun hc => ?_
     . rw [hc] at e
       refine q1v (fz x) (fun hb => ?_) fun u hb => ?_
       . rw [hb] at e; exact nx e
       . rw [hb] at e
         have e : (match a == b with | true => some u | false => List.lookup a (pick l i.succ r t)) = some o := e
         refine q27 (a == b) (fun hd => ?_) fun hd => ?_
         . rw [hd] at e
           exact .inl ⟨0, (eq_of_beq hd).trans (Nat.eq_of_beq_eq_true hc), hb.trans e⟩
         . rw [hd] at e; exact nx e
     . rw [hc] at e; exact nx e
noncomputable def frK (h : Heap) : Frag := pick h.objs.toList 0 [3,37,38,50,51,62,63,74,75,186,187,285,286,454,455,586,587,635,636,719,720,740,741,847,848,896,897,950,951,1033,1034] (pick h.objs.toList 0 [34,35,83,84,90,91,97,98,104,105,111,112,118,119,120,126,127,128,134,135,148,149,155,156,162,163,197,198,204,205,211,212,218,219,225,226,232,233,241,247,248,254,255,296,297,303,304,310,311,317,318,324,325,331,332,338,339,345,346,352,353,359,360,366,367,368,374,375,381,382,388,389,395,396,409,410,416,417,423,424,430,431,444,445,451,452,472,473,486,487,505,506,512,513,519,520,526,527,533,534,540,541,547,548,554,555,563,569,570,604,605,611,612,618,619,632,633,646,647,660,661,674,675,681,682,709,710,737,738,751,752,760,766,767,773,774,780,781,787,788,794,795,801,802,808,809,815,816,822,823,824,830,831,865,866,872,873,879,880,886,887,893,894,914,915,921,922,928,929,935,936,940,941,961,962,968,969,975,976,984,990,991,997,998,1002,1003,1016,1017,1044,1045,1051,1052,1058,1059,1063,1064,1070,1071,1077,1078,1084,1085,1091,1092,1098,1099,1105,1106,1110,1111,1117,1118,1124,1125,1129,1130,1136,1137,1141,1142,1148,1149,1155,1156,1162,1163] [])
theorem x0t (h : Heap) : (frK h).In h := fun a o e => by
 have f : ∀ {k}, a = 0 + k -> (h.objs.toList[k]?).bind fz = some o -> h.get? a = some o := fun {k} h1 h2 => by
   rw [Nat.zero_add] at h1
   subst h1
   rw [Array.getElem?_toList] at h2
   unfold Heap.get?
   refine q1v (h.objs[a]?) (fun hb => ?_) fun u hb => ?_
   . rw [hb] at h2; exact ns h2
   . rw [hb] at h2; exact h2
 exact (z74 _ e).elim (fun ⟨_, h1, h2⟩ => f h1 h2) fun e => (z74 _ e).elim (fun ⟨_, h1, h2⟩ => f h1 h2) fun e => ns e
noncomputable def tabB (K : Frag) : Bool := cond (gls.list.all (fun q => q.2.all (z0q K))) (cond (z04 z52.list) (cond ((q7v z52.list).all (fun p => j0w K p.1 && keepIn K (.ref p.1))) (cond ((j45 z52.list).all (fun p => makesIn K p.1 && (findIn K (.ref p.1) "__init__" == some (some (.ref p.2))) && (typeIn K (.ref p.2) == some (.type "function")) && keepIn K (.ref p.1))) (cond (ats.list.all (fun p => p.2.all fun x => q8o K p.1 x && z39 K p.1 x)) (cond (mes.list.all (fun p => p.2.all fun x => q9c K p.1 x.1 x.2)) ((j8o z52.list).all (fun p => j8l K p.1 p.2.1 p.2.2)) false) false) false) false) false) false
theorem j7z {K : Frag} (h : tabB K = true) (f : (q7v z52.list).map (fun p => fnK K p.1) = (q7v z52.list).map (fun p => some p.2)) : TabsOk tabs K := by
 obtain ⟨h1, h⟩ := q0o h
 obtain ⟨h2, h⟩ := q0o h
 obtain ⟨h3, h⟩ := q0o h
 obtain ⟨h4, h⟩ := q0o h
 obtain ⟨h5, h⟩ := q0o h
 obtain ⟨h6, h7⟩ := q0o h
 exact ⟨h1, h2, f, h3, h4, h5, h6, h7⟩
noncomputable def hkT : Hook := ⟨Bool × List (Option FnRec), fun s => (tabB (frK s.heap), (q7v z52.list).map fun p => fnK (frK s.heap) p.1), fun W0 => (true, (q7v z52.list).map fun p => some p.2), fun W0 h => ∃ K, TabsOk tabs K /\ K.In h,
 fun W0 s e => ⟨_, j7z (congrArg Prod.fst e) (congrArg Prod.snd e), x0t _⟩, fun W0 W0 W0 x k => x.elim fun K y => ⟨K, y.1, y.2.keeps k⟩⟩
noncomputable def j85 (bs : List Box) (k : Kd) (dont : Bool) (off : Int) : Bool := List.rec true (fun b W0 ih => cond (j8v b k dont off) ih false) bs
noncomputable def bA : List Box := [⟨[33554431], z8u, q9b, q6b⟩, ⟨[33554433], z8u, q9b, q6b⟩, ⟨q53, [16777217], q9b, q6b⟩, ⟨q53, [33554433], q9b, q6b⟩, ⟨q53, [33554431], q9b, q6b⟩, ⟨q53, tFwd, [1], q6b⟩, ⟨q53, [150994949], x06, q6b⟩, ⟨z8d, [16777217], q9b, q6b⟩, ⟨z8d, [33554433], q9b, q6b⟩, ⟨z8d, [33554431], q9b, q6b⟩, ⟨z8d, tFwd, [1], q6b⟩, ⟨z8d, [150994949], x06, q6b⟩]
noncomputable def fB (s m : List Int) : List Box := [⟨s, [33554434], x06, m⟩, ⟨s, [50331647], x06, m⟩, ⟨s, [33554531], x06, m⟩]
noncomputable def yS0 : List Box := bA ++ fB z8d q6b
noncomputable def yD0 : List Box := fB q53 q6b
noncomputable def yS1 : List Box := bA ++ fB z8d [68, 1500]
noncomputable def yD1 : List Box := fB q53 [68, 1500] ++ fB q53 [60] ++ fB z8d [60]
noncomputable def yS2 : List Box := bA ++ fB z8d [1500]
noncomputable def yD2 : List Box := fB q53 [1500] ++ fB q53 [60] ++ fB q53 [68] ++ fB z8d [60] ++ fB z8d [68]
noncomputable def q2g (s t : List Box) (k : Kd) (off : Int) (dont : Bool) : Bool := cond (j85 s k dont off) (cond (j85 t k true off) (j85 t k false off) false) false
theorem bt5 (dont : Bool) : q2g yS2 yD2 (.echo 60) 0 dont = true := by kernel_rfl
theorem bt17 (dont : Bool) : q2g yS2 yD2 (.plain 60) 0 dont = true := by kernel_rfl
theorem bt23 (dont : Bool) : q2g yS2 yD2 (.echo 60) 8 dont = true := by kernel_rfl
theorem bt35 (dont : Bool) : q2g yS2 yD2 (.plain 60) 8 dont = true := by kernel_rfl
theorem bt4 (dont : Bool) : q2g yS1 yD1 (.echo 33) 0 dont = true := by kernel_rfl
theorem bt22 (dont : Bool) : q2g yS1 yD1 (.echo 33) 8 dont = true := by kernel_rfl
theorem bt0 (dont : Bool) : q2g yS0 yD0 (.echo 0) 0 dont = true := by kernel_rfl
theorem bt1 (dont : Bool) : q2g yS0 yD0 (.echo 1) 0 dont = true := by kernel_rfl
theorem bt2 (dont : Bool) : q2g yS0 yD0 (.echo 7) 0 dont = true := by kernel_rfl
theorem bt3 (dont : Bool) : q2g yS0 yD0 (.echo 8) 0 dont = true := by kernel_rfl
theorem bt6 (dont : Bool) : q2g yS0 yD0 (.error 0) 0 dont = true := by kernel_rfl
theorem bt7 (dont : Bool) : q2g yS0 yD0 (.error 1) 0 dont = true := by kernel_rfl
theorem bt8 (dont : Bool) : q2g yS0 yD0 (.error 7) 0 dont = true := by kernel_rfl
theorem bt9 (dont : Bool) : q2g yS0 yD0 (.error 8) 0 dont = true := by kernel_rfl
theorem bt10 (dont : Bool) : q2g yS0 yD0 (.error 33) 0 dont = true := by kernel_rfl
theorem bt11 (dont : Bool) : q2g yS0 yD0 (.error 60) 0 dont = true := by kernel_rfl
theorem bt12 (dont : Bool) : q2g yS0 yD0 (.plain 0) 0 dont = true := by kernel_rfl
theorem bt13 (dont : Bool) : q2g yS0 yD0 (.plain 1) 0 dont = true := by kernel_rfl
theorem bt14 (dont : Bool) : q2g yS0 yD0 (.plain 7) 0 dont = true := by kernel_rfl
theorem bt15 (dont : Bool) : q2g yS0 yD0 (.plain 8) 0 dont = true := by kernel_rfl
theorem bt16 (dont : Bool) : q2g yS0 yD0 (.plain 33) 0 dont = true := by kernel_rfl
theorem bt18 (dont : Bool) : q2g yS0 yD0 (.echo 0) 8 dont = true := by kernel_rfl
theorem bt19 (dont : Bool) : q2g yS0 yD0 (.echo 1) 8 dont = true := by kernel_rfl
theorem bt20 (dont : Bool) : q2g yS0 yD0 (.echo 7) 8 dont = true := by kernel_rfl
theorem bt21 (dont : Bool) : q2g yS0 yD0 (.echo 8) 8 dont = true := by kernel_rfl
theorem bt24 (dont : Bool) : q2g yS0 yD0 (.error 0) 8 dont = true := by kernel_rfl
theorem bt25 (dont : Bool) : q2g yS0 yD0 (.error 1) 8 dont = true := by kernel_rfl
theorem bt26 (dont : Bool) : q2g yS0 yD0 (.error 7) 8 dont = true := by kernel_rfl
theorem bt27 (dont : Bool) : q2g yS0 yD0 (.error 8) 8 dont = true := by kernel_rfl
theorem bt28 (dont : Bool) : q2g yS0 yD0 (.error 33) 8 dont = true := by kernel_rfl
theorem bt29 (dont : Bool) : q2g yS0 yD0 (.error 60) 8 dont = true := by kernel_rfl
theorem bt30 (dont : Bool) : q2g yS0 yD0 (.plain 0) 8 dont = true := by kernel_rfl
theorem bt31 (dont : Bool) : q2g yS0 yD0 (.plain 1) 8 dont = true := by kernel_rfl
theorem bt32 (dont : Bool) : q2g yS0 yD0 (.plain 7) 8 dont = true := by kernel_rfl
theorem bt33 (dont : Bool) : q2g yS0 yD0 (.plain 8) 8 dont = true := by kernel_rfl
theorem bt34 (dont : Bool) : q2g yS0 yD0 (.plain 33) 8 dont = true := by kernel_rfl
noncomputable def hasB (b : Box) (s t l m : Int) : Bool := b.S.elem s && b.T.elem t && b.L.elem l && b.M.elem m
noncomputable def z5t (bs : List Box) : Bool := j12.all fun s => z8u.all fun t => q9b.all fun l => q6b.all fun m => bs.any fun b => hasB b s t l m
theorem z95 {bs : List Box} (h : z5t bs = true) {s t l m : Int} (hs : s ∈ j12) (ht : t ∈ z8u) (hl : l ∈ q9b) (hm : m ∈ q6b) : ∃ b, b ∈ bs /\ s ∈ b.S /\ t ∈ b.T /\ l ∈ b.L /\ m ∈ b.M := by
 have h := aet h s hs
 have h := aet h t ht
 have h := aet h l hl
 have h := aet h m hm
 obtain ⟨b, hb, h⟩ := List.any_eq_true.mp h
 unfold hasB at h
 rw [Bool.and_eq_true, Bool.and_eq_true, Bool.and_eq_true] at h
 exact ⟨b, hb, List.elem_iff.mp h.1.1.1, List.elem_iff.mp h.1.1.2, List.elem_iff.mp h.1.2, List.elem_iff.mp h.2⟩
theorem q97 {k : Kd} {dont : Bool} {off : Int} {bs : List Box} (h : j85 bs k dont off = true) : ∀ b, b ∈ bs -> j8v b k dont off = true := by
 induction bs with
 | nil => exact fun b hb => nomatch hb
 | cons a bs ih =>
   have h := q0o (show cond (j8v a k dont off) (j85 bs k dont off) false = true from h)
   intro b hb
   rcases mc hb with e | hb
   . refine rwm e ?_
     exact h.1
   . exact ih h.2 b hb
noncomputable def q93 (k : Kd) (dont : Bool) (off : Int) : Prop := ∀ s t l m, s ∈ j12 -> t ∈ z8u -> l ∈ q9b -> m ∈ q6b -> ∃ b : Box, s ∈ b.S /\ t ∈ b.T /\ l ∈ b.L /\ m ∈ b.M /\ j8v b k dont off = true
theorem q0j {k : Kd} {off : Int} {s t : List Box} (hc : z5t (s ++ t) = true) (h : ∀ dont, q2g s t k off dont = true) (dont : Bool) : q93 k dont off := fun W0 W0 W0 W0 hs ht hl hm => by
 obtain ⟨b, hb, h1, h2, h3, h4⟩ := z95 hc hs ht hl hm
 refine ⟨b, h1, h2, h3, h4, ?_⟩
 rcases List.mem_append.mp hb with hb | hb
 . exact q97 (q0o (h dont)).1 b hb
 . induction dont using Bool.casesOn with
   | true => exact q97 (q0o (q0o (h true)).2).1 b hb
   | false => exact q97 (q0o (q0o (h false)).2).2 b hb
theorem q67 {n : Nat} {C : Nat -> Prop} (h : szB n = true) (c0 : C 0) (c1 : C 1) (c2 : C 7) (c3 : C 8) (c4 : C 33) (c5 : C 60) : C n := by
 refine e12 (List.any_eq_true.mp h :) fun k hk h => ?_
 refine rwm (Nat.eq_of_beq_eq_true h) ?_
 clear h
 rcases mc hk with rfl | hk
 . exact c0
 rcases mc hk with rfl | hk
 . exact c1
 rcases mc hk with rfl | hk
 . exact c2
 rcases mc hk with rfl | hk
 . exact c3
 rcases mc hk with rfl | hk
 . exact c4
 rcases mc hk with rfl | hk
 . exact c5
 exact nomatch hk
theorem q3f : z5t (yS0 ++ yD0) = true := by kernel_rfl
theorem cov1 : z5t (yS1 ++ yD1) = true := by kernel_rfl
theorem cov2 : z5t (yS2 ++ yD2) = true := by kernel_rfl
theorem allCls : AllCls := fun lf h => by
 obtain ⟨k, dont, off⟩ := lf
 unfold okLf at h
 rw [Bool.and_eq_true, Bool.or_eq_true] at h
 obtain ⟨hk, ho⟩ := h
 rcases ho with h | h
 . refine rwm (eq_of_beq h) ?_
   induction k using Kd.casesOn with
   | echo n => exact q67 (C := fun n => q93 (.echo n) dont 0) hk (q0j q3f bt0 dont) (q0j q3f bt1 dont) (q0j q3f bt2 dont) (q0j q3f bt3 dont) (q0j cov1 bt4 dont) (q0j cov2 bt5 dont)
   | error n => exact q67 (C := fun n => q93 (.error n) dont 0) hk (q0j q3f bt6 dont) (q0j q3f bt7 dont) (q0j q3f bt8 dont) (q0j q3f bt9 dont) (q0j q3f bt10 dont) (q0j q3f bt11 dont)
   | plain n => exact q67 (C := fun n => q93 (.plain n) dont 0) hk (q0j q3f bt12 dont) (q0j q3f bt13 dont) (q0j q3f bt14 dont) (q0j q3f bt15 dont) (q0j q3f bt16 dont) (q0j cov2 bt17 dont)
 . refine rwm (eq_of_beq h) ?_
   induction k using Kd.casesOn with
   | echo n => exact q67 (C := fun n => q93 (.echo n) dont 8) hk (q0j q3f bt18 dont) (q0j q3f bt19 dont) (q0j q3f bt20 dont) (q0j q3f bt21 dont) (q0j cov1 bt22 dont) (q0j cov2 bt23 dont)
   | error n => exact q67 (C := fun n => q93 (.error n) dont 8) hk (q0j q3f bt24 dont) (q0j q3f bt25 dont) (q0j q3f bt26 dont) (q0j q3f bt27 dont) (q0j q3f bt28 dont) (q0j q3f bt29 dont)
   | plain n => exact q67 (C := fun n => q93 (.plain n) dont 8) hk (q0j q3f bt30 dont) (q0j q3f bt31 dont) (q0j q3f bt32 dont) (q0j q3f bt33 dont) (q0j q3f bt34 dont) (q0j cov2 bt35 dont)
end Mine
set_option Elab.async true
open PySem PySem.W PySem.Calls PyProof.Rows
theorem Mine.main : PySem.Challenge.rw_nu0140_01.Holds := by
 w_on; o_law; o_head Mine.hkT; (case hw => w_witness2)
 intro w s₀ s₁ mg mb G Y fa o pm cd doc dV kV ho hd hcd hD hmg hg args vals as hpre hlay hrd hwl hlo
 k_behind G ho hd hcd hD hmg hpre hlay hrd hwl hlo cd
 obtain ⟨K, tb, KX⟩ := Y
 rename Top _ _ _ _ _ _ => T
 rename Below _ _ _ _ => K0
 rename Fr _ _ _ _ => F
 rename Well _ _ _ _ => W
 rename ¬ (_ < _) => hlen
 rename _ = #[] => hg
 refine Mine.law_fin tb Mine.allCls KX T K0 F W hlen ?_ ?_ rfl rfl rfl rfl ?_ ?_
 . kernel_rfl
 . kernel_rfl
 . kernel_rfl
 . intro h' tk hk
   exact ⟨.inl ⟨_, .bool true, [], rfl, (fun cls => by kernel_rfl), .bool true, by kernel_rfl, unshared_nil⟩, hk, rfl, hg⟩
theorem PySem.Challenge.cw_nu0140_01_holds : PySem.Challenge.rw_nu0140_01.Holds :=
 Mine.main
