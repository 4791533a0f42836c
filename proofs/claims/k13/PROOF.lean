import PyProof.Rows.All
import Wide.All
import OpenK.AllK
import Wide.FinOn
import HandS.ForMost
import HandS.ForExc
import HandS.Lambda
import HandS.TupMul
import HandS.Wide
import HandS.TupAny
import HandS.SortRule
import HandS.SortInts
import HandS.IsInst
import HandS.Style
import PyProof.StrLawsRepr
import HandS.Conv
import HandS.Star
import HandS.ExcIs
import HandS.ExcInit
import HandS.ExcField
import KE.KExcIs
import HandS.ClsMeth
import HandS.FStr
import HandS.Zip
import HandS.Deep
import HandS.Dict
import PyProof.ReprRoads
import HandS.Property
import HandS.SetFor
import HandS.Strs
import HandS.SlotsOwn
import HandS.WideBits
import HandS.ListItems
import HandS.Text
import PyProof.Rows.Range3
import HandS.EndTab
import KE.GoesEnum
import KE.DataMinMax
import PySem.Challenge.RW_evenplay_k13_films_formatted
set_option Elab.async false
namespace PySem.W.Fast
theorem tw14905098885683542698 : True := trivial
theorem tw1273923813475628185 : True := trivial
theorem tw6930471105202622725 : True := trivial
theorem tw14660233188638582904 : True := trivial
theorem tw5719135680707582804 : True := trivial
theorem tw6116469484365654456 : True := trivial
theorem tw3709063889139890317 : True := trivial
theorem tw2545987632437040474 : True := trivial
theorem tw16502340848343569014 : True := trivial
theorem tw14007658858257159276 : True := trivial
theorem tw11565601829618150473 : True := trivial
theorem tw10661967931242989758 : True := trivial
theorem tw17925032856097313231 : True := trivial
theorem tw11848846930420752333 : True := trivial
theorem tw4925386909956715294 : True := trivial
theorem tw10949318944321042956 : True := trivial
theorem tw5740263264679448645 : True := trivial
theorem tw2410138729681286625 : True := trivial
theorem tw11050666164917770323 : True := trivial
theorem tw3937252368711581967 : True := trivial
theorem tw6986365385022194548 : True := trivial
theorem tw14636795831825533030 : True := trivial
theorem tw5908141423867658461 : True := trivial
theorem tw3697561663429691368 : True := trivial
theorem tw11073986391182416672 : True := trivial
theorem tw2160507982227896675 : True := trivial
theorem tw12268197334924898148 : True := trivial
theorem tw4486247607325716159 : True := trivial
theorem tw7591610736528331362 : True := trivial
theorem tw2712551129365052017 : True := trivial
theorem tw949240804700985113 : True := trivial
theorem tw4439884423949637729 : True := trivial
theorem tw9350002650682584664 : True := trivial
theorem tw825479056639970405 : True := trivial
theorem tw9335811254831458928 : True := trivial
theorem tw1087154378485773342 : True := trivial
theorem tw12995759230143710249 : True := trivial
theorem tw13908494715644261492 : True := trivial
theorem tw9498059099389316952 : True := trivial
theorem tw9594287723992568041 : True := trivial
theorem tw1590307601428228460 : True := trivial
theorem tw14430906590297190373 : True := trivial
theorem tw8772654534498459176 : True := trivial
theorem tw11393750704980169098 : True := trivial
theorem tw11076266617142729311 : True := trivial
theorem tw2419866198224985022 : True := trivial
theorem tw2298955484938567718 : True := trivial
theorem tw13703099985076070454 : True := trivial
theorem tw8899219610810911388 : True := trivial
theorem tw14390770807273815552 : True := trivial
theorem tw10576332121438928885 : True := trivial
theorem tw639255215899998000 : True := trivial
theorem tw14405658008213885446 : True := trivial
theorem tw2394457987247918255 : True := trivial
theorem tw1030242801558043817 : True := trivial
theorem tw4236150507660590855 : True := trivial
theorem tw5561392130366251737 : True := trivial
theorem tw3866593110889195678 : True := trivial
theorem tw4507089951647020798 : True := trivial
theorem tw12475357983151946221 : True := trivial
theorem tw6946369721513530728 : True := trivial
theorem tw7602768854433333910 : True := trivial
theorem tw17358351842815399568 : True := trivial
theorem tw16836886942565302379 : True := trivial
theorem tw7341951650597605654 : True := trivial
theorem tw5279132569415904919 : True := trivial
theorem tw8691174302142500251 : True := trivial
theorem tw17129888720002013428 : True := trivial
theorem tw5211002406473373362 : True := trivial
theorem tw6011291385538854396 : True := trivial
theorem tw7678150511507255800 : True := trivial
theorem tw13015540646083205862 : True := trivial
theorem tw11513919662226919979 : True := trivial
theorem tw3793676998426318955 : True := trivial
theorem tw14991372935417277938 : True := trivial
theorem tw6365094594403083747 : True := trivial
theorem tw1085614872725666458 : True := trivial
theorem tw15648047376072582098 : True := trivial
theorem tw5739041375209108077 : True := trivial
theorem tw11325117684381856760 : True := trivial
theorem tw2185031563492168445 : True := trivial
theorem tw3806686368574583985 : True := trivial
theorem tw15320961365552887835 : True := trivial
theorem tw9283551169662408244 : True := trivial
theorem tw15915717950963910302 : True := trivial
theorem tw245621790203321709 : True := trivial
theorem tw14118599876755771572 : True := trivial
theorem tw2471777597557745461 : True := trivial
theorem tw11289854825730617760 : True := trivial
theorem tw18323138120792466567 : True := trivial
theorem tw746763105728026960 : True := trivial
theorem tw11176032410273211780 : True := trivial
theorem tw6491987305018698254 : True := trivial
theorem tw1467893964986942695 : True := trivial
theorem tw16539776124737195605 : True := trivial
theorem tw17652533542798760428 : True := trivial
theorem tw5991055655199172528 : True := trivial
theorem tw372514822237411739 : True := trivial
theorem tw2619103119654720110 : True := trivial
theorem tw813896007335992416 : True := trivial
theorem tw2876479004422230278 : True := trivial
theorem tw16615121894114316833 : True := trivial
theorem tw1053566889902309715 : True := trivial
theorem tw15697913147604678200 : True := trivial
theorem tw8158213290849473310 : True := trivial
theorem tw1839232705172824328 : True := trivial
theorem tw13483459944914174974 : True := trivial
theorem tw15457643203060585363 : True := trivial
theorem tw1296380045408793204 : True := trivial
theorem tw3831698463444260605 : True := trivial
theorem tw12673964240076789786 : True := trivial
theorem tw4829731325098290282 : True := trivial
theorem tw6415716313180407186 : True := trivial
theorem tw18040488185105773547 : True := trivial
theorem tw12910542209647793389 : True := trivial
theorem tw107277766029351669 : True := trivial
theorem tw17569499412854585030 : True := trivial
theorem tw422815038487771770 : True := trivial
theorem tw17553542785988867888 : True := trivial
theorem tw7252479967795128226 : True := trivial
theorem tw4161556371499455260 : True := trivial
theorem tw16347209126033658869 : True := trivial
theorem tw13119629575964879609 : True := trivial
theorem tw11161656970200009856 : True := trivial
theorem tw5659255852501483819 : True := trivial
theorem tw6244692636863155114 : True := trivial
theorem tw6583927831795913390 : True := trivial
theorem tw11723949213319494827 : True := trivial
theorem tw13908719336138638246 : True := trivial
theorem tw1659578005636014071 : True := trivial
theorem tw15913041486800213212 : True := trivial
theorem tw8213015673704551149 : True := trivial
theorem tw13855690322748740500 : True := trivial
theorem tw15017420673598947397 : True := trivial
theorem tw8313498984816612593 : True := trivial
theorem tw6804385866889048405 : True := trivial
theorem tw15017113189299237413 : True := trivial
theorem tw3536955481527046348 : True := trivial
theorem tw308054735323300626 : True := trivial
theorem tw4004584594024216135 : True := trivial
theorem tw16195709160026186960 : True := trivial
theorem tw5057592244441161712 : True := trivial
theorem tw15565985077816125966 : True := trivial
theorem tw18360276482813420390 : True := trivial
theorem tw4295380785521291519 : True := trivial
theorem tw10091922497993581761 : True := trivial
theorem tw2984606865563700568 : True := trivial
theorem tw17032997682657743847 : True := trivial
theorem tw11699964105044269739 : True := trivial
theorem tw5011701719458665794 : True := trivial
theorem tw7388860055819427820 : True := trivial
theorem tw1936364499704443923 : True := trivial
theorem tw4700159403536351417 : True := trivial
theorem tw2348859514128398690 : True := trivial
theorem tw2984293087328684303 : True := trivial
theorem tw6901474344105457276 : True := trivial
theorem tw18343199747725736521 : True := trivial
theorem tw7644104118102150266 : True := trivial
theorem tw11164354007647973776 : True := trivial
theorem tw10411370256711061572 : True := trivial
theorem tw4630773358168229341 : True := trivial
theorem tw16034693285728501365 : True := trivial
theorem tw17797481720428172461 : True := trivial
theorem tw3462559332813036611 : True := trivial
theorem tw4545779518566918783 : True := trivial
theorem tw13034657317688419530 : True := trivial
theorem tw1194058728021925924 : True := trivial
theorem tw5754384861561668814 : True := trivial
theorem tw3440426015347588758 : True := trivial
theorem tw17056329016316264547 : True := trivial
theorem tw5319666536506388484 : True := trivial
theorem tw2330240226137936667 : True := trivial
theorem tw161364552631613771 : True := trivial
theorem tw13783219296447153773 : True := trivial
theorem tw15157352459747822066 : True := trivial
theorem tw490718591430612794 : True := trivial
theorem tw4785344934507527571 : True := trivial
theorem tw7922499691887804128 : True := trivial
theorem tw13538015656470423047 : True := trivial
theorem tw10879807532332217913 : True := trivial
theorem tw10852194324247074394 : True := trivial
theorem tw140874292825845334 : True := trivial
theorem tw6307059933399000961 : True := trivial
theorem tw4921855035433029775 : True := trivial
theorem tw12723973794442547323 : True := trivial
theorem tw7833103555275743776 : True := trivial
theorem tw14399961173172999251 : True := trivial
theorem tw10218745700638211504 : True := trivial
theorem tw2039873260278256838 : True := trivial
theorem tw5110379296206175407 : True := trivial
theorem tw13700662598143594656 : True := trivial
theorem tw13094725263326809937 : True := trivial
theorem tw16661421980938190586 : True := trivial
theorem tw1714881995147888274 : True := trivial
theorem tw8403708115224428398 : True := trivial
theorem tw8348089833469648467 : True := trivial
theorem tw1906366274118904092 : True := trivial
theorem tw1694576616529051672 : True := trivial
theorem tw12580724370641598150 : True := trivial
theorem tw12179819234200925794 : True := trivial
theorem tw10799689794050728542 : True := trivial
theorem tw1565674586424362606 : True := trivial
theorem tw9974952865472534570 : True := trivial
theorem tw2383567982536449725 : True := trivial
theorem tw352932053322750057 : True := trivial
theorem tw4694982626257748872 : True := trivial
theorem tw14662676725302828059 : True := trivial
theorem tw2557453428561771466 : True := trivial
theorem tw8158604860953196758 : True := trivial
theorem tw1281495679802686191 : True := trivial
theorem tw2790867003416089480 : True := trivial
theorem tw18069760642541501875 : True := trivial
theorem tw12657201366525037410 : True := trivial
theorem tw8502790636408344412 : True := trivial
theorem tw18159507018809853191 : True := trivial
theorem tw5090994098755831814 : True := trivial
theorem tw8489605713746673546 : True := trivial
theorem tw5223610693410182203 : True := trivial
theorem tw17259196047634574017 : True := trivial
theorem tw14935207180786376206 : True := trivial
theorem tw1615119788020774316 : True := trivial
theorem tw6669347848158623828 : True := trivial
theorem tw5788705934676774156 : True := trivial
theorem tw17436456981925241260 : True := trivial
theorem tw8559814848685648927 : True := trivial
theorem tw15349737985454595949 : True := trivial
theorem tw10596665062961509443 : True := trivial
theorem tw2457004415937797444 : True := trivial
theorem tw11825177276451348782 : True := trivial
theorem tw4374903121507333205 : True := trivial
theorem tw9530409721388827847 : True := trivial
theorem tw16195834795165758287 : True := trivial
theorem tw11080473023970621038 : True := trivial
theorem tw4328070276533669061 : True := trivial
theorem tw7874374570260899661 : True := trivial
theorem tw3344226655897305597 : True := trivial
theorem tw14446785207725728250 : True := trivial
theorem tw2570708677465745351 : True := trivial
theorem tw739258867868567375 : True := trivial
theorem tw2260198038976729069 : True := trivial
theorem tw9567284947973609217 : True := trivial
theorem tw12543190421313929179 : True := trivial
theorem tw16836447368096638060 : True := trivial
theorem tw6516419008044045771 : True := trivial
theorem tw8527440572692542224 : True := trivial
theorem tw13718453297316278672 : True := trivial
theorem tw17656035135434472588 : True := trivial
theorem tw6239693087184806091 : True := trivial
theorem tw3265046840429570661 : True := trivial
theorem tw12925085273578347729 : True := trivial
theorem tw10048597014899971775 : True := trivial
theorem tw5171509928096486035 : True := trivial
theorem tw15244286596279006164 : True := trivial
theorem tw7623039328025571742 : True := trivial
theorem tw4030764692740115070 : True := trivial
theorem tw7940462135921289464 : True := trivial
theorem tw520799229748410006 : True := trivial
theorem tw8180389886239080082 : True := trivial
theorem tw8302629068521619065 : True := trivial
theorem tw5689702723326892854 : True := trivial
theorem tw7993306423072247071 : True := trivial
theorem tw17451618647442070503 : True := trivial
theorem tw18181422960427818195 : True := trivial
theorem tw12871448182886721462 : True := trivial
theorem tw15613246993819558399 : True := trivial
theorem tw11205376910622161855 : True := trivial
theorem tw4950547035759750851 : True := trivial
theorem tw2707685517748707479 : True := trivial
theorem tw1039061237345435425 : True := trivial
theorem tw14493737037119555887 : True := trivial
theorem tw14483976224319913981 : True := trivial
theorem tw2443844779382696098 : True := trivial
theorem tw562480806575823856 : True := trivial
theorem tw4059268050753062020 : True := trivial
theorem tw16680284365846885983 : True := trivial
theorem tw3876441551561654987 : True := trivial
theorem tw13661338613466717747 : True := trivial
theorem tw14865009403110233522 : True := trivial
theorem tw18184001307683041569 : True := trivial
theorem tw6055983275497411999 : True := trivial
theorem tw9756144939976026247 : True := trivial
theorem tw3944429341243668670 : True := trivial
theorem tw11107851826483704437 : True := trivial
theorem tw4460111071510032229 : True := trivial
theorem tw15776515399281919566 : True := trivial
theorem tw213482685477313719 : True := trivial
theorem tw7905165046658010789 : True := trivial
theorem tw16706226472895102990 : True := trivial
theorem tw2993292783544000281 : True := trivial
theorem tw15758304334960714237 : True := trivial
theorem tw833082633650148906 : True := trivial
theorem tw10273912512857231524 : True := trivial
theorem tw16839823124724276134 : True := trivial
theorem tw16485583190477022206 : True := trivial
theorem tw16824104889821857083 : True := trivial
theorem tw5587497158304276777 : True := trivial
theorem tw17106344553872271179 : True := trivial
theorem tw4234512836959495536 : True := trivial
theorem tw1485317838766435872 : True := trivial
theorem tw2425449094999378246 : True := trivial
theorem tw17751190490889078240 : True := trivial
theorem tw7214861315777339721 : True := trivial
theorem tw16897102524792044421 : True := trivial
theorem tw13239885493990063987 : True := trivial
theorem tw4767378802325519736 : True := trivial
theorem tw5987056448028537664 : True := trivial
theorem tw9526925999575421649 : True := trivial
theorem tw6055053165580000654 : True := trivial
theorem tw9729719612410023266 : True := trivial
theorem tw13022078642737763268 : True := trivial
theorem tw7118792377985468720 : True := trivial
theorem tw1291199464167305743 : True := trivial
theorem tw14534822397841813463 : True := trivial
theorem tw4638556851620719106 : True := trivial
theorem tw12280178413617115367 : True := trivial
theorem tw13509239100687876437 : True := trivial
theorem tw5531134696852066560 : True := trivial
theorem tw5029658182618277868 : True := trivial
theorem tw8336207454578732429 : True := trivial
theorem tw11444319138135577429 : True := trivial
theorem tw2613694626921336824 : True := trivial
theorem tw2177230284917777145 : True := trivial
theorem tw4843317148165779262 : True := trivial
theorem tw10315769082978186484 : True := trivial
theorem tw4711537374855253133 : True := trivial
theorem tw13560623100041538363 : True := trivial
theorem tw14646428890531434192 : True := trivial
theorem tw8450082365390403716 : True := trivial
theorem tw4493306361943109667 : True := trivial
theorem tw13352234448472212853 : True := trivial
theorem tw10064388002878460646 : True := trivial
theorem tw11228011823207881734 : True := trivial
theorem tw16478020918222643776 : True := trivial
theorem tw10225092994897378507 : True := trivial
theorem tw7278501411014844942 : True := trivial
theorem tw10591606804565828586 : True := trivial
theorem tw12095315220731958448 : True := trivial
theorem tw9102234008955408206 : True := trivial
theorem tw17918655154463515557 : True := trivial
theorem tw12899817587162304247 : True := trivial
theorem tw8406901476293952023 : True := trivial
theorem tw10769901850225651720 : True := trivial
theorem tw15256353001061476421 : True := trivial
theorem tw2226846119664217473 : True := trivial
theorem tw9267429504425946224 : True := trivial
theorem tw18061479169648489174 : True := trivial
theorem tw4628027565248185014 : True := trivial
theorem tw2465714106695734228 : True := trivial
theorem tw17582435800335401894 : True := trivial
theorem tw648685604291792755 : True := trivial
theorem tw5521737492667317892 : True := trivial
theorem tw8659123632805792825 : True := trivial
theorem tw16308745339647220261 : True := trivial
theorem tw4877249950877505873 : True := trivial
theorem tw1430754608997780235 : True := trivial
theorem tw16374278169787390544 : True := trivial
theorem tw12768355813885770527 : True := trivial
theorem tw16098504250050524983 : True := trivial
theorem tw17054494532713863114 : True := trivial
theorem tw17307844141265444516 : True := trivial
theorem tw11201823426211185948 : True := trivial
theorem tw17996682170876669531 : True := trivial
theorem tw9733052057234422345 : True := trivial
theorem tw16864293434338347304 : True := trivial
theorem tw2805541289387788163 : True := trivial
theorem tw16957441187835641603 : True := trivial
theorem tw15449513283652421428 : True := trivial
theorem tw14721856509596942163 : True := trivial
theorem tw3134285641511853337 : True := trivial
theorem tw16789656711734232032 : True := trivial
theorem tw13723486899438761903 : True := trivial
theorem tw6544761947826633668 : True := trivial
theorem tw1881269829193089468 : True := trivial
theorem tw13595548851358524956 : True := trivial
theorem tw10022967055526762152 : True := trivial
theorem tw5858208368674295255 : True := trivial
theorem tw18252063696091504353 : True := trivial
theorem tw14966818274927603629 : True := trivial
theorem tw14910766111284436448 : True := trivial
theorem tw14105665395029307708 : True := trivial
theorem tw5262391778509781576 : True := trivial
theorem tw10177038581322865640 : True := trivial
theorem tw13204343075778673585 : True := trivial
theorem tw7077515845738093709 : True := trivial
theorem tw13363073132227088705 : True := trivial
theorem tw12455275069329333571 : True := trivial
theorem tw17889109326723101157 : True := trivial
theorem tw9682058201148301112 : True := trivial
theorem tw4561911366666497039 : True := trivial
theorem tw17677381390931279578 : True := trivial
theorem tw1895868656999617935 : True := trivial
theorem tw1451286181011269158 : True := trivial
theorem tw14075934769049555489 : True := trivial
theorem tw15955811118415865653 : True := trivial
theorem tw5730371447352720027 : True := trivial
theorem tw17683167618182343376 : True := trivial
theorem tw7476472618907996293 : True := trivial
theorem tw257308766440509912 : True := trivial
theorem tw4468579189162176259 : True := trivial
theorem tw15593770258994509384 : True := trivial
theorem tw13121332789034424089 : True := trivial
theorem tw17613786657029481576 : True := trivial
theorem tw7741044542507669363 : True := trivial
theorem tw9326665581451307954 : True := trivial
theorem tw5084077987321871309 : True := trivial
theorem tw6434829525098869952 : True := trivial
theorem tw9587180552663002247 : True := trivial
theorem tw4115219351607818033 : True := trivial
theorem tw7540129246437503309 : True := trivial
theorem tw2078021308176113857 : True := trivial
theorem tw9855563195316880033 : True := trivial
theorem tw6865350506735502808 : True := trivial
theorem tw1786590356512088554 : True := trivial
theorem tw1425636786685001479 : True := trivial
theorem tw2999832106751972408 : True := trivial
theorem tw5374345859214078195 : True := trivial
theorem tw5472520058104392674 : True := trivial
theorem tw1983551691648280431 : True := trivial
theorem tw14078810217822169329 : True := trivial
theorem tw3176459677418719865 : True := trivial
theorem tw8817647420474474735 : True := trivial
theorem tw18253851115507750945 : True := trivial
theorem tw16245056069649275472 : True := trivial
theorem tw17528378985939677376 : True := trivial
theorem tw3653459595830899421 : True := trivial
theorem tw3226452323952030050 : True := trivial
theorem tw8684001409422167787 : True := trivial
theorem tw4336097359305357800 : True := trivial
theorem tw16673281723158167301 : True := trivial
theorem tw15071757941416401447 : True := trivial
theorem tw164370502649672624 : True := trivial
theorem tw18097493427335928930 : True := trivial
theorem tw15325803061827319302 : True := trivial
theorem tw14545632221559683742 : True := trivial
theorem tw14843320999607606347 : True := trivial
theorem tw2443885966659422107 : True := trivial
theorem tw17475487109098724884 : True := trivial
theorem tw8711694432542171650 : True := trivial
theorem tw5419806124353627936 : True := trivial
theorem tw15541871133706526810 : True := trivial
theorem tw13620085642649452330 : True := trivial
theorem tw5798958792257816035 : True := trivial
theorem tw8720752516289511030 : True := trivial
theorem tw14560323874808006585 : True := trivial
theorem tw13034540351364966567 : True := trivial
theorem tw15237269655418302622 : True := trivial
theorem tw6268414992360533420 : True := trivial
theorem tw6549567827916824109 : True := trivial
theorem tw8556195811844811223 : True := trivial
theorem tw7890255812753404480 : True := trivial
theorem tw1133614166192806438 : True := trivial
theorem tw10966054762856197677 : True := trivial
theorem tw14910270708395722922 : True := trivial
theorem tw14458248346037582721 : True := trivial
theorem tw3274524557719315445 : True := trivial
theorem tw10445377947699085931 : True := trivial
theorem tw7021886346321872038 : True := trivial
theorem tw2725061872374044273 : True := trivial
theorem tw6642668551649544120 : True := trivial
theorem tw1507348443800101768 : True := trivial
theorem tw13342326351586552322 : True := trivial
theorem tw15583018722124973016 : True := trivial
theorem tw9081316081751563410 : True := trivial
theorem tw10771570147502995458 : True := trivial
theorem tw1597340533740801133 : True := trivial
theorem tw4836057723989259552 : True := trivial
theorem tw14769166903006296104 : True := trivial
theorem tw14620277458473386574 : True := trivial
theorem tw9463578465172975751 : True := trivial
theorem tw12220235335726512603 : True := trivial
theorem tw11526987929276471674 : True := trivial
theorem tw8085678700803104635 : True := trivial
theorem tw15786653831298977371 : True := trivial
theorem tw17837772672233728257 : True := trivial
theorem tw13082565718268843675 : True := trivial
theorem tw4718973795282760213 : True := trivial
theorem tw16518492826291922949 : True := trivial
theorem tw14168424933649008052 : True := trivial
theorem tw6943404993898515846 : True := trivial
theorem tw11265430985239530329 : True := trivial
theorem tw15599767594996360727 : True := trivial
theorem tw3460406133843238962 : True := trivial
theorem tw2128217479189443352 : True := trivial
theorem tw18156245946418820878 : True := trivial
theorem tw9493795546540584873 : True := trivial
theorem tw5877606397388221882 : True := trivial
theorem tw269924851480505996 : True := trivial
theorem tw3954694760373991533 : True := trivial
theorem tw2697558772764224861 : True := trivial
theorem tw6837890623328983137 : True := trivial
theorem tw115918562243736640 : True := trivial
theorem tw13008849676693308585 : True := trivial
theorem tw18085166120136298036 : True := trivial
theorem tw8502721464047339124 : True := trivial
theorem tw16910352750306440342 : True := trivial
theorem tw4252170609484622517 : True := trivial
theorem tw8226442652903108555 : True := trivial
theorem tw13294551487941399099 : True := trivial
theorem tw3523491127498977068 : True := trivial
theorem tw1625496622601347954 : True := trivial
theorem tw5906472105844081860 : True := trivial
theorem tw12152785017487769451 : True := trivial
theorem tw6947835079912633590 : True := trivial
theorem tw2258471610475168695 : True := trivial
theorem tw2925268147217858596 : True := trivial
theorem tw12391858273477197744 : True := trivial
theorem tw3407342647312835218 : True := trivial
theorem tw17747340498117933277 : True := trivial
theorem tw11581802139316976572 : True := trivial
theorem tw2790395996010078882 : True := trivial
theorem tw7818807753268665697 : True := trivial
theorem tw7728068162147918664 : True := trivial
theorem tw15315814455334118788 : True := trivial
theorem tw14616459769249080592 : True := trivial
theorem tw4463072582385129161 : True := trivial
theorem tw1229468545232695201 : True := trivial
theorem tw16893933109175171250 : True := trivial
theorem tw1535062625833860503 : True := trivial
theorem tw17681782989519023321 : True := trivial
theorem tw15182131849229745224 : True := trivial
theorem tw5642713705049888726 : True := trivial
theorem tw12512804952895608864 : True := trivial
theorem tw12733215031178252268 : True := trivial
theorem tw6037495636060635501 : True := trivial
theorem tw1880219847022967156 : True := trivial
theorem tw15570820910800268085 : True := trivial
theorem tw842626676826098315 : True := trivial
theorem tw8278173170138981258 : True := trivial
theorem tw4338283910115698001 : True := trivial
theorem tw9304552544252089080 : True := trivial
theorem tw920517067409865883 : True := trivial
theorem tw1757247962613749682 : True := trivial
theorem tw9341298658477676389 : True := trivial
theorem tw10376068065518158850 : True := trivial
theorem tw16304684912053149453 : True := trivial
theorem tw10982590578425009237 : True := trivial
theorem tw4943738885174717077 : True := trivial
theorem tw15517537294267311991 : True := trivial
theorem tw8784829490462608537 : True := trivial
theorem tw8094954078197757602 : True := trivial
theorem tw4185720478013344353 : True := trivial
theorem tw6119534856110583650 : True := trivial
theorem tw15225046232615386089 : True := trivial
theorem tw2666078960397999711 : True := trivial
theorem tw4637186448695539122 : True := trivial
theorem tw289756803545311872 : True := trivial
theorem tw14101765879490271722 : True := trivial
theorem tw1267927569347497656 : True := trivial
theorem tw11244012288398537083 : True := trivial
theorem tw2884199954515079152 : True := trivial
theorem tw9598658877336211078 : True := trivial
theorem tw3449133190987927601 : True := trivial
theorem tw5325245142765642719 : True := trivial
theorem tw15204872635840102784 : True := trivial
theorem tw6134260376327211295 : True := trivial
theorem tw4833812916642453834 : True := trivial
theorem tw5520100109430971001 : True := trivial
theorem tw16122724617126176803 : True := trivial
theorem tw10139775960595497282 : True := trivial
theorem tw13037327553293718661 : True := trivial
theorem tw15410048705223177379 : True := trivial
theorem tw5123536810201766720 : True := trivial
theorem tw3892752091448394432 : True := trivial
theorem tw14383880528666599198 : True := trivial
theorem tw2455086984444858149 : True := trivial
theorem tw15189714123908698729 : True := trivial
theorem tw5539053159600264713 : True := trivial
theorem tw471335804275290712 : True := trivial
theorem tw9312129752620374849 : True := trivial
theorem tw16962153997517525625 : True := trivial
theorem tw12109553700912736616 : True := trivial
theorem tw2719461429337941244 : True := trivial
theorem tw2137257229655036207 : True := trivial
theorem tw11155834092714419467 : True := trivial
theorem tw2684953176545263322 : True := trivial
theorem tw14248892446974886032 : True := trivial
theorem tw16521109513307393547 : True := trivial
theorem tw7520293601965556748 : True := trivial
theorem tw17674911090771526863 : True := trivial
theorem tw9907420130394747191 : True := trivial
theorem tw1675131576525175313 : True := trivial
theorem tw1442394948063787342 : True := trivial
theorem tw6228529404788341240 : True := trivial
theorem tw13805024492230105479 : True := trivial
theorem tw8012201894162828395 : True := trivial
theorem tw14976611144093701266 : True := trivial
theorem tw2648609885059503364 : True := trivial
theorem tw10476551743669961329 : True := trivial
theorem tw15863918432453841447 : True := trivial
theorem tw18074104817891574515 : True := trivial
theorem tw2773901519890838946 : True := trivial
theorem tw11023590990599928042 : True := trivial
theorem tw14730987297820785219 : True := trivial
theorem tw16773302450386304509 : True := trivial
theorem tw2517102746773822282 : True := trivial
theorem tw17425582245935496180 : True := trivial
theorem tw2532824327708286703 : True := trivial
theorem tw268224865846831390 : True := trivial
theorem tw16717180078360220879 : True := trivial
theorem tw705623067166452370 : True := trivial
theorem tw12050169568104385315 : True := trivial
theorem tw6731311371361781643 : True := trivial
theorem tw4694930850415769038 : True := trivial
theorem tw2211133827401230583 : True := trivial
theorem tw13540462353750267216 : True := trivial
theorem tw8844343765686836499 : True := trivial
theorem tw15624355264536789671 : True := trivial
theorem tw4603179361442435502 : True := trivial
theorem tw4283466260679402584 : True := trivial
theorem tw11933668077828666120 : True := trivial
theorem tw12535416468716390214 : True := trivial
theorem tw590478471818394115 : True := trivial
theorem tw10186057468943586967 : True := trivial
theorem tw5771937299664607868 : True := trivial
theorem tw13688596257684633576 : True := trivial
theorem tw4967992580654160842 : True := trivial
theorem tw9451521488787856497 : True := trivial
theorem tw12252513765404017389 : True := trivial
theorem tw5856148113874894533 : True := trivial
theorem tw5417828152095602031 : True := trivial
theorem tw14378616408084595982 : True := trivial
theorem tw18014994661030811990 : True := trivial
theorem tw9072054607916214328 : True := trivial
theorem tw1817068453576137238 : True := trivial
theorem tw1818463331294799410 : True := trivial
theorem tw13804719348755249452 : True := trivial
theorem tw245650077550263069 : True := trivial
theorem tw5762969140975313114 : True := trivial
theorem tw15960943632747734864 : True := trivial
theorem tw2695998190988094011 : True := trivial
theorem tw16677890107514298888 : True := trivial
theorem tw9891233774625926781 : True := trivial
theorem tw15749013826796135791 : True := trivial
theorem tw917359352750877609 : True := trivial
theorem tw4000353537149544037 : True := trivial
theorem tw3433514557032816292 : True := trivial
theorem tw15873819373618718029 : True := trivial
theorem tw10640814781702237267 : True := trivial
theorem tw15679135936372366142 : True := trivial
theorem tw10276336550186527 : True := trivial
theorem tw621481377879671347 : True := trivial
theorem tw16315718245001232524 : True := trivial
theorem tw7403024441481003778 : True := trivial
theorem tw16886373635010637153 : True := trivial
theorem tw4542187726245252193 : True := trivial
theorem tw6908765337291860591 : True := trivial
theorem tw16426386489707778774 : True := trivial
theorem tw6970702710789347071 : True := trivial
theorem tw3951976199212307347 : True := trivial
theorem tw7484879343972969914 : True := trivial
theorem tw6244882504481767920 : True := trivial
theorem tw11987045261734679735 : True := trivial
theorem tw1595789011140642175 : True := trivial
theorem tw14623208478287585981 : True := trivial
theorem tw17359204458648832189 : True := trivial
theorem tw11925765829875905775 : True := trivial
theorem tw14875117817114003757 : True := trivial
theorem tw7877566095765073596 : True := trivial
theorem tw17378578378618158987 : True := trivial
theorem tw934466122570236600 : True := trivial
theorem tw7443220141854595508 : True := trivial
theorem tw12841911272439168728 : True := trivial
theorem tw11132793473815090587 : True := trivial
theorem tw1005503768061373444 : True := trivial
theorem tw6742980405902001367 : True := trivial
theorem tw15577996068391834540 : True := trivial
theorem tw1252173029532786466 : True := trivial
theorem tw13715576142593152299 : True := trivial
theorem tw9133038446894363169 : True := trivial
theorem tw13404927615671302386 : True := trivial
theorem tw6856298098397902335 : True := trivial
theorem tw1595238260956625467 : True := trivial
theorem tw9119680402757014863 : True := trivial
theorem tw5220315787312018804 : True := trivial
theorem tw9061998710287058158 : True := trivial
theorem tw11253292093466354811 : True := trivial
theorem tw8124654617881839690 : True := trivial
theorem tw7722372169644020864 : True := trivial
theorem tw12389978161898136710 : True := trivial
theorem tw10661693235731020303 : True := trivial
theorem tw12253617154149457319 : True := trivial
theorem tw10650656998169457385 : True := trivial
theorem tw6303307143119161746 : True := trivial
theorem tw40938503127298123 : True := trivial
theorem tw13099591578199697980 : True := trivial
theorem tw5303219451245561327 : True := trivial
theorem tw17671004995199359452 : True := trivial
theorem tw11636461107544901123 : True := trivial
theorem tw15687859176434092602 : True := trivial
theorem tw2253524159437873292 : True := trivial
theorem tw2454523235059012209 : True := trivial
theorem tw15961146115148302708 : True := trivial
theorem tw11313695535167597057 : True := trivial
theorem tw12030398596945732565 : True := trivial
theorem tw11904499889370808905 : True := trivial
theorem tw5383906162996654912 : True := trivial
theorem tw15603408237199088119 : True := trivial
theorem tw8652261182882790325 : True := trivial
theorem tw8232866400913684908 : True := trivial
theorem tw3724245485411508569 : True := trivial
theorem tw11746054358847458471 : True := trivial
theorem tw15984855784495419548 : True := trivial
theorem tw11993607105734790390 : True := trivial
theorem tw5887328145801090977 : True := trivial
theorem tw10878312082651863940 : True := trivial
theorem tw14585544192050370042 : True := trivial
theorem tw11778688838553746563 : True := trivial
theorem tw12412606174898968855 : True := trivial
theorem tw5832940108750626878 : True := trivial
theorem tw2811371646454229575 : True := trivial
theorem tw2108344803501998069 : True := trivial
theorem tw15292700979886199176 : True := trivial
theorem tw13750998939020005651 : True := trivial
theorem tw10640199337595457710 : True := trivial
theorem tw6813755321367082920 : True := trivial
theorem tw3532459823217708883 : True := trivial
theorem tw11633451651888671033 : True := trivial
theorem tw1828737970880551689 : True := trivial
theorem tw14723364875502506207 : True := trivial
theorem tw1124833931373179420 : True := trivial
theorem tw12857512743181282240 : True := trivial
theorem tw15358176460334274077 : True := trivial
theorem tw4475426719488176396 : True := trivial
theorem tw14247687801020523372 : True := trivial
theorem tw15317067324921139192 : True := trivial
theorem tw6139976799580756114 : True := trivial
theorem tw6750823861501413752 : True := trivial
theorem tw15144526973609618770 : True := trivial
theorem tw14748209592048914792 : True := trivial
theorem tw13684675164701916461 : True := trivial
theorem tw4571442537710254600 : True := trivial
theorem tw14859626196313144427 : True := trivial
theorem tw362820555899021456 : True := trivial
theorem tw5637086495953034697 : True := trivial
theorem tw855601202523668158 : True := trivial
theorem tw8585632286398262071 : True := trivial
theorem tw15604659468271382608 : True := trivial
theorem tw15591416279520142184 : True := trivial
theorem tw9401749929654371765 : True := trivial
theorem tw2753584981118028182 : True := trivial
theorem tw17497783729730901519 : True := trivial
theorem tw484163225633384903 : True := trivial
theorem tw3545831082714583960 : True := trivial
theorem tw1073246093637195681 : True := trivial
theorem tw12944934058712950231 : True := trivial
theorem tw4841668829048480686 : True := trivial
theorem tw9064106553092598716 : True := trivial
theorem tw9367152336880570760 : True := trivial
theorem tw706575512612221474 : True := trivial
theorem tw13265867528319441281 : True := trivial
theorem tw2419538625504422854 : True := trivial
theorem tw3568674803179555420 : True := trivial
theorem tw5849453129016267987 : True := trivial
theorem tw8299524156387970910 : True := trivial
theorem tw6393237554682953676 : True := trivial
theorem tw2370974676613458169 : True := trivial
theorem tw17437435341904601527 : True := trivial
theorem tw10272803516857220433 : True := trivial
theorem tw514993492000664860 : True := trivial
theorem tw7348874225086127615 : True := trivial
theorem tw6160170969615785227 : True := trivial
theorem tw845244861482811123 : True := trivial
theorem tw16755203550554683871 : True := trivial
theorem tw12396608982569585746 : True := trivial
theorem tw17319951171622160822 : True := trivial
theorem tw2339759411816277858 : True := trivial
theorem tw2543520116699912258 : True := trivial
theorem tw8051168104295529597 : True := trivial
theorem tw1507760087745904588 : True := trivial
theorem tw18440959780287949915 : True := trivial
theorem tw9385312716998633671 : True := trivial
theorem tw9439012565171463451 : True := trivial
theorem tw8189495858007229281 : True := trivial
theorem tw8984288473637305955 : True := trivial
theorem tw11322421663330994946 : True := trivial
theorem tw4396563406007815034 : True := trivial
theorem tw6107465074495682685 : True := trivial
theorem tw14782227581941017752 : True := trivial
theorem tw16002198639434462014 : True := trivial
theorem tw3883696760665934251 : True := trivial
theorem tw18009185299755844418 : True := trivial
theorem tw13372484185454722325 : True := trivial
theorem tw7419657120659421752 : True := trivial
theorem tw12547784799729021812 : True := trivial
theorem tw12315603950608161558 : True := trivial
theorem tw13994618302868996750 : True := trivial
theorem tw9063473998787468306 : True := trivial
theorem tw13932755142321133836 : True := trivial
theorem tw1964545069375963328 : True := trivial
theorem tw503627570005685170 : True := trivial
theorem tw11842918680421564377 : True := trivial
theorem tw6484497384703062441 : True := trivial
theorem tw12363179318146125331 : True := trivial
theorem tw17370312514921486397 : True := trivial
theorem tw13884907649077635236 : True := trivial
theorem tw8072738264202994079 : True := trivial
theorem tw3416778652223142334 : True := trivial
theorem tw3292402697628163291 : True := trivial
theorem tw16146832055261583532 : True := trivial
theorem tw12433418289188532780 : True := trivial
theorem tw9313640066481605056 : True := trivial
theorem tw12489987493811710593 : True := trivial
theorem tw2026151348943376656 : True := trivial
theorem tw12516255255744165467 : True := trivial
theorem tw15376086645793574655 : True := trivial
theorem tw6742224918391668733 : True := trivial
theorem tw2442677400716896084 : True := trivial
theorem tw16682936855182456596 : True := trivial
theorem tw6631440564709617470 : True := trivial
theorem tw899685599966236061 : True := trivial
theorem tw7252215464040498519 : True := trivial
theorem tw3096113228923948971 : True := trivial
theorem tw2141789192390533593 : True := trivial
theorem tw15625490530757754884 : True := trivial
theorem tw357984827557332324 : True := trivial
theorem tw2502721979175245150 : True := trivial
theorem tw3159767857610625861 : True := trivial
theorem tw5161960036567540932 : True := trivial
theorem tw5309979555568244498 : True := trivial
theorem tw3079285046945312208 : True := trivial
theorem tw945550827693015849 : True := trivial
theorem tw16060792607750433894 : True := trivial
theorem tw4325229321065728424 : True := trivial
theorem tw6923625661481890622 : True := trivial
theorem tw8828766271450179392 : True := trivial
theorem tw12900674095839621095 : True := trivial
theorem tw7300386078299087269 : True := trivial
theorem tw14587689716147768231 : True := trivial
theorem tw11225758895601976740 : True := trivial
theorem tw7152588030904144666 : True := trivial
theorem tw7413671082822600535 : True := trivial
theorem tw15958850999899252005 : True := trivial
theorem tw16115023898368987472 : True := trivial
theorem tw8202326399451857528 : True := trivial
theorem tw17556219774762165105 : True := trivial
theorem tw6405430418067604631 : True := trivial
theorem tw10514187811209023520 : True := trivial
theorem tw6801963358337054928 : True := trivial
theorem tw18302485446025088687 : True := trivial
theorem tw4816310980979309341 : True := trivial
theorem tw13316333268419757439 : True := trivial
theorem tw16324278934668666807 : True := trivial
theorem tw3145818314840159941 : True := trivial
theorem tw16802438920114686044 : True := trivial
theorem tw11224652180936967200 : True := trivial
theorem tw6757238728404352919 : True := trivial
theorem tw4758935253640823692 : True := trivial
theorem tw16229247310069061284 : True := trivial
theorem tw13000318882582024195 : True := trivial
theorem tw15471314645409623661 : True := trivial
theorem tw12472506825192857885 : True := trivial
theorem tw7300414236052700973 : True := trivial
theorem tw8282525940567268159 : True := trivial
theorem tw11599872269726395768 : True := trivial
theorem tw2535222892488716365 : True := trivial
theorem tw9074780102289545107 : True := trivial
theorem tw15295101514218223519 : True := trivial
theorem tw6163754234558069828 : True := trivial
theorem tw4853239082827750557 : True := trivial
theorem tw2213418749584092251 : True := trivial
theorem tw4441145898199603862 : True := trivial
theorem tw7560920703686797348 : True := trivial
theorem tw2544442403657888645 : True := trivial
theorem tw15279855123148059692 : True := trivial
theorem tw9088454227892909711 : True := trivial
theorem tw3932211377570410844 : True := trivial
theorem tw3427167970872142431 : True := trivial
theorem tw4770753885437140520 : True := trivial
theorem tw5659431400687976165 : True := trivial
theorem tw13632202817984105590 : True := trivial
theorem tw16072532218726441012 : True := trivial
theorem tw2231319568169330764 : True := trivial
theorem tw9063496237394714689 : True := trivial
theorem tw7044609069083702653 : True := trivial
theorem tw17146640135421676307 : True := trivial
theorem tw6784345949951771703 : True := trivial
theorem tw6883170292867597255 : True := trivial
theorem tw16974306212931980550 : True := trivial
theorem tw6717848387780859096 : True := trivial
theorem tw17199463892461931589 : True := trivial
theorem tw12120314254726377215 : True := trivial
theorem tw11678348588600127119 : True := trivial
theorem tw5557146569879197408 : True := trivial
theorem tw394721256345887821 : True := trivial
theorem tw6737121609710465143 : True := trivial
theorem tw209905998157465539 : True := trivial
theorem tw11959638284995070775 : True := trivial
theorem tw1275590478535671481 : True := trivial
theorem tw6203909899263342206 : True := trivial
theorem tw11628489047444224273 : True := trivial
theorem tw14669398535919576603 : True := trivial
theorem tw1137893532194969698 : True := trivial
theorem tw7545027304650535657 : True := trivial
theorem tw1301806616664875391 : True := trivial
theorem tw16931073398842113781 : True := trivial
theorem tw11190691319630275567 : True := trivial
theorem tw5679447218698294777 : True := trivial
theorem tw13029781798327290870 : True := trivial
theorem tw11658260448715125721 : True := trivial
theorem tw2797655642129538902 : True := trivial
theorem tw10983224517118310251 : True := trivial
theorem tw7675258600903241062 : True := trivial
theorem tw12681822762182926825 : True := trivial
theorem tw678318323988223058 : True := trivial
theorem tw12201773987068317592 : True := trivial
theorem tw15627855709354830454 : True := trivial
theorem tw952586506638661150 : True := trivial
theorem tw10664692981384659446 : True := trivial
theorem tw3714000297454733261 : True := trivial
theorem tw5782017283233614127 : True := trivial
theorem tw12101818357752929029 : True := trivial
theorem tw11133370110485066956 : True := trivial
theorem tw943640909063952311 : True := trivial
theorem tw8902211028507674434 : True := trivial
theorem tw14269375363517979226 : True := trivial
theorem tw1758203869845143820 : True := trivial
theorem tw5126507705325886899 : True := trivial
theorem tw8041466337484911616 : True := trivial
theorem tw1483670102501237355 : True := trivial
theorem tw17408763108214377560 : True := trivial
theorem tw12849670707371051706 : True := trivial
theorem tw9244876766955351311 : True := trivial
theorem tw4978984471194007615 : True := trivial
theorem tw10740755921488384788 : True := trivial
theorem tw5681919708440881217 : True := trivial
theorem tw6520146161349074567 : True := trivial
theorem tw11774874396929623603 : True := trivial
theorem tw134972048036336656 : True := trivial
theorem tw8761498295760819259 : True := trivial
theorem tw1502383963641016562 : True := trivial
theorem tw5164099018288771381 : True := trivial
theorem tw16725365735438143934 : True := trivial
theorem tw6834523722913124265 : True := trivial
theorem tw17046481472520839198 : True := trivial
theorem tw5475097056797720102 : True := trivial
theorem tw2447855960327404854 : True := trivial
theorem tw7315712339659034133 : True := trivial
theorem tw2512506994590769327 : True := trivial
theorem tw16716421987753345145 : True := trivial
theorem tw5461529244763286970 : True := trivial
theorem tw444661570103592684 : True := trivial
theorem tw6753085041036869321 : True := trivial
theorem tw5877967435214647876 : True := trivial
theorem tw11294013697602789501 : True := trivial
theorem tw17572273903355357390 : True := trivial
theorem tw8350568772816135474 : True := trivial
theorem tw15086223983608854703 : True := trivial
theorem tw1638611494169385611 : True := trivial
theorem tw9488511358951713140 : True := trivial
theorem tw6551264188631261185 : True := trivial
theorem tw4987995118976783475 : True := trivial
theorem tw2574673177962372042 : True := trivial
theorem tw17110754905489009692 : True := trivial
theorem tw7363445002069198273 : True := trivial
theorem tw16417414029484760188 : True := trivial
theorem tw13380494305495615553 : True := trivial
theorem tw14259960910785133618 : True := trivial
theorem tw12693429445618254161 : True := trivial
theorem tw15348658673895830762 : True := trivial
theorem tw1834322833329888233 : True := trivial
theorem tw1887847411765367207 : True := trivial
theorem tw14746005645047094790 : True := trivial
theorem tw10287303144689542039 : True := trivial
theorem tw681543822309136300 : True := trivial
theorem tw15363054536532348859 : True := trivial
theorem tw11739119514481422248 : True := trivial
theorem tw6267758466894032533 : True := trivial
theorem tw11653118647768478820 : True := trivial
theorem tw17738102122149257990 : True := trivial
theorem tw13655352411563193881 : True := trivial
theorem tw2985405644489784045 : True := trivial
theorem tw17124225641686531414 : True := trivial
theorem tw5146003974169353697 : True := trivial
theorem tw9036547197763185219 : True := trivial
theorem tw5284575281193862313 : True := trivial
theorem tw10155729259596661198 : True := trivial
theorem tw4233273471498111122 : True := trivial
theorem tw12552723348763177353 : True := trivial
theorem tw7399545984855571770 : True := trivial
theorem tw8523449218373618508 : True := trivial
theorem tw2179129524235654510 : True := trivial
theorem tw8800296085598486181 : True := trivial
theorem tw567569023663749971 : True := trivial
theorem tw6247762516606790675 : True := trivial
theorem tw5852917776435413893 : True := trivial
theorem tw14488717549833777138 : True := trivial
theorem tw17683680246297451427 : True := trivial
theorem tw4395882635708531047 : True := trivial
theorem tw5639387593433653048 : True := trivial
theorem tw9371941611494315850 : True := trivial
theorem tw15307307016267234440 : True := trivial
theorem tw10790520694534715818 : True := trivial
theorem tw9146644102536205369 : True := trivial
theorem tw4496968329999055490 : True := trivial
theorem tw8164781452511778333 : True := trivial
theorem tw6794453646668849834 : True := trivial
theorem tw8394980400944909478 : True := trivial
theorem tw117303040772455247 : True := trivial
theorem tw7166678928107888302 : True := trivial
theorem tw10820337415539456181 : True := trivial
theorem tw5777861119950550325 : True := trivial
theorem tw1113978547767029542 : True := trivial
theorem tw8835771209020396289 : True := trivial
theorem tw13790880490344028244 : True := trivial
theorem tw1119088465357198574 : True := trivial
theorem tw2451813079927054926 : True := trivial
theorem tw6841255781691210813 : True := trivial
theorem tw490861960482192431 : True := trivial
theorem tw6787891771014763894 : True := trivial
theorem tw7823979725149473346 : True := trivial
theorem tw15713972312312973171 : True := trivial
theorem tw8384395339673843275 : True := trivial
theorem tw14751097300801491748 : True := trivial
theorem tw17006911368422708572 : True := trivial
theorem tw1150996520219602811 : True := trivial
theorem tw8366704000571481022 : True := trivial
theorem tw8675814711132821869 : True := trivial
theorem tw8238464924596582064 : True := trivial
theorem tw13740366937548509735 : True := trivial
theorem tw14758811362003257963 : True := trivial
theorem tw11563185737667681499 : True := trivial
theorem tw6463917824536958133 : True := trivial
theorem tw15822869743814463525 : True := trivial
theorem tw17867114937946537870 : True := trivial
theorem tw16202437477180756041 : True := trivial
theorem tw3051562911295183625 : True := trivial
theorem tw2475222476807484661 : True := trivial
theorem tw9867827656308610020 : True := trivial
theorem tw7694756396607000216 : True := trivial
theorem tw1153118430460894370 : True := trivial
theorem tw1812640652370816431 : True := trivial
theorem tw18003260042830920285 : True := trivial
theorem tw4648576431393831407 : True := trivial
theorem tw2218664541555726899 : True := trivial
theorem tw3409685879139437826 : True := trivial
theorem tw17190865540984497869 : True := trivial
theorem tw14045621757575725652 : True := trivial
theorem tw13143321122841122808 : True := trivial
theorem tw2529972898856393745 : True := trivial
theorem tw8216768501187723873 : True := trivial
theorem tw17278267390303988979 : True := trivial
theorem tw7752008396278329016 : True := trivial
theorem tw13655248086094860484 : True := trivial
theorem tw12357499301288954091 : True := trivial
theorem tw11748641199727846376 : True := trivial
theorem tw10676548631020923157 : True := trivial
theorem tw6945095639545605810 : True := trivial
theorem tw12772810190365288564 : True := trivial
theorem tw15941923616334558842 : True := trivial
theorem tw17381721275003087129 : True := trivial
theorem tw1322007975757920529 : True := trivial
theorem tw16000737128003438804 : True := trivial
theorem tw8291435677556550455 : True := trivial
theorem tw5647692568693137928 : True := trivial
theorem tw16344163002994581059 : True := trivial
theorem tw8774117726921948702 : True := trivial
theorem tw17547715439972612114 : True := trivial
theorem tw9181935516486128419 : True := trivial
theorem tw14057623801947282800 : True := trivial
theorem tw1489043072799449321 : True := trivial
theorem tw59756847997041880 : True := trivial
theorem tw15945758777069869571 : True := trivial
theorem tw12107942925295550243 : True := trivial
theorem tw5659918371948539641 : True := trivial
theorem tw9125112183840046759 : True := trivial
theorem tw11149037153687237921 : True := trivial
theorem tw663317886721675640 : True := trivial
theorem tw14910338281344920302 : True := trivial
theorem tw7911351970059954291 : True := trivial
theorem tw3631200059843913983 : True := trivial
theorem tw4258558876678281203 : True := trivial
theorem tw4038287561246042221 : True := trivial
theorem tw1928896027927583563 : True := trivial
theorem tw1958878977047622163 : True := trivial
theorem tw3724054584995644055 : True := trivial
theorem tw8817813742799530293 : True := trivial
theorem tw7311120636235136197 : True := trivial
theorem tw5601613988033367663 : True := trivial
theorem tw8317393608367042327 : True := trivial
theorem tw14514005922243032209 : True := trivial
theorem tw9866951322838364884 : True := trivial
theorem tw12482673267767731233 : True := trivial
theorem tw12400629034229756350 : True := trivial
theorem tw6020971347735705048 : True := trivial
theorem tw1572005421474033721 : True := trivial
theorem tw10479743502912081904 : True := trivial
theorem tw7117419166497800908 : True := trivial
theorem tw13117476536045579946 : True := trivial
theorem tw5110263380892889214 : True := trivial
theorem tw2174422737712439486 : True := trivial
theorem tw5550269350400200073 : True := trivial
theorem tw3274129912633208881 : True := trivial
theorem tw15094621146117520065 : True := trivial
theorem tw5561986218066690990 : True := trivial
theorem tw18054440565605491711 : True := trivial
theorem tw13034882988857520520 : True := trivial
theorem tw696382009092254750 : True := trivial
theorem tw775663840575993326 : True := trivial
theorem tw3266818489630213887 : True := trivial
theorem tw8731411060082062655 : True := trivial
theorem tw10686457883601252370 : True := trivial
theorem tw16287387393317237096 : True := trivial
theorem tw7934104566443274206 : True := trivial
theorem tw1401127156628444394 : True := trivial
theorem tw4646412189545003979 : True := trivial
theorem tw2594923199117549951 : True := trivial
theorem tw6329123483260735955 : True := trivial
theorem tw8383397969490028552 : True := trivial
theorem tw15455662462710953966 : True := trivial
theorem tw5170164503817639200 : True := trivial
theorem tw18362629332329617981 : True := trivial
theorem tw12753159917505679866 : True := trivial
theorem tw6150024491122296530 : True := trivial
theorem tw3034088622470230806 : True := trivial
theorem tw2035146142943443233 : True := trivial
theorem tw2258837174932073574 : True := trivial
theorem tw6197298363628431913 : True := trivial
theorem tw16597741963834071884 : True := trivial
theorem tw14847185681206408460 : True := trivial
theorem tw17285800064033663595 : True := trivial
theorem tw41346380678733132 : True := trivial
theorem tw12305300868229518280 : True := trivial
theorem tw8785705149460350846 : True := trivial
theorem tw4124931603039300542 : True := trivial
theorem tw2247424426926094665 : True := trivial
theorem tw16261516324746376889 : True := trivial
theorem tw3784283880256773473 : True := trivial
theorem tw13577959374583902305 : True := trivial
theorem tw10902665328706257294 : True := trivial
theorem tw8158280228114645484 : True := trivial
theorem tw8018690230193014806 : True := trivial
theorem tw12953583505174042068 : True := trivial
theorem tw2919803410088786081 : True := trivial
theorem tw7293352202346681961 : True := trivial
theorem tw5376529087857332334 : True := trivial
theorem tw11289903841199341582 : True := trivial
theorem tw12096551054292446132 : True := trivial
theorem tw14433322791750278985 : True := trivial
theorem tw1148183014371407979 : True := trivial
theorem tw3549509291018265471 : True := trivial
theorem tw12762726830687510197 : True := trivial
theorem tw10017898291813034683 : True := trivial
theorem tw279576445799865258 : True := trivial
theorem tw5064727564864433574 : True := trivial
theorem tw12374799384535896580 : True := trivial
theorem tw6580943658183963527 : True := trivial
theorem tw8850880240746692858 : True := trivial
theorem tw9936625741574457827 : True := trivial
theorem tw14903052693558427725 : True := trivial
theorem tw1066268275841148553 : True := trivial
theorem tw13292008577883913976 : True := trivial
theorem tw8936725991451934993 : True := trivial
theorem tw17183262470760702801 : True := trivial
theorem tw7445983463204325234 : True := trivial
theorem tw17825297573550589929 : True := trivial
theorem tw13007625022234679704 : True := trivial
theorem tw3933791134180480467 : True := trivial
theorem tw1153679938590634048 : True := trivial
theorem tw1829218013598035811 : True := trivial
theorem tw158291197141423384 : True := trivial
theorem tw17429816346594367335 : True := trivial
theorem tw10619514751489854992 : True := trivial
theorem tw14461555246054324354 : True := trivial
theorem tw2655905473721072271 : True := trivial
theorem tw5302640239150221516 : True := trivial
theorem tw15114567508580980547 : True := trivial
theorem tw15881731850133303482 : True := trivial
theorem tw17611681378087816213 : True := trivial
theorem tw12750380154236721989 : True := trivial
theorem tw5083139767869507746 : True := trivial
theorem tw13313980763765810385 : True := trivial
theorem tw4116901738538909343 : True := trivial
theorem tw14874671936579036197 : True := trivial
theorem tw11123841889323596297 : True := trivial
theorem tw13264602803623818321 : True := trivial
theorem tw15851460976408035481 : True := trivial
theorem tw2724484098534221547 : True := trivial
theorem tw11632714260037795874 : True := trivial
theorem tw1822108865236164797 : True := trivial
theorem tw13149137386260626469 : True := trivial
theorem tw970911246273500424 : True := trivial
theorem tw8245602630441845630 : True := trivial
theorem tw14397814275733746321 : True := trivial
theorem tw15077723943970977017 : True := trivial
theorem tw17423613712924128036 : True := trivial
theorem tw4406120562372398716 : True := trivial
theorem tw13724538362344075294 : True := trivial
theorem tw15784733897085023977 : True := trivial
theorem tw9334587316268903919 : True := trivial
theorem tw18087675167854412706 : True := trivial
theorem tw9658785264515065681 : True := trivial
theorem tw7678147729930817925 : True := trivial
theorem tw8398340910071811824 : True := trivial
theorem tw49263812585622048 : True := trivial
theorem tw12948874699317088700 : True := trivial
theorem tw12383631220548942106 : True := trivial
theorem tw4519716218602354436 : True := trivial
theorem tw12945671482785724625 : True := trivial
theorem tw14378796759962408662 : True := trivial
theorem tw3089866033639508185 : True := trivial
theorem tw13154109635569300520 : True := trivial
theorem tw5621484202254309324 : True := trivial
theorem tw15310374059296244461 : True := trivial
theorem tw18254773952248731412 : True := trivial
theorem tw11093596361229824201 : True := trivial
theorem tw3347815371670099179 : True := trivial
theorem tw14328555730320638123 : True := trivial
theorem tw10805574078595247816 : True := trivial
theorem tw13229776720159935589 : True := trivial
theorem tw2313216780615928162 : True := trivial
theorem tw5768875339949331626 : True := trivial
theorem tw4369576208197314974 : True := trivial
theorem tw12791236041329952452 : True := trivial
theorem tw8531596219490724498 : True := trivial
theorem tw8057669088980702721 : True := trivial
theorem tw14400136599464763168 : True := trivial
theorem tw17673782716243080095 : True := trivial
theorem tw12799092749597931442 : True := trivial
theorem tw17089405950395521167 : True := trivial
theorem tw14611813385229975861 : True := trivial
theorem tw16838514266915459727 : True := trivial
theorem tw1468677091188080590 : True := trivial
theorem tw10974795799183884606 : True := trivial
theorem tw5156889582350025433 : True := trivial
theorem tw13646860762174261654 : True := trivial
theorem tw16017921648134475384 : True := trivial
theorem tw3320344471649012297 : True := trivial
theorem tw3537362517947282928 : True := trivial
theorem tw10785206785787984340 : True := trivial
theorem tw11088684707000472142 : True := trivial
theorem tw330593118084384532 : True := trivial
theorem tw6247181224510520235 : True := trivial
theorem tw15955951501401890809 : True := trivial
theorem tw182608147243309016 : True := trivial
theorem tw13662551412718939869 : True := trivial
theorem tw1534017210685210658 : True := trivial
theorem tw1685794601549837667 : True := trivial
theorem tw13904505634857689235 : True := trivial
theorem tw4565501165242415689 : True := trivial
theorem tw1256741993206249677 : True := trivial
theorem tw2795065440653487537 : True := trivial
theorem tw1849840174192560510 : True := trivial
theorem tw4774380295696571896 : True := trivial
theorem tw2862625986212329041 : True := trivial
theorem tw6119185947343778535 : True := trivial
theorem tw11144905817186981809 : True := trivial
theorem tw17511306804812397576 : True := trivial
theorem tw9560054846336812105 : True := trivial
theorem tw15033661448078437517 : True := trivial
theorem tw6591801801330485803 : True := trivial
theorem tw18205831476082148667 : True := trivial
theorem tw5769086966752764970 : True := trivial
theorem tw14747156151339663032 : True := trivial
theorem tw1381350616280763273 : True := trivial
theorem tw10854774891418172791 : True := trivial
theorem tw15414861716403195314 : True := trivial
theorem tw7908746041423958010 : True := trivial
theorem tw15719470443886051634 : True := trivial
theorem tw2119186710901378348 : True := trivial
theorem tw7522796052746634035 : True := trivial
theorem tw18289049044335016070 : True := trivial
theorem tw12267425778627102668 : True := trivial
theorem tw12396260494450169575 : True := trivial
theorem tw6442112057858707781 : True := trivial
theorem tw17455423200953186932 : True := trivial
theorem tw4076302756277922571 : True := trivial
theorem tw1954701868177006340 : True := trivial
theorem tw18348132610247099098 : True := trivial
theorem tw10089859275540010977 : True := trivial
theorem tw10845214989965678212 : True := trivial
theorem tw4004623988883630880 : True := trivial
theorem tw5206516043794635565 : True := trivial
theorem tw4073218293168242286 : True := trivial
theorem tw801402389781217722 : True := trivial
theorem tw12282460039537152047 : True := trivial
theorem tw12977540330067392063 : True := trivial
theorem tw14260975220883624384 : True := trivial
theorem tw10386118457145562410 : True := trivial
theorem tw1021050985651590583 : True := trivial
theorem tw14847720930769218588 : True := trivial
theorem tw4510947232579182494 : True := trivial
theorem tw3439998047371597334 : True := trivial
theorem tw3943626755810220689 : True := trivial
theorem tw4682667002130394130 : True := trivial
theorem tw10956995920317104400 : True := trivial
theorem tw2416396232901017030 : True := trivial
theorem tw870313551373529551 : True := trivial
theorem tw6335526160410603296 : True := trivial
theorem tw9824553715888561503 : True := trivial
theorem tw9748809651433665379 : True := trivial
theorem tw17436376377855668343 : True := trivial
theorem tw11436884558327980108 : True := trivial
theorem tw12969699366377684551 : True := trivial
theorem tw5769144566059873414 : True := trivial
theorem tw11290711417996815950 : True := trivial
theorem tw14081395847008964109 : True := trivial
theorem tw12915886481201302560 : True := trivial
theorem tw16342777842338229484 : True := trivial
theorem tw839893965049473656 : True := trivial
theorem tw9823151497053535622 : True := trivial
theorem tw11680407897543823524 : True := trivial
theorem tw13497873675778659588 : True := trivial
theorem tw775152672251778121 : True := trivial
theorem tw3686415571005503949 : True := trivial
theorem tw15907800678108745644 : True := trivial
theorem tw13417551274572719602 : True := trivial
theorem tw3335703882134941149 : True := trivial
theorem tw955441429928065076 : True := trivial
theorem tw10390991756035790094 : True := trivial
theorem tw6593976204436873175 : True := trivial
theorem tw9005657262003629488 : True := trivial
theorem tw15140502288958219078 : True := trivial
theorem tw11436168186061997874 : True := trivial
theorem tw2761911059282608583 : True := trivial
theorem tw10277659132731191934 : True := trivial
theorem tw8516230702133907225 : True := trivial
theorem tw3197652997821882312 : True := trivial
theorem tw14917578979133618549 : True := trivial
theorem tw15892033968424835985 : True := trivial
theorem tw8919332879589217490 : True := trivial
theorem tw8181490063946970149 : True := trivial
theorem tw8433821193004601305 : True := trivial
theorem tw8587491486758402517 : True := trivial
theorem tw16428905346429791260 : True := trivial
theorem tw807080620825746862 : True := trivial
theorem tw12417044479904335051 : True := trivial
theorem tw17276877596883174575 : True := trivial
theorem tw3456323237274695100 : True := trivial
theorem tw318440736244100653 : True := trivial
theorem tw14735453899757035727 : True := trivial
theorem tw18305438446106394488 : True := trivial
theorem tw12766251346372402503 : True := trivial
theorem tw14704103797628287355 : True := trivial
theorem tw16914019808278529109 : True := trivial
theorem tw2360441922143022172 : True := trivial
theorem tw17772595978748791347 : True := trivial
theorem tw15438655140263432575 : True := trivial
theorem tw11824518158903860050 : True := trivial
theorem tw11851478655034474857 : True := trivial
theorem tw5973572221599770201 : True := trivial
theorem tw7454796994693131712 : True := trivial
theorem tw2670095352077424401 : True := trivial
theorem tw12166828832304849667 : True := trivial
theorem tw14919388682896036858 : True := trivial
theorem tw13773553326729631724 : True := trivial
theorem tw6763479317154339051 : True := trivial
theorem tw2742036843042489700 : True := trivial
theorem tw2648864762528461921 : True := trivial
theorem tw9692557092945702600 : True := trivial
theorem tw6414119761610520168 : True := trivial
theorem tw925696743685582114 : True := trivial
theorem tw17669653581046833672 : True := trivial
theorem tw1700547473528811996 : True := trivial
theorem tw18249939894930626366 : True := trivial
theorem tw6182518204977872140 : True := trivial
theorem tw11110650840825521439 : True := trivial
theorem tw15531872985620403181 : True := trivial
theorem tw1043952772708084169 : True := trivial
theorem tw12489457482437734247 : True := trivial
theorem tw4936795993529435248 : True := trivial
theorem tw9453887554932990563 : True := trivial
theorem tw10933556142597610174 : True := trivial
theorem tw11771219182417177265 : True := trivial
theorem tw10939689392413235462 : True := trivial
theorem tw1754129809232669625 : True := trivial
theorem tw1767382485752391045 : True := trivial
theorem tw5933727718622180929 : True := trivial
theorem tw8058861943157550392 : True := trivial
theorem tw4196242930954408978 : True := trivial
theorem tw13397201195392273260 : True := trivial
theorem tw13891743043687338845 : True := trivial
theorem tw13319560313716247231 : True := trivial
theorem tw11637241884280126645 : True := trivial
theorem tw17057227828281514935 : True := trivial
theorem tw11616704246978950428 : True := trivial
theorem tw4163022716401939202 : True := trivial
theorem tw11107193104427003596 : True := trivial
theorem tw3897842112585867308 : True := trivial
theorem tw11402177274560462395 : True := trivial
theorem tw6762103037097554232 : True := trivial
theorem tw2958101599645922187 : True := trivial
theorem tw13084847576791991018 : True := trivial
theorem tw3160208247047670073 : True := trivial
theorem tw1917122339678566945 : True := trivial
theorem tw14367222872776855669 : True := trivial
theorem tw2488843977973437815 : True := trivial
theorem tw7338891648019496267 : True := trivial
theorem tw12224769591209631219 : True := trivial
theorem tw14922146794517452360 : True := trivial
theorem tw4799271951797794789 : True := trivial
theorem tw6678273236464386773 : True := trivial
theorem tw4551895848124693015 : True := trivial
theorem tw6412807741092999047 : True := trivial
theorem tw11751388788333696359 : True := trivial
theorem tw10333167172294827794 : True := trivial
theorem tw13814207196985286036 : True := trivial
theorem tw8861481765169825191 : True := trivial
theorem tw18141352674150188051 : True := trivial
theorem tw9596306898359269772 : True := trivial
theorem tw1031664025657963264 : True := trivial
theorem tw14685405620343290269 : True := trivial
theorem tw7601511521161066400 : True := trivial
theorem tw7961579278752927290 : True := trivial
theorem tw7685681787394725491 : True := trivial
theorem tw2836143686895833382 : True := trivial
theorem tw2582722197070688517 : True := trivial
theorem tw7624861043606612724 : True := trivial
theorem tw12798424152206563159 : True := trivial
theorem tw18206642752741662884 : True := trivial
theorem tw6492459884743084156 : True := trivial
theorem tw7290631211478022321 : True := trivial
theorem tw11902010698589952299 : True := trivial
theorem tw11393714653665442034 : True := trivial
theorem tw14802176938689417569 : True := trivial
theorem tw7269790867369166085 : True := trivial
theorem tw3463137467822683074 : True := trivial
theorem tw10832708463454427679 : True := trivial
theorem tw4839133922235842555 : True := trivial
theorem tw3785355518155926611 : True := trivial
theorem tw8975689146716946004 : True := trivial
theorem tw9847074971833819762 : True := trivial
theorem tw2726593661332656585 : True := trivial
theorem tw3741147791542260384 : True := trivial
theorem tw9492645298037983142 : True := trivial
theorem tw15229559760525434997 : True := trivial
theorem tw14540420699917774862 : True := trivial
theorem tw13464551862898905510 : True := trivial
theorem tw14255188122060825158 : True := trivial
theorem tw4452168929116831359 : True := trivial
theorem tw11886544956555220387 : True := trivial
theorem tw11511066129612261261 : True := trivial
theorem tw10973137100370620410 : True := trivial
theorem tw7363926846324234461 : True := trivial
theorem tw6547873131763048975 : True := trivial
theorem tw4320779720921033064 : True := trivial
theorem tw10604609034818736092 : True := trivial
theorem tw7414508143127242199 : True := trivial
theorem tw14578788786087242808 : True := trivial
theorem tw16704851796394165615 : True := trivial
theorem tw12348930250897558446 : True := trivial
theorem tw15852293538481128672 : True := trivial
theorem tw591446847420156789 : True := trivial
theorem tw17978761751571504487 : True := trivial
theorem tw14146075022041659186 : True := trivial
theorem tw16722342538118283078 : True := trivial
theorem tw5344459530341092591 : True := trivial
theorem tw16620183840767873924 : True := trivial
theorem tw9041623621687884846 : True := trivial
theorem tw3266527430262308672 : True := trivial
theorem tw14603730318337351216 : True := trivial
theorem tw881993095327281883 : True := trivial
theorem tw6358733634666528274 : True := trivial
theorem tw3461946824975383610 : True := trivial
theorem tw4223787210335433107 : True := trivial
theorem tw11997989995519139355 : True := trivial
theorem tw9963799447932761678 : True := trivial
theorem tw14667757123320533377 : True := trivial
theorem tw5374248614119053627 : True := trivial
theorem tw17992094291149321677 : True := trivial
theorem tw1249678314329710089 : True := trivial
theorem tw1401291429530711392 : True := trivial
theorem tw294838340590646444 : True := trivial
theorem tw7292151638248206161 : True := trivial
theorem tw3223327781717901081 : True := trivial
theorem tw14568219348803991992 : True := trivial
theorem tw18050289342718494350 : True := trivial
theorem tw13864207290872163542 : True := trivial
theorem tw6685363752564858067 : True := trivial
theorem tw15135516625818553745 : True := trivial
theorem tw6336068154271687068 : True := trivial
theorem tw16346830890705843212 : True := trivial
theorem tw18093689092666083935 : True := trivial
theorem tw8429965817331983175 : True := trivial
theorem tw14586206284747659021 : True := trivial
theorem tw1659284450920487976 : True := trivial
theorem tw3270331951229709570 : True := trivial
theorem tw13684379760330717736 : True := trivial
theorem tw16477404069564237758 : True := trivial
theorem tw6398421003557184150 : True := trivial
theorem tw1684954984665400230 : True := trivial
theorem tw7646455900049756383 : True := trivial
theorem tw17374373658131723010 : True := trivial
theorem tw13999708114825689748 : True := trivial
theorem tw10502633632772487792 : True := trivial
theorem tw12710872832965111184 : True := trivial
theorem tw9393241588320918832 : True := trivial
theorem tw6793584945511071974 : True := trivial
theorem tw4371272758480319835 : True := trivial
theorem tw13830915536091614348 : True := trivial
theorem tw6623194368031247754 : True := trivial
theorem tw2921327604287411288 : True := trivial
theorem tw16649572865211151422 : True := trivial
theorem tw14132290011042162575 : True := trivial
theorem tw8692885733040297815 : True := trivial
theorem tw12368969530893645845 : True := trivial
theorem tw17926246910965040362 : True := trivial
theorem tw3457657354696915725 : True := trivial
theorem tw1848214507107644745 : True := trivial
theorem tw1414621915623267399 : True := trivial
theorem tw8749387284808160063 : True := trivial
theorem tw17141579502516574976 : True := trivial
theorem tw16301128707888036661 : True := trivial
theorem tw8466365381568724257 : True := trivial
theorem tw12099065383308327333 : True := trivial
theorem tw13906713610931849823 : True := trivial
theorem tw12462465362198852782 : True := trivial
theorem tw9032086094154456429 : True := trivial
theorem tw4877479640592477587 : True := trivial
theorem tw16885528498650252734 : True := trivial
theorem tw17138112835296323446 : True := trivial
theorem tw2669641938393255761 : True := trivial
theorem tw16089399917368939247 : True := trivial
theorem tw7897443747579110080 : True := trivial
theorem tw4494736088097717738 : True := trivial
theorem tw11652317694894270968 : True := trivial
theorem tw11507170781765260209 : True := trivial
theorem tw8765869134312743339 : True := trivial
theorem tw8433356517689473652 : True := trivial
theorem tw1291411420319130920 : True := trivial
theorem tw1836913934944408886 : True := trivial
theorem tw11033881670656288746 : True := trivial
theorem tw16285133823909915327 : True := trivial
theorem tw5538743597134851301 : True := trivial
theorem tw9742704900838054990 : True := trivial
theorem tw15849955015067212137 : True := trivial
theorem tw2127331847709457744 : True := trivial
theorem tw1363883452112666791 : True := trivial
theorem tw17763668345438234724 : True := trivial
theorem tw4768498327662203006 : True := trivial
theorem tw15028947867967167770 : True := trivial
theorem tw10099973668916029151 : True := trivial
theorem tw5808233511782201973 : True := trivial
theorem tw13231955108851697028 : True := trivial
theorem tw11430443662284656917 : True := trivial
theorem tw2111031244498221676 : True := trivial
theorem tw6539355424352358084 : True := trivial
theorem tw13471419450057882902 : True := trivial
theorem tw3018956392087243668 : True := trivial
theorem tw2710029131850540815 : True := trivial
theorem tw10157292756079432684 : True := trivial
theorem tw15351862855114386742 : True := trivial
theorem tw13537284307928852629 : True := trivial
theorem tw6282151709165010751 : True := trivial
theorem tw16590563900332495289 : True := trivial
theorem tw6884659610921171243 : True := trivial
theorem tw7867945436449346644 : True := trivial
theorem tw6201194478611216692 : True := trivial
theorem tw12472523816913446655 : True := trivial
theorem tw7356639779386163636 : True := trivial
theorem tw4942865854928814738 : True := trivial
theorem tw12126607747874364833 : True := trivial
theorem tw13199007446777656363 : True := trivial
theorem tw11396333298645242377 : True := trivial
theorem tw11776708446289454839 : True := trivial
theorem tw11858593793369709387 : True := trivial
theorem tw1958406579271050715 : True := trivial
theorem tw13935468555089878878 : True := trivial
theorem tw17948305547106237114 : True := trivial
theorem tw14839685400295887021 : True := trivial
theorem tw17015437218530677559 : True := trivial
theorem tw5300221262941628523 : True := trivial
theorem tw17721990833090033739 : True := trivial
theorem tw15147600595857130604 : True := trivial
theorem tw6667784048532520231 : True := trivial
theorem tw7633159758552266153 : True := trivial
theorem tw13827427851525303655 : True := trivial
theorem tw10520483796472440565 : True := trivial
theorem tw11617443742042317798 : True := trivial
theorem tw6191839228645904108 : True := trivial
theorem tw6705984952521772349 : True := trivial
theorem tw3048773772570497845 : True := trivial
theorem tw13238586227888872919 : True := trivial
theorem tw16009282439574713367 : True := trivial
theorem tw8407474164697368093 : True := trivial
theorem tw11022961425437907752 : True := trivial
theorem tw9879771428511853636 : True := trivial
theorem tw3164517179219718344 : True := trivial
theorem tw16414839784748365045 : True := trivial
theorem tw1235196494589687823 : True := trivial
theorem tw7895822967418134507 : True := trivial
theorem tw13555809847438474093 : True := trivial
theorem tw8497815917938075763 : True := trivial
theorem tw5575887002925442892 : True := trivial
theorem tw9874170389701166466 : True := trivial
theorem tw16349409305490097665 : True := trivial
theorem tw10365068949952118938 : True := trivial
theorem tw10276643117730435620 : True := trivial
theorem tw3253165918493921207 : True := trivial
theorem tw16533964454391838285 : True := trivial
theorem tw12251236497400440749 : True := trivial
theorem tw5754781691725903400 : True := trivial
theorem tw12547340619915236229 : True := trivial
theorem tw9112931452115141106 : True := trivial
theorem tw7036922406528302265 : True := trivial
theorem tw14299367415170109612 : True := trivial
theorem tw6596476774676440990 : True := trivial
theorem tw3973979738849398222 : True := trivial
theorem tw5378951758135702333 : True := trivial
theorem tw13811114452690539143 : True := trivial
theorem tw1626487909405827825 : True := trivial
theorem tw9331197084190196327 : True := trivial
theorem tw14688406396571228291 : True := trivial
theorem tw6425286234499347205 : True := trivial
theorem tw4861172722339926863 : True := trivial
theorem tw18338279157778772507 : True := trivial
theorem tw16594484684354807143 : True := trivial
theorem tw14148893866004295342 : True := trivial
theorem tw17221588637952797082 : True := trivial
theorem tw5472215921976914262 : True := trivial
theorem tw8263930154489464614 : True := trivial
theorem tw4962598129536575479 : True := trivial
theorem tw17560427790943104098 : True := trivial
theorem tw3746694526926311862 : True := trivial
theorem tw8487215740910295990 : True := trivial
theorem tw11610778366043196201 : True := trivial
theorem tw4116748502663079711 : True := trivial
theorem tw15505929348892142238 : True := trivial
theorem tw10641291273757749582 : True := trivial
theorem tw18163081083556450588 : True := trivial
theorem tw2990077182882590618 : True := trivial
theorem tw11697265528798552341 : True := trivial
theorem tw9895477259203684957 : True := trivial
theorem tw12325219917481703174 : True := trivial
theorem tw14214957911264612641 : True := trivial
theorem tw12288020728745699607 : True := trivial
theorem tw15051910685114318475 : True := trivial
theorem tw15524918835762137171 : True := trivial
theorem tw8064747347168535941 : True := trivial
theorem tw1690419512912373125 : True := trivial
theorem tw9694980518810847994 : True := trivial
theorem tw8062054506752511760 : True := trivial
theorem tw15355981613059460596 : True := trivial
theorem tw1909489138349788593 : True := trivial
theorem tw6175330955351554944 : True := trivial
theorem tw3838124022631150205 : True := trivial
theorem tw5793146350980860570 : True := trivial
theorem tw17860951049714270477 : True := trivial
theorem tw542222969511884393 : True := trivial
theorem tw655766010842833382 : True := trivial
theorem tw5781877015166556880 : True := trivial
theorem tw8813321333377644559 : True := trivial
theorem tw497022080551542963 : True := trivial
theorem tw17016909037561435775 : True := trivial
theorem tw132720417515208717 : True := trivial
theorem tw4288072225070282557 : True := trivial
theorem tw5076114396470245637 : True := trivial
theorem tw4025187702543972469 : True := trivial
theorem tw11479713870197204448 : True := trivial
theorem tw12682375672712740429 : True := trivial
theorem tw15276325181542205162 : True := trivial
theorem tw7910302110584203167 : True := trivial
theorem tw6070965748112914174 : True := trivial
theorem tw8450627060964418144 : True := trivial
theorem tw8970415543768418435 : True := trivial
theorem tw7414228235309596840 : True := trivial
theorem tw7184632656763779529 : True := trivial
theorem tw11677063499774731087 : True := trivial
theorem tw8154326888273227812 : True := trivial
theorem tw8900602227777198182 : True := trivial
theorem tw11211588718676700858 : True := trivial
theorem tw13937411866250838273 : True := trivial
theorem tw1635437973539779046 : True := trivial
theorem tw11128375749053351795 : True := trivial
theorem tw2634447529181361438 : True := trivial
theorem tw2196197153281880561 : True := trivial
theorem tw17140507538068409488 : True := trivial
theorem tw11648094514948324868 : True := trivial
theorem tw16386643045412514316 : True := trivial
theorem tw2903223015038180731 : True := trivial
theorem tw1391073276677131210 : True := trivial
theorem tw13831722449923553024 : True := trivial
theorem tw16005363939565808827 : True := trivial
theorem tw2741898057790282827 : True := trivial
theorem tw5054714047066779271 : True := trivial
theorem tw11956672884902734547 : True := trivial
theorem tw6971050419453410201 : True := trivial
theorem tw11398915013276853934 : True := trivial
theorem tw12922103201332665170 : True := trivial
theorem tw9139018900951724539 : True := trivial
theorem tw17281287859398653246 : True := trivial
theorem tw9090098119585091223 : True := trivial
theorem tw9003890929474493776 : True := trivial
theorem tw4793510675814328055 : True := trivial
theorem tw5127909697723137815 : True := trivial
theorem tw17626524405620509241 : True := trivial
theorem tw7151956662133420098 : True := trivial
theorem tw10175670926199605738 : True := trivial
theorem tw5908007069121629671 : True := trivial
theorem tw14421154220292290945 : True := trivial
theorem tw2860580033513618108 : True := trivial
theorem tw682801400859511650 : True := trivial
theorem tw11450465141889779744 : True := trivial
theorem tw6162411019494789279 : True := trivial
theorem tw1475440545471123246 : True := trivial
theorem tw1430014835333706778 : True := trivial
theorem tw4389299135215872657 : True := trivial
theorem tw5513773140566411152 : True := trivial
theorem tw10981692967524548953 : True := trivial
theorem tw1833031885236995201 : True := trivial
theorem tw3289098675076184193 : True := trivial
theorem tw8174128729569005116 : True := trivial
theorem tw2552030543723177972 : True := trivial
theorem tw13675040592773802744 : True := trivial
theorem tw3695646201478132791 : True := trivial
theorem tw2107060282147261928 : True := trivial
theorem tw326634320876951052 : True := trivial
theorem tw7116083284211427426 : True := trivial
theorem tw16313888046482289099 : True := trivial
theorem tw11378471866540021925 : True := trivial
theorem tw6249181590445962804 : True := trivial
theorem tw15894145083921882851 : True := trivial
theorem tw4065557324891938113 : True := trivial
theorem tw2596650843693688077 : True := trivial
theorem tw17668698925830244599 : True := trivial
theorem tw15684104075277360174 : True := trivial
theorem tw1318845758087560310 : True := trivial
theorem tw11076383298340664478 : True := trivial
theorem tw11226687411839416336 : True := trivial
theorem tw11307153600695756772 : True := trivial
theorem tw5373096619367270068 : True := trivial
theorem tw17118107601225732173 : True := trivial
theorem tw11351681431851588825 : True := trivial
theorem tw15042260929800753919 : True := trivial
theorem tw7603865963008633331 : True := trivial
theorem tw11330162047754136634 : True := trivial
theorem tw13385694986486351383 : True := trivial
theorem tw15423439342038399129 : True := trivial
theorem tw12353886927633058865 : True := trivial
theorem tw9478114470248788067 : True := trivial
theorem tw11929970280177914623 : True := trivial
theorem tw10988892148018653039 : True := trivial
theorem tw17551994125761673714 : True := trivial
theorem tw17055641507754147059 : True := trivial
theorem tw3207246402246484876 : True := trivial
theorem tw11853383772060459022 : True := trivial
theorem tw11649667812942456819 : True := trivial
theorem tw11102705256597898961 : True := trivial
theorem tw17107421884018554288 : True := trivial
theorem tw14199761005967323618 : True := trivial
theorem tw6737413586567672369 : True := trivial
theorem tw17514973035265673179 : True := trivial
theorem tw588472985800811440 : True := trivial
theorem tw13753242721781549152 : True := trivial
theorem tw3750550798722044206 : True := trivial
theorem tw8875690330184921226 : True := trivial
theorem tw7900200793212812636 : True := trivial
theorem tw13944804485241757522 : True := trivial
theorem tw1344324798908565570 : True := trivial
theorem tw11691079902634758066 : True := trivial
theorem tw4243059885184902566 : True := trivial
theorem tw14452650201962016906 : True := trivial
theorem tw12394235570577326772 : True := trivial
theorem tw14439924158401281357 : True := trivial
theorem tw7743851337032320330 : True := trivial
theorem tw15966853884223200324 : True := trivial
theorem tw1731099999287871011 : True := trivial
theorem tw6887858108543740720 : True := trivial
theorem tw17309378469158412696 : True := trivial
theorem tw179487548926668136 : True := trivial
theorem tw17811012818719992212 : True := trivial
theorem tw8623085812750875251 : True := trivial
theorem tw7376215857736183441 : True := trivial
theorem tw8991669393510286451 : True := trivial
theorem tw18124012788890980543 : True := trivial
theorem tw13834738937008375081 : True := trivial
theorem tw7965887243773790776 : True := trivial
theorem tw6312709002835474286 : True := trivial
theorem tw4730338254091477314 : True := trivial
theorem tw17703115612063696057 : True := trivial
theorem tw14944162493231532438 : True := trivial
theorem tw5085917346781754032 : True := trivial
theorem tw13951241407652622607 : True := trivial
theorem tw669262161436355111 : True := trivial
theorem tw13803074431443403215 : True := trivial
theorem tw11803471987079426016 : True := trivial
theorem tw13549339067939343502 : True := trivial
theorem tw6112737777993995921 : True := trivial
theorem tw11437957312320253862 : True := trivial
theorem tw7555618977967314792 : True := trivial
theorem tw3703643892375647745 : True := trivial
theorem tw15346632840360498526 : True := trivial
theorem tw6569163108263618496 : True := trivial
theorem tw1058610494610348331 : True := trivial
theorem tw7516605559468289659 : True := trivial
theorem tw4393588993269863293 : True := trivial
theorem tw5476750559955024058 : True := trivial
theorem tw5589038567020149928 : True := trivial
theorem tw6649708592907759403 : True := trivial
theorem tw10602743435679170152 : True := trivial
theorem tw10062747091689178949 : True := trivial
theorem tw12173208712850738471 : True := trivial
theorem tw9064265496776192131 : True := trivial
theorem tw6878577873201367003 : True := trivial
theorem tw13653226794563918833 : True := trivial
theorem tw573066746850395004 : True := trivial
theorem tw17191104275254089026 : True := trivial
theorem tw9394859188054962234 : True := trivial
theorem tw6028525695320405746 : True := trivial
theorem tw6520186470310851909 : True := trivial
theorem tw250792576333007072 : True := trivial
theorem tw17106410941615260673 : True := trivial
theorem tw17296072299308907312 : True := trivial
theorem tw13609975222481923723 : True := trivial
theorem tw500714215722039786 : True := trivial
theorem tw18181438077389086059 : True := trivial
theorem tw12882201327565300449 : True := trivial
theorem tw1281808047640002049 : True := trivial
theorem tw4151817406818883788 : True := trivial
theorem tw4355028151989736658 : True := trivial
theorem tw9440145982682118734 : True := trivial
theorem tw12419890568005258368 : True := trivial
theorem tw763224453353745733 : True := trivial
theorem tw6724587629152144248 : True := trivial
theorem tw4398183582864093402 : True := trivial
theorem tw11876569880407542569 : True := trivial
theorem tw28650980427559463 : True := trivial
theorem tw4657102790034676926 : True := trivial
theorem tw220938549885206908 : True := trivial
theorem tw11760722305525857788 : True := trivial
theorem tw1926587183282657225 : True := trivial
theorem tw15093715905658528202 : True := trivial
theorem tw12805434901021215316 : True := trivial
theorem tw12819166395124218604 : True := trivial
theorem tw6041804363087525434 : True := trivial
theorem tw13193003573541413481 : True := trivial
theorem tw7322681587213926658 : True := trivial
theorem tw7154581117674683248 : True := trivial
theorem tw2497700691578558514 : True := trivial
theorem tw1038993721120772399 : True := trivial
theorem tw15418134647856566984 : True := trivial
theorem tw11869320325212682710 : True := trivial
theorem tw5597245200653540314 : True := trivial
theorem tw3281074830650797010 : True := trivial
theorem tw10302390311681643574 : True := trivial
theorem tw5614875628852115131 : True := trivial
theorem tw17321337051229216543 : True := trivial
theorem tw17154079636340773629 : True := trivial
theorem tw15621196189063214299 : True := trivial
theorem tw14278261615440329757 : True := trivial
theorem tw2380399583399943877 : True := trivial
theorem tw3118045340609688207 : True := trivial
theorem tw10858210434102251347 : True := trivial
theorem tw17257703296166576612 : True := trivial
theorem tw9178142803881748677 : True := trivial
theorem tw1270122286716480623 : True := trivial
theorem tw3226953516145570826 : True := trivial
theorem tw14171910477595456982 : True := trivial
theorem tw14137544754569078880 : True := trivial
theorem tw12386642004650496210 : True := trivial
theorem tw13251193653980185603 : True := trivial
theorem tw14653170859895438894 : True := trivial
theorem tw8065100369688493179 : True := trivial
theorem tw522926176054844323 : True := trivial
theorem tw17226998183561595294 : True := trivial
theorem tw3197559003809962980 : True := trivial
theorem tw3837013787998712701 : True := trivial
theorem tw12848417193463214010 : True := trivial
theorem tw14734810993037687847 : True := trivial
theorem tw17442487996499561707 : True := trivial
theorem tw3771916373459912781 : True := trivial
theorem tw17337222530840749484 : True := trivial
theorem tw8533730080177023829 : True := trivial
theorem tw11660339714501927535 : True := trivial
theorem tw4850762998281198093 : True := trivial
theorem tw9506497034573239112 : True := trivial
theorem tw14117180393760901441 : True := trivial
theorem tw16153562579067764126 : True := trivial
theorem tw12361053812710523834 : True := trivial
theorem tw317118378830800518 : True := trivial
theorem tw1489243295116873218 : True := trivial
theorem tw2345486621339437821 : True := trivial
theorem tw10322796225239262668 : True := trivial
theorem tw10677675347859654696 : True := trivial
theorem tw2999625191950530138 : True := trivial
theorem tw18168359172224363328 : True := trivial
theorem tw10438399379633631451 : True := trivial
theorem tw4104363860742020768 : True := trivial
theorem tw9673396764490865374 : True := trivial
theorem tw2365052621717123199 : True := trivial
theorem tw16101747603338774693 : True := trivial
theorem tw16448316233271872789 : True := trivial
theorem tw2113487513248497117 : True := trivial
theorem tw17536505529219487466 : True := trivial
theorem tw8850375691093347061 : True := trivial
theorem tw653505764582821956 : True := trivial
theorem tw17736137270272412434 : True := trivial
theorem tw12642813841669161112 : True := trivial
theorem tw2728375338218087524 : True := trivial
theorem tw5724507534656516380 : True := trivial
theorem tw2031850090977432884 : True := trivial
theorem tw14574868943470844917 : True := trivial
theorem tw16512278245596896394 : True := trivial
theorem tw2455763851433063427 : True := trivial
theorem tw9611918320799794592 : True := trivial
theorem tw6729682607712008075 : True := trivial
theorem tw9645498549301666964 : True := trivial
theorem tw3194351709158770799 : True := trivial
theorem tw7164193685354119663 : True := trivial
theorem tw15539492795016623089 : True := trivial
theorem tw14725303748182411611 : True := trivial
theorem tw15798425973722347954 : True := trivial
theorem tw15538594627369112914 : True := trivial
theorem tw754420460391003944 : True := trivial
theorem tw3722975287016037882 : True := trivial
theorem tw16762532516500826068 : True := trivial
theorem tw12560573478790756408 : True := trivial
theorem tw5469033620989554712 : True := trivial
theorem tw14938217525316880136 : True := trivial
theorem tw6730336039952086986 : True := trivial
theorem tw5427905118417616955 : True := trivial
theorem tw14335949938916911898 : True := trivial
theorem tw2156108908236407460 : True := trivial
theorem tw4293647961277531885 : True := trivial
theorem tw7457947404439400597 : True := trivial
theorem tw14890493600003782580 : True := trivial
theorem tw10804799223435223052 : True := trivial
theorem tw4893633114215840943 : True := trivial
theorem tw5815739645972197160 : True := trivial
theorem tw17860967722660903695 : True := trivial
theorem tw5356361100005662234 : True := trivial
theorem tw17505558794850105056 : True := trivial
theorem tw17507248736581730676 : True := trivial
theorem tw10323097785945174580 : True := trivial
theorem tw10476987809228745787 : True := trivial
theorem tw12145282014296101154 : True := trivial
theorem tw17517750403212250703 : True := trivial
theorem tw12155444967896593708 : True := trivial
theorem tw14503005677126772573 : True := trivial
theorem tw12976780541347426098 : True := trivial
theorem tw243487211488159551 : True := trivial
theorem tw3733982493223647747 : True := trivial
theorem tw15851601108890167810 : True := trivial
theorem tw13668916842001723031 : True := trivial
theorem tw5720785643549960286 : True := trivial
theorem tw2790177860598752843 : True := trivial
theorem tw18036348897573110108 : True := trivial
theorem tw2662366977260614167 : True := trivial
theorem tw17033194007955357592 : True := trivial
theorem tw1431111249016633813 : True := trivial
theorem tw6011123601901716411 : True := trivial
theorem tw5790376935205993410 : True := trivial
theorem tw13678035383482805370 : True := trivial
theorem tw9870395277506855364 : True := trivial
theorem tw12230793833196825665 : True := trivial
theorem tw14194498043684759512 : True := trivial
theorem tw8822442527117329078 : True := trivial
theorem tw5837466066472972743 : True := trivial
theorem tw8330600700993693659 : True := trivial
theorem tw13338905181660001153 : True := trivial
theorem tw10795962885459382996 : True := trivial
theorem tw109080288045940396 : True := trivial
theorem tw13856824805106171431 : True := trivial
theorem tw5138996899983816192 : True := trivial
theorem tw16360554297596767379 : True := trivial
theorem tw14989237592984071532 : True := trivial
theorem tw889014171125203523 : True := trivial
theorem tw7966372793328947877 : True := trivial
theorem tw4903624417947458666 : True := trivial
theorem tw370252004423885726 : True := trivial
theorem tw2821609997949945835 : True := trivial
theorem tw7198829839696004426 : True := trivial
theorem tw6026551936589814657 : True := trivial
theorem tw13321974483290254739 : True := trivial
theorem tw10715612823029556065 : True := trivial
theorem tw14319288998650497117 : True := trivial
theorem tw15526625429422739595 : True := trivial
theorem tw13224691270941759841 : True := trivial
theorem tw13841049889263989547 : True := trivial
theorem tw4793533138464697161 : True := trivial
theorem tw12522733751696747240 : True := trivial
theorem tw223564855945128155 : True := trivial
theorem tw13606890089011690952 : True := trivial
theorem tw1326140191505541492 : True := trivial
theorem tw3760769177419262941 : True := trivial
theorem tw7368946537118120131 : True := trivial
theorem tw3896930732943332405 : True := trivial
theorem tw17880880579452167630 : True := trivial
theorem tw4383906773949664694 : True := trivial
theorem tw13114725434692876752 : True := trivial
theorem tw13258679712800408687 : True := trivial
theorem tw15061740119081149257 : True := trivial
theorem tw13193892432962499904 : True := trivial
theorem tw16769763747366071145 : True := trivial
theorem tw4087481797275866375 : True := trivial
theorem tw3768343430364237453 : True := trivial
theorem tw6344591650624059027 : True := trivial
theorem tw8942892804320229883 : True := trivial
theorem tw16464909191738526142 : True := trivial
theorem tw6286858181234072450 : True := trivial
theorem tw11567874899359573325 : True := trivial
theorem tw3306992855482277098 : True := trivial
theorem tw491944295023681012 : True := trivial
theorem tw4985555127818990414 : True := trivial
theorem tw782869530219730288 : True := trivial
theorem tw15832714094972191370 : True := trivial
theorem tw17293258447341009008 : True := trivial
theorem tw12141926773395586255 : True := trivial
theorem tw4636310810874781139 : True := trivial
theorem tw13522868394898874421 : True := trivial
theorem tw12830830220275215248 : True := trivial
theorem tw16265843720305272175 : True := trivial
theorem tw6075198490959568653 : True := trivial
theorem tw15217317673531919563 : True := trivial
theorem tw8566968087598217063 : True := trivial
theorem tw3113852594466854700 : True := trivial
theorem tw3037811686791807922 : True := trivial
theorem tw1138805918056486706 : True := trivial
theorem tw1607394533723267550 : True := trivial
theorem tw11833385160190025116 : True := trivial
theorem tw14344924759571180338 : True := trivial
theorem tw4867090951254526645 : True := trivial
theorem tw10967047012500262555 : True := trivial
theorem tw1431635872933477880 : True := trivial
theorem tw14388090398791954395 : True := trivial
theorem tw12548078988853853269 : True := trivial
theorem tw5516149302970238964 : True := trivial
theorem tw10146234088658242760 : True := trivial
theorem tw15030839112632408358 : True := trivial
theorem tw6779498965988925015 : True := trivial
theorem tw9266256067964738942 : True := trivial
theorem tw5380399267961015999 : True := trivial
theorem tw1062528920445264800 : True := trivial
theorem tw10156348089537118404 : True := trivial
theorem tw8249826538645560462 : True := trivial
theorem tw5266103312182344571 : True := trivial
theorem tw8405057885276493169 : True := trivial
theorem tw15765035276928902908 : True := trivial
theorem tw6635481192252877198 : True := trivial
theorem tw12085485127045519365 : True := trivial
theorem tw12350545223865843501 : True := trivial
theorem tw12923750523594150661 : True := trivial
theorem tw1546064371945909144 : True := trivial
theorem tw13248235700122050697 : True := trivial
theorem tw1077371669912349497 : True := trivial
theorem tw13718384210568812177 : True := trivial
theorem tw1730243647468042983 : True := trivial
theorem tw14999131764727510031 : True := trivial
theorem tw18440583556145245022 : True := trivial
theorem tw11437277532278866707 : True := trivial
theorem tw3122383552200190958 : True := trivial
theorem tw9374455710123296785 : True := trivial
theorem tw10187364842809790488 : True := trivial
theorem tw4259359732108688278 : True := trivial
theorem tw3731233510411585816 : True := trivial
theorem tw6483582368238033255 : True := trivial
theorem tw6095287622911883415 : True := trivial
theorem tw1935390830006142508 : True := trivial
theorem tw5203560652684444761 : True := trivial
theorem tw128273090277973684 : True := trivial
theorem tw5366849634606399990 : True := trivial
theorem tw13555481962090573739 : True := trivial
theorem tw12539848559010023931 : True := trivial
theorem tw12761678711086858555 : True := trivial
theorem tw15252570395694761079 : True := trivial
theorem tw13597418197645941205 : True := trivial
theorem tw3285281919762016135 : True := trivial
theorem tw17617644322515073512 : True := trivial
theorem tw6177014272696851518 : True := trivial
theorem tw13669849582924013958 : True := trivial
theorem tw8600664700154667294 : True := trivial
theorem tw8951033344369395079 : True := trivial
theorem tw14189700933482207964 : True := trivial
theorem tw7339239547219730749 : True := trivial
theorem tw8494553172262164339 : True := trivial
theorem tw9460758473513735376 : True := trivial
theorem tw1815907683578231465 : True := trivial
theorem tw10762236264841312491 : True := trivial
theorem tw12360757723742708766 : True := trivial
theorem tw6484790959928002657 : True := trivial
theorem tw17134402337685527926 : True := trivial
theorem tw9892271495429790989 : True := trivial
theorem tw5783974200178407967 : True := trivial
theorem tw837399074822140656 : True := trivial
theorem tw8277134504101794514 : True := trivial
theorem tw9795108295405833310 : True := trivial
theorem tw12870843980747875567 : True := trivial
theorem tw7483867562673520817 : True := trivial
theorem tw1130070385661908856 : True := trivial
theorem tw15449431681333925356 : True := trivial
theorem tw14695194387108664824 : True := trivial
theorem tw1246211806546260043 : True := trivial
theorem tw10455470027063088105 : True := trivial
theorem tw15600622720898756542 : True := trivial
theorem tw7208650176080608984 : True := trivial
theorem tw13000489991264938648 : True := trivial
theorem tw15454288137367866342 : True := trivial
theorem tw8551308387428089099 : True := trivial
theorem tw3569115147019844946 : True := trivial
theorem tw7435360542044460405 : True := trivial
theorem tw13615451930523753564 : True := trivial
theorem tw432613508806282501 : True := trivial
theorem tw14159225681841967897 : True := trivial
theorem tw9253934359558924722 : True := trivial
theorem tw5596220567620901227 : True := trivial
theorem tw16358178803584721867 : True := trivial
theorem tw9920023112857061214 : True := trivial
theorem tw2703218118497473559 : True := trivial
theorem tw14625664344190135331 : True := trivial
theorem tw3563176150883903927 : True := trivial
theorem tw9800242583690654511 : True := trivial
theorem tw2867620194060164530 : True := trivial
theorem tw12146155626053313855 : True := trivial
theorem tw3139127272153553703 : True := trivial
theorem tw16181726208598222289 : True := trivial
theorem tw4263904179631243581 : True := trivial
theorem tw4464969964397167697 : True := trivial
theorem tw15217275965017125328 : True := trivial
theorem tw10216859373544020908 : True := trivial
theorem tw9433249876520337573 : True := trivial
theorem tw6989929011726266210 : True := trivial
theorem tw1037620297404039930 : True := trivial
theorem tw18113667374878955291 : True := trivial
theorem tw9593542875528618149 : True := trivial
theorem tw9634113156849400835 : True := trivial
theorem tw5913015678898271509 : True := trivial
theorem tw14096725274739997204 : True := trivial
theorem tw6453342165567545361 : True := trivial
theorem tw11889023186436966553 : True := trivial
theorem tw11046158616993543042 : True := trivial
theorem tw17230210097646516319 : True := trivial
theorem tw1963794229069049782 : True := trivial
theorem tw17483422925261951646 : True := trivial
theorem tw1091413363231583165 : True := trivial
theorem tw13970531439543994356 : True := trivial
theorem tw15663741857292483376 : True := trivial
theorem tw188235390223751825 : True := trivial
theorem tw1340745622246242629 : True := trivial
theorem tw10713796309875047218 : True := trivial
theorem tw4420375227405797735 : True := trivial
theorem tw7977197002889221481 : True := trivial
theorem tw5400116258960269769 : True := trivial
theorem tw14307209986516100135 : True := trivial
theorem tw15626815698367035174 : True := trivial
theorem tw10636644231291246938 : True := trivial
theorem tw3913518224374682288 : True := trivial
theorem tw3227078039031751544 : True := trivial
theorem tw2194184521637714029 : True := trivial
theorem tw3343947648231667464 : True := trivial
theorem tw10514184872009180633 : True := trivial
theorem tw16938217668890638835 : True := trivial
theorem tw7039977069300831152 : True := trivial
theorem tw6118483834478097488 : True := trivial
theorem tw18346556977519467882 : True := trivial
theorem tw14275713666198510690 : True := trivial
theorem tw7760316195136467217 : True := trivial
theorem tw5648513849542654997 : True := trivial
theorem tw9393670708276022164 : True := trivial
theorem tw11163453217909123556 : True := trivial
theorem tw14434545030025215591 : True := trivial
theorem tw6570782395151722408 : True := trivial
theorem tw4807630148489941766 : True := trivial
theorem tw17327125788355952856 : True := trivial
theorem tw1300657061973409266 : True := trivial
theorem tw5811981943376282893 : True := trivial
theorem tw16083003062989663191 : True := trivial
theorem tw15161634968336044159 : True := trivial
theorem tw17631936137441393907 : True := trivial
theorem tw13512655540018764246 : True := trivial
theorem tw7094699993150001779 : True := trivial
theorem tw4645494646289516312 : True := trivial
theorem tw1600111416649510774 : True := trivial
theorem tw11900102735226890016 : True := trivial
theorem tw1575907656060887659 : True := trivial
theorem tw3416218831627295849 : True := trivial
theorem tw7605122912284214142 : True := trivial
theorem tw10036396396966037873 : True := trivial
theorem tw18186684778206900924 : True := trivial
theorem tw12137037193267321333 : True := trivial
theorem tw5132315454497545320 : True := trivial
theorem tw3028311438877628005 : True := trivial
theorem tw17676387700575872848 : True := trivial
theorem tw15716693103879583992 : True := trivial
theorem tw9893007299051989341 : True := trivial
theorem tw293541597784398280 : True := trivial
theorem tw7965346263858945655 : True := trivial
theorem tw8794980205008083901 : True := trivial
theorem tw8084920050762590217 : True := trivial
theorem tw1089911769584679309 : True := trivial
theorem tw100776061040915330 : True := trivial
theorem tw13018522344898449726 : True := trivial
theorem tw597185092510247943 : True := trivial
theorem tw10574976563012770102 : True := trivial
theorem tw13396646595282953971 : True := trivial
theorem tw5345832124097324177 : True := trivial
theorem tw11681717180713133392 : True := trivial
theorem tw3469833949330794105 : True := trivial
theorem tw11875958768238540455 : True := trivial
theorem tw14238714839493290320 : True := trivial
theorem tw12194379784054704134 : True := trivial
theorem tw1843966078086018121 : True := trivial
theorem tw14309660840545346880 : True := trivial
theorem tw6348432966767508776 : True := trivial
theorem tw3854792327655133103 : True := trivial
theorem tw16192028396908389950 : True := trivial
theorem tw17956439001542973024 : True := trivial
theorem tw12122976639205865634 : True := trivial
theorem tw4762345097205574301 : True := trivial
theorem tw17843824735507765745 : True := trivial
theorem tw7899868477008773606 : True := trivial
theorem tw13500983807348147796 : True := trivial
theorem tw14016697196976611073 : True := trivial
theorem tw14559693963357534903 : True := trivial
theorem tw395357166047885018 : True := trivial
theorem tw3731206787374551835 : True := trivial
theorem tw2466408991678662921 : True := trivial
theorem tw3950434139940314041 : True := trivial
theorem tw10178307047797035799 : True := trivial
theorem tw127195400638007137 : True := trivial
theorem tw7701594489790155953 : True := trivial
theorem tw16496750986408451001 : True := trivial
theorem tw14982367217120586913 : True := trivial
theorem tw2698636786357738533 : True := trivial
theorem tw8560245168227706201 : True := trivial
theorem tw5820096132676144292 : True := trivial
theorem tw13462997113550436803 : True := trivial
theorem tw12814491529476798750 : True := trivial
theorem tw4327798310593315999 : True := trivial
theorem tw2667077928826653200 : True := trivial
theorem tw5656409162231442714 : True := trivial
theorem tw10943671939773748423 : True := trivial
theorem tw8099249629758216307 : True := trivial
theorem tw13591831014475453970 : True := trivial
theorem tw1658993230116449196 : True := trivial
theorem tw12491781347062353300 : True := trivial
theorem tw8780842041996459347 : True := trivial
theorem tw17720727902206743691 : True := trivial
theorem tw11518100310562322155 : True := trivial
theorem tw12128988411590358535 : True := trivial
theorem tw8665195503074549271 : True := trivial
theorem tw16952249718510891504 : True := trivial
theorem tw8422010552615574955 : True := trivial
theorem tw4956395027483559177 : True := trivial
theorem tw2930532399431264837 : True := trivial
theorem tw17537599516429706157 : True := trivial
theorem tw2961157478780546325 : True := trivial
theorem tw9288431862953779291 : True := trivial
theorem tw13729177639790632298 : True := trivial
theorem tw3874456908512783237 : True := trivial
theorem tw17978322573271069242 : True := trivial
theorem tw9135482721888646971 : True := trivial
theorem tw2083685417226581409 : True := trivial
theorem tw12842180360297004882 : True := trivial
theorem tw6951104589993838993 : True := trivial
theorem tw9226686507890399728 : True := trivial
theorem tw1821577208535785930 : True := trivial
theorem tw11449148682748241958 : True := trivial
theorem tw12599552572237424386 : True := trivial
theorem tw17412817294988000181 : True := trivial
theorem tw11763280754138120020 : True := trivial
theorem tw5992742328583030465 : True := trivial
theorem tw975648559081269603 : True := trivial
theorem tw11046506532364883640 : True := trivial
theorem tw8452918920768571820 : True := trivial
theorem tw8383614742060062910 : True := trivial
theorem tw1712284528555426714 : True := trivial
theorem tw4028521449484536714 : True := trivial
theorem tw16080384129353149722 : True := trivial
theorem tw2486448222554363075 : True := trivial
theorem tw8703212962345736300 : True := trivial
theorem tw6558857381956683251 : True := trivial
theorem tw2770622138359596537 : True := trivial
theorem tw7379079975966955854 : True := trivial
theorem tw17146015471678747405 : True := trivial
theorem tw8099414661751265922 : True := trivial
theorem tw10310476208237952882 : True := trivial
theorem tw17577820555476312557 : True := trivial
theorem tw14671452336891172028 : True := trivial
theorem tw322997481374649816 : True := trivial
theorem tw7965593314759599369 : True := trivial
theorem tw5111212954802664319 : True := trivial
theorem tw7660296340552268710 : True := trivial
theorem tw9368830051661470165 : True := trivial
theorem tw4397704412368751571 : True := trivial
theorem tw7804240462530116805 : True := trivial
theorem tw7132233570823424016 : True := trivial
theorem tw15420863799831023791 : True := trivial
theorem tw13156189680237709576 : True := trivial
theorem tw13622891410147255217 : True := trivial
theorem tw16261201815957668781 : True := trivial
theorem tw15864222724031634058 : True := trivial
theorem tw5035057763172934477 : True := trivial
theorem tw896938151080547428 : True := trivial
theorem tw10041905535551068163 : True := trivial
theorem tw16462309932926338909 : True := trivial
theorem tw4008527287624249363 : True := trivial
theorem tw9487855802259256748 : True := trivial
theorem tw6232771589436855647 : True := trivial
theorem tw17921627664872996527 : True := trivial
theorem tw3074546597756496485 : True := trivial
theorem tw10193551847663603356 : True := trivial
theorem tw11770225864629729280 : True := trivial
theorem tw14085804975782875189 : True := trivial
theorem tw9422315399777252954 : True := trivial
theorem tw8781488962944368577 : True := trivial
theorem tw836532685110447654 : True := trivial
theorem tw17569413687869289162 : True := trivial
theorem tw16854934604054635867 : True := trivial
theorem tw9525094564037895511 : True := trivial
theorem tw10834890913585249155 : True := trivial
theorem tw7359686381326682346 : True := trivial
theorem tw16275577335084111801 : True := trivial
theorem tw7680310444597751747 : True := trivial
theorem tw14394703948004995414 : True := trivial
theorem tw14684629280047292510 : True := trivial
theorem tw2995708746150929201 : True := trivial
theorem tw8499050514639104391 : True := trivial
theorem tw975904978186483971 : True := trivial
theorem tw10076449189736074750 : True := trivial
theorem tw6297599014343578896 : True := trivial
theorem tw7322439153497630560 : True := trivial
theorem tw5167000828659204998 : True := trivial
theorem tw1293081458737352183 : True := trivial
theorem tw9386303764432520727 : True := trivial
theorem tw2762341059214622556 : True := trivial
theorem tw2102489329306040618 : True := trivial
theorem tw13402326747518380899 : True := trivial
theorem tw17644214159059984083 : True := trivial
theorem tw15055872572698128473 : True := trivial
theorem tw4819560911809100953 : True := trivial
theorem tw11774769916411639008 : True := trivial
theorem tw17876216267332217361 : True := trivial
theorem tw17080150125319202032 : True := trivial
theorem tw10032839454385930349 : True := trivial
theorem tw188849932580185196 : True := trivial
theorem tw12422647051847282293 : True := trivial
theorem tw6291645891536335979 : True := trivial
theorem tw3809111671782445004 : True := trivial
theorem tw18136520036616585845 : True := trivial
theorem tw11384092494740519869 : True := trivial
theorem tw12744890760036396370 : True := trivial
theorem tw2405573334282855558 : True := trivial
theorem tw9884010000987088662 : True := trivial
theorem tw755256756698569854 : True := trivial
theorem tw1165796472056945875 : True := trivial
theorem tw16725507025650154312 : True := trivial
theorem tw10460255064178166358 : True := trivial
theorem tw17768691596404212338 : True := trivial
theorem tw14136529883467792202 : True := trivial
theorem tw9161788307494760299 : True := trivial
theorem tw2101120213640665736 : True := trivial
theorem tw17260752063121689465 : True := trivial
theorem tw10276979642652603852 : True := trivial
theorem tw16664193881727785779 : True := trivial
theorem tw575953641733384991 : True := trivial
theorem tw5336466550917533484 : True := trivial
theorem tw16047617903433532014 : True := trivial
theorem tw8272838245999183267 : True := trivial
theorem tw10914679043281923397 : True := trivial
theorem tw12204391498904138152 : True := trivial
theorem tw2766262667357516944 : True := trivial
theorem tw7418706379168653086 : True := trivial
theorem tw5393768745322667572 : True := trivial
theorem tw4639560136120831145 : True := trivial
theorem tw12451744512120852166 : True := trivial
theorem tw251610681036922522 : True := trivial
theorem tw17050512843368159837 : True := trivial
theorem tw1000188771079311559 : True := trivial
theorem tw17939258136934209266 : True := trivial
theorem tw1732425224325544419 : True := trivial
theorem tw13702767680810768224 : True := trivial
theorem tw3359653791040566878 : True := trivial
theorem tw15118101197189436867 : True := trivial
theorem tw4222255818647881567 : True := trivial
theorem tw16123429215095482919 : True := trivial
theorem tw16842077265824525 : True := trivial
theorem tw12352490575158300734 : True := trivial
theorem tw6163960295497151241 : True := trivial
theorem tw4696112857127378632 : True := trivial
theorem tw1984225954470229995 : True := trivial
theorem tw7144234610179903636 : True := trivial
theorem tw9700698910114699216 : True := trivial
theorem tw7136774030657971531 : True := trivial
theorem tw12549056241650194210 : True := trivial
theorem tw13699928350487560703 : True := trivial
theorem tw2524690849268099042 : True := trivial
theorem tw16595015418228994983 : True := trivial
theorem tw6433429273003627655 : True := trivial
theorem tw16902872369362668139 : True := trivial
theorem tw15184371109058219540 : True := trivial
theorem tw2496471378494866729 : True := trivial
theorem tw4848815029445608746 : True := trivial
theorem tw8861949520882328230 : True := trivial
theorem tw7209857214019336378 : True := trivial
theorem tw3276076071482238986 : True := trivial
theorem tw5736493584576015743 : True := trivial
theorem tw5609275053689654417 : True := trivial
theorem tw12542629540775921161 : True := trivial
theorem tw17948108451274233286 : True := trivial
theorem tw922211910070458641 : True := trivial
theorem tw10694620262373738157 : True := trivial
theorem tw12048420212627665731 : True := trivial
theorem tw15764247155801667203 : True := trivial
theorem tw8879253427898635075 : True := trivial
theorem tw15629448635362858904 : True := trivial
theorem tw5268603892039385431 : True := trivial
theorem tw5151493115693973405 : True := trivial
theorem tw16679255515117558226 : True := trivial
theorem tw15963619895640125259 : True := trivial
theorem tw3646045620462805133 : True := trivial
theorem tw12165726766832294752 : True := trivial
theorem tw3686579437271655613 : True := trivial
theorem tw7587714107793212789 : True := trivial
theorem tw7696844528275633209 : True := trivial
theorem tw9387213255217462854 : True := trivial
theorem tw4197773816108073653 : True := trivial
theorem tw12711040040555523371 : True := trivial
theorem tw15358957303492510621 : True := trivial
theorem tw10742509968719489753 : True := trivial
theorem tw10471817718710730822 : True := trivial
theorem tw2058844692085848310 : True := trivial
theorem tw1420993443174913203 : True := trivial
theorem tw13311115564330759335 : True := trivial
theorem tw11924888345833044596 : True := trivial
theorem tw80465954270893561 : True := trivial
theorem tw12890519584261262733 : True := trivial
theorem tw256593006189945601 : True := trivial
theorem tw12076950702210317318 : True := trivial
theorem tw14304485314274735764 : True := trivial
theorem tw17657038753278109926 : True := trivial
theorem tw2026025923923730382 : True := trivial
theorem tw11358636972886705761 : True := trivial
theorem tw5369231900822431646 : True := trivial
theorem tw6352807285733169017 : True := trivial
theorem tw6292134473448925114 : True := trivial
theorem tw7104701242907561880 : True := trivial
theorem tw18111218495519825130 : True := trivial
theorem tw12807305426611216395 : True := trivial
theorem tw3085576544599501084 : True := trivial
theorem tw15890623266924459933 : True := trivial
theorem tw18392143749978977071 : True := trivial
theorem tw14592624999449005251 : True := trivial
theorem tw4681085423237918143 : True := trivial
theorem tw12733550066468522877 : True := trivial
theorem tw3655916356570627739 : True := trivial
theorem tw4732687937641202045 : True := trivial
theorem tw15146055297645435897 : True := trivial
theorem tw12334970107359390172 : True := trivial
theorem tw7581494121558180553 : True := trivial
theorem tw2181161865894224632 : True := trivial
theorem tw11108573788537293906 : True := trivial
theorem tw16423855952498562507 : True := trivial
theorem tw5149896011690842865 : True := trivial
theorem tw1416359040538598540 : True := trivial
theorem tw16846338004622908657 : True := trivial
theorem tw7025791809329233680 : True := trivial
theorem tw17861713249493356932 : True := trivial
theorem tw10186951043930946270 : True := trivial
theorem tw16718496707523066812 : True := trivial
theorem tw12509069735289255747 : True := trivial
theorem tw5683488673253982729 : True := trivial
theorem tw15672768288467976569 : True := trivial
theorem tw17695459842445465963 : True := trivial
theorem tw2317403453571943355 : True := trivial
theorem tw5819110129875355595 : True := trivial
theorem tw14871363153945671515 : True := trivial
theorem tw16197230252046114654 : True := trivial
theorem tw2618952377052441648 : True := trivial
theorem tw14215232315664037420 : True := trivial
theorem tw8085892551308493343 : True := trivial
theorem tw17774972955830583010 : True := trivial
theorem tw7453344734858087484 : True := trivial
theorem tw7172358849669948803 : True := trivial
theorem tw5886597615657177205 : True := trivial
theorem tw1235284702329388895 : True := trivial
theorem tw6729290773658747611 : True := trivial
theorem tw2046973254522860353 : True := trivial
theorem tw3312348837755327518 : True := trivial
theorem tw10472651417778691271 : True := trivial
theorem tw16027925628374736832 : True := trivial
theorem tw9004361681597465572 : True := trivial
theorem tw7388595623836367575 : True := trivial
theorem tw3464365826884963751 : True := trivial
theorem tw17241911929676948016 : True := trivial
theorem tw209056754619232510 : True := trivial
theorem tw16382872390806775534 : True := trivial
theorem tw3363278808287805634 : True := trivial
theorem tw13796615684237765490 : True := trivial
theorem tw2709277305306979071 : True := trivial
theorem tw3207718342619547746 : True := trivial
theorem tw15080429040829402687 : True := trivial
theorem tw2748728783388969603 : True := trivial
theorem tw4970604671059066768 : True := trivial
theorem tw17640744700800344577 : True := trivial
theorem tw1012531146358716169 : True := trivial
theorem tw17062781207334810568 : True := trivial
theorem tw1349360547549162001 : True := trivial
theorem tw7611965627287657870 : True := trivial
theorem tw9304752457196982319 : True := trivial
theorem tw17121864043401314395 : True := trivial
theorem tw5490416473557214573 : True := trivial
theorem tw5744828191110580229 : True := trivial
theorem tw17198507986485230206 : True := trivial
theorem tw14795473105315810466 : True := trivial
theorem tw5516049293328950904 : True := trivial
theorem tw10256078580882812985 : True := trivial
theorem tw6215435784401868845 : True := trivial
theorem tw12065750636516485779 : True := trivial
theorem tw16157420351589380449 : True := trivial
theorem tw2589513950588922342 : True := trivial
theorem tw3397193606736461338 : True := trivial
theorem tw2568009873057418769 : True := trivial
theorem tw17623866822015760415 : True := trivial
theorem tw15934542786254740732 : True := trivial
theorem tw14061414066387493190 : True := trivial
theorem tw2505699514275848797 : True := trivial
theorem tw13536884920244345536 : True := trivial
theorem tw312212937690803380 : True := trivial
theorem tw14746447093696167205 : True := trivial
theorem tw7290370066663545889 : True := trivial
theorem tw1914482444614405869 : True := trivial
theorem tw1382203519813986112 : True := trivial
theorem tw2716106080454622199 : True := trivial
theorem tw790686614709694377 : True := trivial
theorem tw12487969754182538142 : True := trivial
theorem tw3741147773348524948 : True := trivial
theorem tw6219775417547916201 : True := trivial
theorem tw2310821442778459458 : True := trivial
theorem tw13005211621690583211 : True := trivial
theorem tw15034205181163567411 : True := trivial
theorem tw3602541388976503447 : True := trivial
theorem tw3016796114337433452 : True := trivial
theorem tw9387844559207427422 : True := trivial
theorem tw16313362038673258723 : True := trivial
theorem tw14334148117003261823 : True := trivial
theorem tw1245098601503163229 : True := trivial
theorem tw17944160590920475073 : True := trivial
theorem tw6512210612534193561 : True := trivial
theorem tw16776083858219573667 : True := trivial
theorem tw12947450718248763067 : True := trivial
theorem tw9742958397694249663 : True := trivial
theorem tw1776637700280616485 : True := trivial
theorem tw6000113016763940325 : True := trivial
theorem tw15618376361043140822 : True := trivial
theorem tw780456255434341472 : True := trivial
theorem tw7746915373040757210 : True := trivial
theorem tw16455439138001459611 : True := trivial
theorem tw4853983228282829942 : True := trivial
theorem tw17767177074249439409 : True := trivial
theorem tw2665938780813311931 : True := trivial
theorem tw102053013929503345 : True := trivial
theorem tw920922178505479959 : True := trivial
theorem tw17485224172165697431 : True := trivial
theorem tw2870387867578912535 : True := trivial
theorem tw12548558256654434410 : True := trivial
theorem tw17007831825629135195 : True := trivial
theorem tw3876806405534451334 : True := trivial
theorem tw231168618977246148 : True := trivial
theorem tw6831462295708780486 : True := trivial
theorem tw3801480148137220972 : True := trivial
theorem tw6407721073904088412 : True := trivial
theorem tw3819864618663851312 : True := trivial
theorem tw7622051588060967509 : True := trivial
theorem tw8990624822581070272 : True := trivial
theorem tw2274884927029996733 : True := trivial
theorem tw17612677970153409468 : True := trivial
theorem tw14852514413918561496 : True := trivial
theorem tw12435806732907941185 : True := trivial
theorem tw9148719491137153103 : True := trivial
theorem tw12201199527504364836 : True := trivial
theorem tw2303944663065658784 : True := trivial
theorem tw9796536081627122734 : True := trivial
theorem tw12701026114119581495 : True := trivial
theorem tw11540796830410906174 : True := trivial
theorem tw9470348977908817983 : True := trivial
theorem tw17243283499439642586 : True := trivial
theorem tw5916865776534996778 : True := trivial
theorem tw12188107120059110600 : True := trivial
theorem tw14691204243481215232 : True := trivial
theorem tw11530937534080100877 : True := trivial
theorem tw10272272502993590898 : True := trivial
theorem tw17562547647538563207 : True := trivial
theorem tw19733237075770995 : True := trivial
theorem tw7296620035653514683 : True := trivial
theorem tw1467633791571173344 : True := trivial
theorem tw11810108484244325921 : True := trivial
theorem tw9999329987473138370 : True := trivial
theorem tw389397290691495941 : True := trivial
theorem tw10033708126917373344 : True := trivial
theorem tw8256078363258356659 : True := trivial
theorem tw12470321088191655366 : True := trivial
theorem tw2573746713886580621 : True := trivial
theorem tw16983449461609238370 : True := trivial
theorem tw7399976413826860605 : True := trivial
theorem tw1650058613155220204 : True := trivial
theorem tw8881262935419519545 : True := trivial
theorem tw5328095382143994305 : True := trivial
theorem tw17353668218031630979 : True := trivial
theorem tw3996761831711489083 : True := trivial
theorem tw8573982491687100023 : True := trivial
theorem tw6288735596846432223 : True := trivial
theorem tw6111228250471476820 : True := trivial
theorem tw4375298303546187655 : True := trivial
theorem tw15012815650250599214 : True := trivial
theorem tw4632259672768905791 : True := trivial
theorem tw7190481887596440868 : True := trivial
theorem tw7680446729020537330 : True := trivial
theorem tw2603071097220578671 : True := trivial
theorem tw212585511280871218 : True := trivial
theorem tw4509844268876467361 : True := trivial
theorem tw15580400997740710228 : True := trivial
theorem tw3907783935413703533 : True := trivial
theorem tw13577342443547794949 : True := trivial
theorem tw17352801253727109952 : True := trivial
theorem tw233094541076003848 : True := trivial
theorem tw10953975121748177915 : True := trivial
theorem tw15891651171199995163 : True := trivial
theorem tw16670062107320115152 : True := trivial
theorem tw9401194479936595705 : True := trivial
theorem tw14859568380232049383 : True := trivial
theorem tw15351683122313713259 : True := trivial
theorem tw10218091906720055057 : True := trivial
theorem tw5161325587227918769 : True := trivial
theorem tw11878573585588509097 : True := trivial
theorem tw5914516427528856389 : True := trivial
theorem tw8226811956618891620 : True := trivial
theorem tw483779800676840411 : True := trivial
theorem tw9895350080912917571 : True := trivial
theorem tw3906294928906809346 : True := trivial
theorem tw4680118182544434721 : True := trivial
theorem tw13163505964383117826 : True := trivial
theorem tw12429298198738533232 : True := trivial
theorem tw6967736020887585345 : True := trivial
theorem tw2116708942128724592 : True := trivial
theorem tw15437144230731089366 : True := trivial
theorem tw7769163942880498762 : True := trivial
theorem tw12166357570115470197 : True := trivial
theorem tw15267735497942820693 : True := trivial
theorem tw15677172625759699867 : True := trivial
theorem tw9665950821965216623 : True := trivial
theorem tw683601426047991082 : True := trivial
theorem tw6221997819944128330 : True := trivial
theorem tw11857502504532620812 : True := trivial
theorem tw10518398108043162874 : True := trivial
theorem tw7337349264411835946 : True := trivial
theorem tw3060736881914636405 : True := trivial
theorem tw11453938597395236171 : True := trivial
theorem tw15979446291604000242 : True := trivial
theorem tw16197973863675157332 : True := trivial
theorem tw13521894929382624976 : True := trivial
theorem tw4396908012228088047 : True := trivial
theorem tw16702484877400804854 : True := trivial
theorem tw9663546821142688180 : True := trivial
theorem tw7324009853304139742 : True := trivial
theorem tw7011815265383024629 : True := trivial
theorem tw13676255133414737674 : True := trivial
theorem tw4802605019664797399 : True := trivial
theorem tw17883986210001664246 : True := trivial
theorem tw3117087243895643584 : True := trivial
theorem tw12684164200379288760 : True := trivial
theorem tw13616442778244168383 : True := trivial
theorem tw14266894020014251354 : True := trivial
theorem tw17974815303025991093 : True := trivial
theorem tw12574857641571762577 : True := trivial
theorem tw5602145393829055930 : True := trivial
theorem tw11797231338520533585 : True := trivial
theorem tw4162648752584933428 : True := trivial
theorem tw4880636620014648445 : True := trivial
theorem tw12950366331425061651 : True := trivial
theorem tw1383204545186755882 : True := trivial
theorem tw4376834169713392747 : True := trivial
theorem tw10881238019170143580 : True := trivial
theorem tw15710369457694059769 : True := trivial
theorem tw14995938963234366139 : True := trivial
theorem tw2993829186040919364 : True := trivial
theorem tw17582390356212563668 : True := trivial
theorem tw1531150990070805819 : True := trivial
theorem tw11552966379603090021 : True := trivial
theorem tw15763864893720979203 : True := trivial
theorem tw14259554878774844808 : True := trivial
theorem tw4339623020532548496 : True := trivial
theorem tw3260896915012301279 : True := trivial
theorem tw6003014006112253261 : True := trivial
theorem tw3436323750169284007 : True := trivial
theorem tw3733287528328778513 : True := trivial
theorem tw15267624551071833677 : True := trivial
theorem tw13225286267917727439 : True := trivial
theorem tw13947731425349459110 : True := trivial
theorem tw7406247796603120595 : True := trivial
theorem tw4728603850188907880 : True := trivial
theorem tw2491880506117382649 : True := trivial
theorem tw15548996339220497807 : True := trivial
theorem tw18102991104759739601 : True := trivial
theorem tw5341488365186822630 : True := trivial
theorem tw6881099161920923586 : True := trivial
theorem tw7083023206465442930 : True := trivial
theorem tw13985888999852105701 : True := trivial
theorem tw10651344676216607009 : True := trivial
theorem tw6008903036337724184 : True := trivial
theorem tw629670586299605718 : True := trivial
theorem tw4768907759747728515 : True := trivial
theorem tw9520427049926853316 : True := trivial
theorem tw4052059799635386392 : True := trivial
theorem tw8916652706822645361 : True := trivial
theorem tw5500652601185240981 : True := trivial
theorem tw13067637749323608449 : True := trivial
theorem tw5290016419496550755 : True := trivial
theorem tw5171205817835784918 : True := trivial
theorem tw12105989681699909338 : True := trivial
theorem tw6485472895464181615 : True := trivial
theorem tw7656655255797228292 : True := trivial
theorem tw13140148358707962558 : True := trivial
theorem tw6924405380406554822 : True := trivial
theorem tw2826981711739932830 : True := trivial
theorem tw12436228217612188848 : True := trivial
theorem tw7448128797688503175 : True := trivial
theorem tw1917090916536527347 : True := trivial
theorem tw6317695951366095890 : True := trivial
theorem tw7325663647228892538 : True := trivial
theorem tw11027935589837073601 : True := trivial
theorem tw9704784119082146984 : True := trivial
theorem tw10171617923455098660 : True := trivial
theorem tw14799448926016132184 : True := trivial
theorem tw14677968311469916915 : True := trivial
theorem tw17898141231337651495 : True := trivial
theorem tw9233254261973713326 : True := trivial
theorem tw7885052814504985949 : True := trivial
theorem tw17977710374418746204 : True := trivial
theorem tw1623935747245989699 : True := trivial
theorem tw6297931730462289364 : True := trivial
theorem tw2033374427922276433 : True := trivial
theorem tw17211992640448630081 : True := trivial
theorem tw14885148638140084017 : True := trivial
theorem tw14282694277786991430 : True := trivial
theorem tw10930618686670317591 : True := trivial
theorem tw6049183433402980836 : True := trivial
theorem tw5586994726362201782 : True := trivial
theorem tw6740123422423281815 : True := trivial
theorem tw6196380938108813800 : True := trivial
theorem tw15835696010199532485 : True := trivial
theorem tw799025916662681766 : True := trivial
theorem tw18305073125420914908 : True := trivial
theorem tw1569227451164713668 : True := trivial
theorem tw1506861900146789260 : True := trivial
theorem tw17365730573594511574 : True := trivial
theorem tw6260295444510595751 : True := trivial
theorem tw17231855524529240701 : True := trivial
theorem tw3796114116848496595 : True := trivial
theorem tw14729893910720610969 : True := trivial
theorem tw12310621848754434244 : True := trivial
theorem tw11616836547585967369 : True := trivial
theorem tw12458030176857995076 : True := trivial
theorem tw17552884609378934664 : True := trivial
theorem tw3274585752289141442 : True := trivial
theorem tw6605664804804044533 : True := trivial
theorem tw13340709915719567198 : True := trivial
theorem tw7087534877698106809 : True := trivial
theorem tw14443243738936012130 : True := trivial
theorem tw13474851799067008261 : True := trivial
theorem tw14366690755678358788 : True := trivial
theorem tw2187209527851527183 : True := trivial
theorem tw1848480919219827398 : True := trivial
theorem tw18119152815761392170 : True := trivial
theorem tw3210427782708607431 : True := trivial
theorem tw1963980297984613476 : True := trivial
theorem tw10769365566204841517 : True := trivial
theorem tw16463777409487467174 : True := trivial
theorem tw8738720240341202853 : True := trivial
theorem tw5484824113541341733 : True := trivial
theorem tw15799290404553712146 : True := trivial
theorem tw15626013556960538830 : True := trivial
theorem tw3368549021861163595 : True := trivial
theorem tw7550101158689557617 : True := trivial
theorem tw6756952408566442191 : True := trivial
theorem tw11234850593142915630 : True := trivial
theorem tw1057227182510044202 : True := trivial
theorem tw3647352627642638930 : True := trivial
theorem tw11980482908322402066 : True := trivial
theorem tw13974603026414545127 : True := trivial
theorem tw16648720862819928986 : True := trivial
theorem tw13901579184654646844 : True := trivial
theorem tw4853121379068532469 : True := trivial
theorem tw11862032215082404260 : True := trivial
theorem tw13552812480591874432 : True := trivial
theorem tw4998850551480336826 : True := trivial
theorem tw17449951051619728483 : True := trivial
theorem tw3978034661852663179 : True := trivial
theorem tw10979374542555320057 : True := trivial
theorem tw3367473159309309845 : True := trivial
theorem tw13364822525378734262 : True := trivial
theorem tw17606881565607251938 : True := trivial
theorem tw13103697827889988243 : True := trivial
theorem tw4891057524169622903 : True := trivial
theorem tw2018685615953839560 : True := trivial
theorem tw18165309680893953025 : True := trivial
theorem tw12620732380073492080 : True := trivial
theorem tw8578290084994185250 : True := trivial
theorem tw12210357062477602263 : True := trivial
theorem tw5881344672934158670 : True := trivial
theorem tw4225778196543390980 : True := trivial
theorem tw152415241575217403 : True := trivial
theorem tw14315933398089387855 : True := trivial
theorem tw3029933838874669936 : True := trivial
theorem tw2148372367516391533 : True := trivial
theorem tw3058339070622376311 : True := trivial
theorem tw15133326109396447978 : True := trivial
theorem tw582486964553596065 : True := trivial
theorem tw7360494276179611271 : True := trivial
theorem tw1486315016931139234 : True := trivial
theorem tw18415994234625673592 : True := trivial
theorem tw4953127337336771982 : True := trivial
theorem tw7006592790846672897 : True := trivial
theorem tw92991222269229546 : True := trivial
theorem tw6871193144589447379 : True := trivial
theorem tw18068250077344520602 : True := trivial
theorem tw6389805450296273863 : True := trivial
theorem tw1544511453517181792 : True := trivial
theorem tw3996882474915017218 : True := trivial
theorem tw1054452674335342659 : True := trivial
theorem tw1355236246167895061 : True := trivial
theorem tw10579984791833143519 : True := trivial
theorem tw3658542745321232971 : True := trivial
theorem tw15081825205273869605 : True := trivial
theorem tw12080126252732045167 : True := trivial
theorem tw3125537180369373756 : True := trivial
theorem tw2225640395786995470 : True := trivial
theorem tw11273099696775264101 : True := trivial
theorem tw12349539160650304579 : True := trivial
theorem tw16052065361100094399 : True := trivial
theorem tw12619752351574438172 : True := trivial
theorem tw9016098980006388783 : True := trivial
theorem tw13920050662243951879 : True := trivial
theorem tw10923338672747339744 : True := trivial
theorem tw1676175001072853765 : True := trivial
theorem tw15780777827100029673 : True := trivial
theorem tw16485859607266219646 : True := trivial
theorem tw10636800600090897364 : True := trivial
theorem tw12411747992957798912 : True := trivial
theorem tw4185513746216379318 : True := trivial
theorem tw15627225390823162863 : True := trivial
theorem tw15337489592322005934 : True := trivial
theorem tw3986789606057864448 : True := trivial
theorem tw10505470412950000194 : True := trivial
theorem tw16007082939160682707 : True := trivial
theorem tw9390225371627515108 : True := trivial
theorem tw2472204253603574503 : True := trivial
theorem tw5101769270550344536 : True := trivial
theorem tw16859366566010729568 : True := trivial
theorem tw3131516557490473338 : True := trivial
theorem tw15786461862072328206 : True := trivial
theorem tw1861462546779887699 : True := trivial
theorem tw13264051077729294096 : True := trivial
theorem tw18167039709227221759 : True := trivial
theorem tw2527130618489319560 : True := trivial
theorem tw13343068704753891160 : True := trivial
theorem tw13849579243927907377 : True := trivial
theorem tw12771499545754230039 : True := trivial
theorem tw13966959301368834497 : True := trivial
theorem tw1132033275297591232 : True := trivial
theorem tw9678943185690222991 : True := trivial
theorem tw6438608188013807566 : True := trivial
theorem tw1991704662295541477 : True := trivial
theorem tw6074532855372565789 : True := trivial
theorem tw10768210171293435150 : True := trivial
theorem tw902514241102858741 : True := trivial
theorem tw15330184828980739081 : True := trivial
theorem tw11999274660600656399 : True := trivial
theorem tw6016220678690760335 : True := trivial
theorem tw11260373693241163879 : True := trivial
theorem tw4791626082114587689 : True := trivial
theorem tw16039051838374758867 : True := trivial
theorem tw15601025819191824957 : True := trivial
theorem tw3288971825435059987 : True := trivial
theorem tw3381745450156608856 : True := trivial
theorem tw7645335780188419785 : True := trivial
theorem tw15766083346714948587 : True := trivial
theorem tw8915043439822898130 : True := trivial
theorem tw8659130520966562008 : True := trivial
theorem tw15369571473325915892 : True := trivial
theorem tw12187235832848294321 : True := trivial
theorem tw4546211068208448096 : True := trivial
theorem tw7970097435457904978 : True := trivial
theorem tw14150885565695021527 : True := trivial
theorem tw7930819922228258117 : True := trivial
theorem tw13664659118031593700 : True := trivial
theorem tw3744807186973979199 : True := trivial
theorem tw10835698185599619476 : True := trivial
theorem tw4544328035052144032 : True := trivial
theorem tw6560989481133778143 : True := trivial
theorem tw7980010179176997205 : True := trivial
theorem tw14907068397467895560 : True := trivial
theorem tw13131845161817649396 : True := trivial
theorem tw10794407490986047072 : True := trivial
theorem tw3321563143484337331 : True := trivial
theorem tw8750584412350755895 : True := trivial
theorem tw12202491300548505030 : True := trivial
theorem tw4087629404542270040 : True := trivial
theorem tw9595147584159709362 : True := trivial
theorem tw3602819864869658382 : True := trivial
theorem tw14738734807133165407 : True := trivial
theorem tw1460705032780239158 : True := trivial
theorem tw6204389506672190638 : True := trivial
theorem tw17071047935863974317 : True := trivial
theorem tw7391209310996954044 : True := trivial
theorem tw16981168873026790927 : True := trivial
theorem tw18268118710650178435 : True := trivial
theorem tw5117138999953042168 : True := trivial
theorem tw15496184148575360123 : True := trivial
theorem tw13936932924685439381 : True := trivial
theorem tw16157358435571004102 : True := trivial
theorem tw3521225800172275415 : True := trivial
theorem tw5943442704264124384 : True := trivial
theorem tw7651854744678733226 : True := trivial
theorem tw14291683787726676668 : True := trivial
theorem tw11615671169503793026 : True := trivial
theorem tw8905941465119637373 : True := trivial
theorem tw11192429632099398597 : True := trivial
theorem tw274119785099367870 : True := trivial
theorem tw8321523710589606305 : True := trivial
theorem tw10538137895499873004 : True := trivial
theorem tw12666866778437712473 : True := trivial
theorem tw12428113521219966795 : True := trivial
theorem tw4627606839140517866 : True := trivial
theorem tw16914530270944613788 : True := trivial
theorem tw770167181055254599 : True := trivial
theorem tw15845922259349129674 : True := trivial
theorem tw4238520597152196223 : True := trivial
theorem tw16953396087411588086 : True := trivial
theorem tw12163895823674165791 : True := trivial
theorem tw6741028463155477104 : True := trivial
theorem tw12224968091704683373 : True := trivial
theorem tw12809745511200170922 : True := trivial
theorem tw18218448275531275535 : True := trivial
theorem tw11612983304063616840 : True := trivial
theorem tw10907682200726074889 : True := trivial
theorem tw15366619712499082481 : True := trivial
theorem tw16390449374449267815 : True := trivial
theorem tw1996660533065180664 : True := trivial
theorem tw13221332293908648296 : True := trivial
theorem tw6120395660615721518 : True := trivial
theorem tw4507634392226465539 : True := trivial
theorem tw2725497828054694723 : True := trivial
theorem tw1222984582975458860 : True := trivial
theorem tw18363196748167572257 : True := trivial
theorem tw13438507972613203865 : True := trivial
theorem tw3057162270552517640 : True := trivial
theorem tw13123873849546237195 : True := trivial
theorem tw7370345230274057446 : True := trivial
theorem tw1296694993981174697 : True := trivial
theorem tw2383578406586663752 : True := trivial
theorem tw3746341942067479571 : True := trivial
theorem tw8926122439490024752 : True := trivial
theorem tw5485816723139602009 : True := trivial
theorem tw18135750742228741131 : True := trivial
theorem tw2441902530637236787 : True := trivial
theorem tw588886881683168584 : True := trivial
theorem tw3279476647684779322 : True := trivial
theorem tw2955916567440069973 : True := trivial
theorem tw13630669749386026756 : True := trivial
theorem tw2466962541430097879 : True := trivial
theorem tw12888063494866667845 : True := trivial
theorem tw7379510218919429001 : True := trivial
theorem tw9908099543329453368 : True := trivial
theorem tw7852398022326321065 : True := trivial
theorem tw14937055637391900158 : True := trivial
theorem tw10348523786088013903 : True := trivial
theorem tw4707668243866258428 : True := trivial
theorem tw5235971498429467132 : True := trivial
theorem tw13563161376402034781 : True := trivial
theorem tw13563667176785945014 : True := trivial
theorem tw17010940872893770916 : True := trivial
theorem tw5286120566827526955 : True := trivial
theorem tw4867904114527984904 : True := trivial
theorem tw12440404213918490263 : True := trivial
theorem tw1259718222643834782 : True := trivial
theorem tw10930781013766710913 : True := trivial
theorem tw9360335752994843866 : True := trivial
theorem tw11225850414049697650 : True := trivial
theorem tw15028236767156490979 : True := trivial
theorem tw3416738274754126609 : True := trivial
theorem tw2880644064052675018 : True := trivial
theorem tw4817330527670989066 : True := trivial
theorem tw6217440148472872504 : True := trivial
theorem tw17194313009491570163 : True := trivial
theorem tw10367014362729456637 : True := trivial
theorem tw6377125763519955122 : True := trivial
theorem tw4508819995907984843 : True := trivial
theorem tw5744519229156328233 : True := trivial
theorem tw11462113351930372447 : True := trivial
theorem tw7196548527904966219 : True := trivial
theorem tw13568172876952135928 : True := trivial
theorem tw7998911702604290494 : True := trivial
theorem tw14377587037127667160 : True := trivial
theorem tw5529059604696177307 : True := trivial
theorem tw4225972153354237373 : True := trivial
theorem tw10757976832346925440 : True := trivial
theorem tw13131541729792785207 : True := trivial
theorem tw1607144870647066601 : True := trivial
theorem tw11644257088075340612 : True := trivial
theorem tw13363426590666494675 : True := trivial
theorem tw5183848623257362370 : True := trivial
theorem tw15796561893152205846 : True := trivial
theorem tw9646217737759760980 : True := trivial
theorem tw10800228656220043668 : True := trivial
theorem tw16495007678653567655 : True := trivial
theorem tw7321129402771347725 : True := trivial
theorem tw371643333581103576 : True := trivial
theorem tw3719597219950225477 : True := trivial
theorem tw7851652038012497904 : True := trivial
theorem tw15565237751941685936 : True := trivial
theorem tw9188897489376502571 : True := trivial
theorem tw18386330916990640835 : True := trivial
theorem tw8336975468703124327 : True := trivial
theorem tw11995253855650493172 : True := trivial
theorem tw14077022915658149502 : True := trivial
theorem tw10891891860705987390 : True := trivial
theorem tw6545808978859286698 : True := trivial
theorem tw15246160194591639559 : True := trivial
theorem tw14029158985973744033 : True := trivial
theorem tw2430899914523884931 : True := trivial
theorem tw718476220380951834 : True := trivial
theorem tw14053889132290512097 : True := trivial
theorem tw8335959055344552144 : True := trivial
theorem tw17963889556027931681 : True := trivial
theorem tw8433728205571512998 : True := trivial
theorem tw8202455604550090355 : True := trivial
theorem tw1508735809271671678 : True := trivial
theorem tw13151893123190650439 : True := trivial
theorem tw16859988080700553302 : True := trivial
theorem tw9921728493407754526 : True := trivial
theorem tw15522350682270692422 : True := trivial
theorem tw9226434681136271032 : True := trivial
theorem tw16587564052930577049 : True := trivial
theorem tw10322339479022968679 : True := trivial
theorem tw14719969639486618640 : True := trivial
theorem tw13236749397885703696 : True := trivial
theorem tw4925695273076414640 : True := trivial
theorem tw476212020809007390 : True := trivial
theorem tw10232122681667948730 : True := trivial
theorem tw6749690273422752434 : True := trivial
theorem tw15070193256979490073 : True := trivial
theorem tw3773796793799573267 : True := trivial
theorem tw7176781584852843248 : True := trivial
theorem tw11282169902964090655 : True := trivial
theorem tw13841216357547882933 : True := trivial
theorem tw9609765481256303180 : True := trivial
theorem tw17933206096950690286 : True := trivial
theorem tw8564520060876042002 : True := trivial
theorem tw8553881812401114341 : True := trivial
theorem tw6001586038235723146 : True := trivial
theorem tw1498037472328186513 : True := trivial
theorem tw12492865468674011242 : True := trivial
theorem tw16064817581485687155 : True := trivial
theorem tw16407030398950406200 : True := trivial
theorem tw12832857058196633711 : True := trivial
theorem tw7881575561679065755 : True := trivial
theorem tw6729666074840103741 : True := trivial
theorem tw6057856248093911817 : True := trivial
theorem tw16766858265474093378 : True := trivial
theorem tw1472510859154934277 : True := trivial
theorem tw1166346608810949536 : True := trivial
theorem tw10129018025531892907 : True := trivial
theorem tw12809265373523090353 : True := trivial
theorem tw1022743244241833008 : True := trivial
theorem tw10146031964792575786 : True := trivial
theorem tw11325579257867435524 : True := trivial
theorem tw9289234236107270282 : True := trivial
theorem tw14328761533574417538 : True := trivial
theorem tw6012149167676988955 : True := trivial
theorem tw16132602635577173289 : True := trivial
theorem tw11294942567686198784 : True := trivial
theorem tw12256496458827891269 : True := trivial
theorem tw7934201310492077683 : True := trivial
theorem tw14548325469732198474 : True := trivial
theorem tw6452350300846286128 : True := trivial
theorem tw1271050376253006149 : True := trivial
theorem tw15034570186767788760 : True := trivial
theorem tw13455930862834636154 : True := trivial
theorem tw7909994640152134996 : True := trivial
theorem tw2893571282922758466 : True := trivial
theorem tw5850370348374224721 : True := trivial
theorem tw9873809155310459412 : True := trivial
theorem tw10524576324447482347 : True := trivial
theorem tw10395052887866035571 : True := trivial
theorem tw14749368594551641460 : True := trivial
theorem tw12174796529552294658 : True := trivial
theorem tw4217807772483584339 : True := trivial
theorem tw8965104925178632783 : True := trivial
theorem tw12975216435551116584 : True := trivial
theorem tw3261409608078710463 : True := trivial
theorem tw9246545909689513263 : True := trivial
theorem tw5338411698686525512 : True := trivial
theorem tw13802380817145101186 : True := trivial
theorem tw13450764796394871005 : True := trivial
theorem tw11686729788695399220 : True := trivial
theorem tw5940859330568347083 : True := trivial
theorem tw359195254534456930 : True := trivial
theorem tw9168398001909914496 : True := trivial
theorem tw8949643898892912478 : True := trivial
theorem tw7699926428618843923 : True := trivial
theorem tw17699856338828547296 : True := trivial
theorem tw12143079302847469842 : True := trivial
theorem tw2174524589372758380 : True := trivial
theorem tw15257364009196828968 : True := trivial
theorem tw12960409483653161461 : True := trivial
theorem tw13389984596280740102 : True := trivial
theorem tw3588731549309603771 : True := trivial
theorem tw11880200459288410392 : True := trivial
theorem tw4540434092166814214 : True := trivial
theorem tw3187889971265299622 : True := trivial
theorem tw643575148471769487 : True := trivial
end PySem.W.Fast
namespace Hd
set_option maxRecDepth 100000
set_option maxHeartbeats 0
open PySem PySem.W PyProof.Rows in
open_top top for PySem.Challenge.rw_evenplay_k13_films_formatted
end Hd
set_option maxRecDepth 512
set_option maxHeartbeats 200000
set_option Elab.async false
set_option maxRecDepth 100000
set_option maxHeartbeats 1000000
namespace Dl
open PySem L2
inductive D where
  | non | bl (b : Bool) | int (i : Int) | str (x : Str) | ty (n : String) | cl (a : Addr) | kls (n : String)
  | lst (ds : List D) | tup (ds : List D) | scr (ns : List Int)
  | dct (ks : List (Key × D))
  | ins (C : String) (fs : List (Str × D))
  | exc (C : String) (fs : List (Str × D))
/-- the class of a name, as the top has left it -/
def cn (K : PySem.W.Frag) (n : String) : Addr := match PySem.W.nsIn K mainGlobals (Str.ofString n) with
  | some (some (.ref a)) => a
  | _ => 0
theorem cn_eq {K : PySem.W.Frag} {n : String} {a : Addr} (h : PySem.W.nsIn K mainGlobals (Str.ofString n) = some (some (.ref a))) : cn K n = a := by
  unfold cn
  rw [h]
/-- an exception object that has landed -/
def ExT (cls : Value) (d : Option Addr) (a : Addr) : HO := .ext fun h => ∃ (oe : Obj) (vs : Array Value), h.get? a = some oe ∧ Zc cls d oe ∧ oe.data = .fields vs
mutual
inductive Rp (K : PySem.W.Frag) (G : Hp) : V → D → Prop
  | non : Rp K G .non .non
  | bl (b : Bool) : Rp K G (.bl b) (.bl b)
  | int (i : Int) : Rp K G (.int i) (.int i)
  | str (x : Str) : Rp K G (.str x) (.str x)
  | ty (n : String) : Rp K G (.ty n) (.ty n)
  | cl (a : Addr) : Rp K G (.ref a) (.cl a)
  | kls (n : String) : Rp K G (.ref (cn K n)) (.kls n)
  | lst {a : Addr} {xs : List V} {ds : List D} : G a = some (.lst xs) → RpL K G xs ds → Rp K G (.ref a) (.lst ds)
  | tup {a : Addr} {xs : List V} {ds : List D} : G a = some (.tup xs) → RpL K G xs ds → Rp K G (.ref a) (.tup ds)
  | scr {a : Addr} {ns : List Int} : SqL K G a (ns.map V.int) → Rp K G (.ref a) (.scr ns)
  | dct {a : Addr} {kvs : List (Key × V)} {ks : List (Key × D)} : G a = some (.dK kvs) → kvs.map (·.1) = ks.map (·.1) → RpL K G (kvs.map (·.2)) (ks.map (·.2)) → Rp K G (.ref a) (.dct ks)
  | exc0 {a : Addr} {C : String} : G a = some (ExT (.ref (cn K C)) none a) → Rp K G (.ref a) (.exc C [])
  | excD {a d : Addr} {C : String} {fvs : List (Str × V)} {fs : List (Str × D)} : G a = some (ExT (.ref (cn K C)) (some d) a) → G d = some (.xd fvs) → fvs.map (·.1) = fs.map (·.1) → RpL K G (fvs.map (·.2)) (fs.map (·.2)) → Rp K G (.ref a) (.exc C fs)
  | ins {a dx : Addr} {C : String} {fvs : List (Str × V)} {fs : List (Str × D)} : G a = some (.ins (cn K C) dx fvs) → fvs.map (·.1) = fs.map (·.1) → RpL K G (fvs.map (·.2)) (fs.map (·.2)) → Rp K G (.ref a) (.ins C fs)
inductive RpL (K : PySem.W.Frag) (G : Hp) : List V → List D → Prop
  | nil : RpL K G [] []
  | cons {v : V} {vs : List V} {d : D} {ds : List D} : Rp K G v d → RpL K G vs ds → RpL K G (v :: vs) (d :: ds)
end
section
variable {K : PySem.W.Frag} {G G' : Hp}
theorem same_rd {a : Addr} {u : HO} (e : Same G G') (h : Rd G a u) : Rd G' a u := by
  rcases h with h | ⟨o, h⟩
  · exact Or.inl (e a _ h)
  · exact Or.inr ⟨o, e a _ h⟩
theorem same_l {a : Addr} {xs : List V} (e : Same G G') (h : SqL K G a xs) : SqL K G' a xs := h.imp (same_rd e) id
mutual
theorem Rp.mono (e : Same G G') : ∀ {v : V} {d : D}, Rp K G v d → Rp K G' v d
  | _, _, .non => .non
  | _, _, .bl b => .bl b
  | _, _, .int i => .int i
  | _, _, .str x => .str x
  | _, _, .ty n => .ty n
  | _, _, .cl n => .cl n
  | _, _, .kls n => .kls n
  | _, _, .lst h r => .lst (e _ _ h) (RpL.mono e r)
  | _, _, .tup h r => .tup (e _ _ h) (RpL.mono e r)
  | _, _, .scr h => .scr (same_l e h)
  | _, _, .dct h k r => .dct (e _ _ h) k (RpL.mono e r)
  | _, _, .ins h k r => .ins (e _ _ h) k (RpL.mono e r)
  | _, _, .exc0 h => .exc0 (e _ _ h)
  | _, _, .excD h h2 k r => .excD (e _ _ h) (e _ _ h2) k (RpL.mono e r)
theorem RpL.mono (e : Same G G') : ∀ {vs : List V} {ds : List D}, RpL K G vs ds → RpL K G' vs ds
  | _, _, .nil => .nil
  | _, _, .cons h r => .cons (Rp.mono e h) (RpL.mono e r)
end
theorem RpL.length : ∀ {vs : List V} {ds : List D}, RpL K G vs ds → vs.length = ds.length
  | _, _, .nil => rfl
  | _, _, .cons _ r => congrArg (· + 1) r.length
theorem RpL.get : ∀ {vs : List V} {ds : List D} {i : Nat} {d : D}, RpL K G vs ds → ds[i]? = some d → ∃ v, vs[i]? = some v ∧ Rp K G v d
  | _, _, _, _, .nil, h => by simp at h
  | _, _, 0, _, .cons r _, h => by
    simp at h
    subst h
    exact ⟨_, rfl, r⟩
  | _, _, i + 1, d, .cons _ r, h => by
    obtain ⟨v, h1, h2⟩ := RpL.get (i := i) (d := d) r (by simpa using h)
    exact ⟨v, by simpa using h1, h2⟩
theorem RpL.app : ∀ {vs us : List V} {ds es : List D}, RpL K G vs ds → RpL K G us es → RpL K G (vs ++ us) (ds ++ es)
  | _, _, _, _, .nil, s => s
  | _, _, _, _, .cons h r, s => .cons h (r.app s)
theorem RpL.one {v : V} {d : D} (h : Rp K G v d) : RpL K G [v] [d] := .cons h .nil
theorem RpL.take : ∀ {vs : List V} {ds : List D} (n : Nat), RpL K G vs ds → RpL K G (vs.take n) (ds.take n)
  | _, _, 0, _ => .nil
  | _, _, _ + 1, .nil => .nil
  | _, _, n + 1, .cons h r => .cons h (RpL.take n r)
theorem RpL.drop : ∀ {vs : List V} {ds : List D} (n : Nat), RpL K G vs ds → RpL K G (vs.drop n) (ds.drop n)
  | _, _, 0, r => r
  | _, _, _ + 1, .nil => .nil
  | _, _, n + 1, .cons _ r => RpL.drop n r
theorem RpL.set {v : V} {d : D} (h : Rp K G v d) : ∀ {vs : List V} {ds : List D} (i : Nat), RpL K G vs ds → RpL K G (vs.set i v) (ds.set i d)
  | _, _, _, .nil => .nil
  | _, _, 0, .cons _ r => .cons h r
  | _, _, i + 1, .cons q r => .cons q (RpL.set h i r)
theorem RpL.erase : ∀ {vs : List V} {ds : List D} (i : Nat), RpL K G vs ds → RpL K G (vs.eraseIdx i) (ds.eraseIdx i)
  | _, _, _, .nil => .nil
  | _, _, 0, .cons _ r => r
  | _, _, i + 1, .cons q r => .cons q (RpL.erase i r)
theorem RpL.rep {vs : List V} {ds : List D} (r : RpL K G vs ds) : ∀ k : Nat, RpL K G (List.replicate k vs).flatten (List.replicate k ds).flatten
  | 0 => .nil
  | k + 1 => r.app (r.rep k)
theorem RpL.ints : ∀ {vs : List V} {ns : List Int}, RpL K G vs (ns.map D.int) → vs = ns.map V.int
  | _, [], .nil => rfl
  | _, n :: ns, .cons h r => by
    cases h
    rw [RpL.ints r]
    rfl
theorem RpL.of_ints : ∀ ns : List Int, RpL K G (ns.map V.int) (ns.map D.int)
  | [] => .nil
  | n :: ns => .cons (.int n) (RpL.of_ints ns)
theorem RpL.bls : ∀ {vs : List V} {ns : List Bool}, RpL K G vs (ns.map D.bl) → vs = ns.map V.bl
  | _, [], .nil => rfl
  | _, n :: ns, .cons h r => by
    cases h
    rw [RpL.bls r]
    rfl
theorem RpL.strs : ∀ {vs : List V} {ns : List Str}, RpL K G vs (ns.map D.str) → vs = ns.map V.str
  | _, [], .nil => rfl
  | _, n :: ns, .cons h r => by
    cases h
    rw [RpL.strs r]
    rfl
theorem RpL.of_strs : ∀ ns : List Str, RpL K G (ns.map V.str) (ns.map D.str)
  | [] => .nil
  | n :: ns => .cons (.str n) (RpL.of_strs ns)
end
/-- a datum, or the k-th owned object -/
inductive Lo where
  | im (d : D) | ow (k : Nat) | tp (ls : List Lo)
/-- an owned object: a list of data, of anything; a dict; an instance; no more one's own -/
inductive MO where
  | li (ds : List D) | ls (xs : List Lo) | dc (ks : List (Key × D)) | dm (ks : List (Key × Lo)) | ob (C : String) (fs : List (Str × Lo)) | gone | dl (od : Obj) (kvs : List (Key × V)) (ks : List (Key × D))
mutual
def LRp (K : PySem.W.Frag) (As : List Addr) (G : Hp) : V → Lo → Prop
  | v, .im d => Rp K G v d
  | v, .ow k => ∃ a, As[k]? = some a ∧ v = .ref a
  | v, .tp ls => ∃ a xs, v = .ref a ∧ G a = some (.tup xs) ∧ LRpS K As G xs ls
def LRpS (K : PySem.W.Frag) (As : List Addr) (G : Hp) : List V → List Lo → Prop
  | xs, [] => xs = []
  | xs, l :: ls => ∃ v vs, xs = v :: vs ∧ LRp K As G v l ∧ LRpS K As G vs ls
end
inductive LRpL (K : PySem.W.Frag) (As : List Addr) (G : Hp) : List V → List Lo → Prop
  | nil : LRpL K As G [] []
  | cons {v : V} {vs : List V} {l : Lo} {ls : List Lo} : LRp K As G v l → LRpL K As G vs ls → LRpL K As G (v :: vs) (l :: ls)
mutual
def refL (P : Nat → Prop) : Lo → Prop
  | .im _ => True
  | .ow k => P k
  | .tp ls => refLs P ls
def refLs (P : Nat → Prop) : List Lo → Prop
  | [] => True
  | l :: r => refL P l ∧ refLs P r
end
mutual
def renL (f : Nat → Nat) : Lo → Lo
  | .im d => .im d
  | .ow k => .ow (f k)
  | .tp ls => .tp (renLs f ls)
def renLs (f : Nat → Nat) : List Lo → List Lo
  | [] => []
  | l :: r => renL f l :: renLs f r
end
mutual
theorem LRp.ren {K : PySem.W.Frag} {As Au : List Addr} {G : Hp} {P : Nat → Prop} {f : Nat → Nat} (hf : ∀ k a, P k → As[k]? = some a → Au[f k]? = some a) : ∀ {v : V} {l : Lo}, LRp K As G v l → refL P l → LRp K Au G v (renL f l)
  | _, .im d, r, _ => r
  | _, .ow k, r, h => by
    obtain ⟨a, h1, h2⟩ := r
    exact ⟨a, hf k a h h1, h2⟩
  | _, .tp ls, r, h => by
    obtain ⟨a, xs, h1, h2, h3⟩ := r
    exact ⟨a, xs, h1, h2, LRpS.ren hf h3 h⟩
theorem LRpS.ren {K : PySem.W.Frag} {As Au : List Addr} {G : Hp} {P : Nat → Prop} {f : Nat → Nat} (hf : ∀ k a, P k → As[k]? = some a → Au[f k]? = some a) : ∀ {xs : List V} {ls : List Lo}, LRpS K As G xs ls → refLs P ls → LRpS K Au G xs (renLs f ls)
  | _, [], r, _ => r
  | _, l :: ls, r, h => by
    obtain ⟨v, vs, h1, h2, h3⟩ := r
    exact ⟨v, vs, h1, LRp.ren hf h2 h.1, LRpS.ren hf h3 h.2⟩
end
mutual
theorem refL_true : ∀ l : Lo, refL (fun _ => True) l
  | .im _ => trivial
  | .ow _ => trivial
  | .tp ls => refLs_true ls
theorem refLs_true : ∀ ls : List Lo, refLs (fun _ => True) ls
  | [] => trivial
  | l :: r => ⟨refL_true l, refLs_true r⟩
end
mutual
theorem renL_id : ∀ l : Lo, renL (fun k => k) l = l
  | .im _ => rfl
  | .ow _ => rfl
  | .tp ls => congrArg Lo.tp (renLs_id ls)
theorem renLs_id : ∀ ls : List Lo, renLs (fun k => k) ls = ls
  | [] => rfl
  | l :: r => by
    show renL _ l :: renLs _ r = _
    rw [renL_id l, renLs_id r]
end
def MOis (K : PySem.W.Frag) (As : List Addr) (G : Hp) (o : HO) : MO → Prop
  | .li ds => ∃ xs, o = .lst xs ∧ RpL K G xs ds
  | .ls ls => ∃ xs, o = .lst xs ∧ LRpL K As G xs ls
  | .dc ks => ∃ kvs, o = .dK kvs ∧ kvs.map (·.1) = ks.map (·.1) ∧ RpL K G (kvs.map (·.2)) (ks.map (·.2))
  | .dm ks => ∃ kvs, o = .dK kvs ∧ kvs.map (·.1) = ks.map (·.1) ∧ LRpL K As G (kvs.map (·.2)) (ks.map (·.2))
  | .ob C fs => ∃ dx fvs, o = .ins (cn K C) dx fvs ∧ fvs.map (·.1) = fs.map (·.1) ∧ LRpL K As G (fvs.map (·.2)) (fs.map (·.2))
  | .gone => True
  | .dl od kvs ks => o = .frz od (.dK kvs) ∧ kvs.map (·.1) = ks.map (·.1) ∧ RpL K G (kvs.map (·.2)) (ks.map (·.2))
section
variable {K : PySem.W.Frag} {G G' : Hp} {As As' : List Addr}
theorem pre_get {k : Nat} {a : Addr} (p : As <+: As') (h : As[k]? = some a) : As'[k]? = some a := by
  obtain ⟨t, rfl⟩ := p
  have hk : k < As.length := (List.getElem?_eq_some_iff.mp h).1
  rw [List.getElem?_append_left hk]
  exact h
mutual
theorem LRp.mono' (e : Same G G') (p : As <+: As') : ∀ {v : V} {l : Lo}, LRp K As G v l → LRp K As' G' v l
  | _, .im d, h => Rp.mono e h
  | _, .ow k, h => by
    obtain ⟨a, h1, h2⟩ := h
    exact ⟨a, pre_get p h1, h2⟩
  | _, .tp ls, h => by
    obtain ⟨a, xs, h1, h2, h3⟩ := h
    exact ⟨a, xs, h1, e _ _ h2, LRpS.mono' e p h3⟩
theorem LRpS.mono' (e : Same G G') (p : As <+: As') : ∀ {xs : List V} {ls : List Lo}, LRpS K As G xs ls → LRpS K As' G' xs ls
  | _, [], h => h
  | _, l :: ls, h => by
    obtain ⟨v, vs, h1, h2, h3⟩ := h
    exact ⟨v, vs, h1, LRp.mono' e p h2, LRpS.mono' e p h3⟩
end
theorem LRp.mono {v : V} {l : Lo} (e : Same G G') (p : As <+: As') (h : LRp K As G v l) : LRp K As' G' v l := LRp.mono' e p h
theorem LRpS.l : ∀ {xs : List V} {ls : List Lo}, LRpS K As G xs ls → LRpL K As G xs ls
  | _, [], h => by
    obtain rfl : _ = [] := h
    exact .nil
  | _, l :: ls, h => by
    obtain ⟨v, vs, h1, h2, h3⟩ := h
    subst h1
    exact .cons h2 (LRpS.l h3)
theorem LRpL.s {xs : List V} {ls : List Lo} (h : LRpL K As G xs ls) : LRpS K As G xs ls := by
  induction h with
  | nil => rfl
  | cons h _ ih => exact ⟨_, _, rfl, h, ih⟩
theorem LRpL.mono {vs : List V} {ls : List Lo} (e : Same G G') (p : As <+: As') (h : LRpL K As G vs ls) : LRpL K As' G' vs ls := by
  induction h with
  | nil => exact .nil
  | cons h _ ih => exact .cons (h.mono e p) ih
theorem LRpL.length {vs : List V} {ls : List Lo} (h : LRpL K As G vs ls) : vs.length = ls.length := by
  induction h with
  | nil => rfl
  | cons _ _ ih => exact congrArg (· + 1) ih
theorem LRpL.get {vs : List V} {ls : List Lo} (h : LRpL K As G vs ls) : ∀ {i : Nat} {l : Lo}, ls[i]? = some l → ∃ v, vs[i]? = some v ∧ LRp K As G v l := by
  induction h with
  | nil => intro i l e; simp at e
  | cons r _ ih =>
    intro i l e
    cases i with
    | zero =>
      simp at e
      subst e
      exact ⟨_, rfl, r⟩
    | succ i =>
      obtain ⟨v, h1, h2⟩ := ih (i := i) (l := l) (by simpa using e)
      exact ⟨v, by simpa using h1, h2⟩
theorem LRpL.app {vs us : List V} {ls ks : List Lo} (h : LRpL K As G vs ls) (s : LRpL K As G us ks) : LRpL K As G (vs ++ us) (ls ++ ks) := by
  induction h with
  | nil => exact s
  | cons h _ ih => exact .cons h ih
theorem LRpL.set {vs : List V} {ls : List Lo} {v : V} {l : Lo} (q : LRp K As G v l) (h : LRpL K As G vs ls) : ∀ i : Nat, LRpL K As G (vs.set i v) (ls.set i l) := by
  induction h with
  | nil => intro i; exact .nil
  | cons h r ih =>
    intro i
    cases i with
    | zero => exact .cons q r
    | succ i => exact .cons h (ih i)
theorem LRpL.of_data : ∀ {vs : List V} {ds : List D}, RpL K G vs ds → LRpL K As G vs (ds.map Lo.im)
  | _, _, .nil => .nil
  | _, _, .cons h r => .cons h (LRpL.of_data r)
theorem LRpL.data : ∀ {vs : List V} {ds : List D}, LRpL K As G vs (ds.map Lo.im) → RpL K G vs ds
  | _, [], .nil => .nil
  | _, _ :: _, .cons h r => .cons h (LRpL.data r)
theorem MOis.mono {o : HO} {m : MO} (e : Same G G') (p : As <+: As') (h : MOis K As G o m) : MOis K As' G' o m := by
  cases m with
  | li ds => obtain ⟨xs, h1, h2⟩ := h; exact ⟨xs, h1, RpL.mono e h2⟩
  | ls ls => obtain ⟨xs, h1, h2⟩ := h; exact ⟨xs, h1, h2.mono e p⟩
  | dc ks => obtain ⟨xs, h1, h2, h3⟩ := h; exact ⟨xs, h1, h2, RpL.mono e h3⟩
  | dm ks => obtain ⟨xs, h1, h2, h3⟩ := h; exact ⟨xs, h1, h2, h3.mono e p⟩
  | ob C fs => obtain ⟨dx, xs, h1, h2, h3⟩ := h; exact ⟨dx, xs, h1, h2, h3.mono e p⟩
  | gone => trivial
  | dl od kvs ks => obtain ⟨h1, h2, h3⟩ := h; exact ⟨h1, h2, RpL.mono e h3⟩
end
/-- the tables of code objects that may grow, with the name of what they tell -/
abbrev Tbs := Addr → Option Str
/-- a table of code objects, each of them frozen and named q -/
def TabG (G H : Hp) (P : Addr) (q : Str) : Prop := G P = none ∧ ∃ ps : Array Value, H P = some (.tbl ps) ∧ TriplesOk ps.toList ∧ ∀ (pos : Pos) (cv : Value), codeAmong pos ps.toList = some cv → ∃ c, cv = .ref c ∧ G c = some (LamX.CodeO c q)
theorem TabG.keep {G H G' H' : Hp} {P : Addr} {q : Str} (t : TabG G H P q) (sg : Same G G') (hn : G' P = none) (hH : H' P = H P) : TabG G' H' P q := by
  obtain ⟨_, ps, h1, h2, h3⟩ := t
  refine ⟨hn, ps, hH.trans h1, h2, fun pos cv e => ?_⟩
  obtain ⟨c, e1, e2⟩ := h3 pos cv e
  exact ⟨c, e1, sg _ _ e2⟩
/-- from the heaps G0, H0 to G, H: what is frozen stays, what is neither frozen nor lent nor a table stays -/
structure Stp (T : Tbs) (S : List Addr) (G0 H0 G H : Hp) : Prop where
  g : Same G0 G
  k : ∀ a o, a ∉ S → T a = none → G0 a = none → H0 a = some o → H a = some o ∧ G a = none
  d : ∀ a o, H0 a = some o → ∃ o', H a = some o'
/-- a def's entry -/
structure Fc where
  K : PySem.W.Frag
  S : List Addr
  G0 : Hp
  H0 : Hp
  /-- where a try began (or the entry) -/
  Ab : List Addr
  Gb : Hp
  /-- tables -/
  T : Tbs
abbrev Gam := List (Option Lo)
abbrev Led := List MO
structure Sat (C : Fc) (As : List Addr) (G H : Hp) (Γ : Gam) (M : Led) (σ : L2.St) : Prop where
  le : Same G H
  stp : Stp C.T C.S C.G0 C.H0 G H
  own : ∀ (k : Nat) (a : Addr) (m : MO), As[k]? = some a → M[k]? = some m → m ≠ .gone → G a = none ∧ ∃ o, H a = some o ∧ MOis C.K As G o m
  fr : ∀ a ∈ As, a ∈ C.S ∨ C.H0 a = none
  inj : As.Nodup
  al : As.length = M.length
  asS : C.S <+: As
  there : ∀ a ∈ As, ∃ o, H a = some o
  slot : ∀ (i : Nat) (l : Lo), Γ[i]? = some (some l) → ∃ v, σ[i]? = some (some v) ∧ LRp C.K As G v l
  len : Γ.length = σ.length
  bg : Same C.Gb G
  ba : C.Ab <+: As
  tb : ∀ P q, C.T P = some q → P ∉ As ∧ TabG G H P q
section
variable {C : Fc} {As As' : List Addr} {G H G' H' : Hp} {Γ : Gam} {M M' : Led} {σ : L2.St} {a : Addr} {o : HO}
theorem Same.new {H : Hp} (h : H a = none) : Same H (upd H a o) := fun b u e => by
  rw [upd_ne (ne_of_none e h)]
  exact e
theorem Sat.gn (S : Sat C As G H Γ M σ) (h : H a = none) : G a = none := S.le.free h
theorem Sat.h0 (S : Sat C As G H Γ M σ) (h : H a = none) : C.H0 a = none := by
  cases q : C.H0 a with
  | none => rfl
  | some u =>
    obtain ⟨o', e⟩ := S.stp.d a u q
    rw [h] at e
    cases e
theorem Sat.an (S : Sat C As G H Γ M σ) (h : H a = none) : a ∉ As := fun z => by
  obtain ⟨o, e⟩ := S.there a z
  rw [h] at e
  cases e
theorem Sat.tb_ne {P : Addr} {q : Str} (S : Sat C As G H Γ M σ) (e : C.T P = some q) (h : H a = none) : P ≠ a := fun z => by
  obtain ⟨_, _, ps, h1, _⟩ := S.tb P q e
  rw [z, h] at h1
  cases h1
theorem Sat.tn (S : Sat C As G H Γ M σ) (h : a ∈ As) : C.T a = none := by
  cases q : C.T a with
  | none => rfl
  | some x => exact absurd h (S.tb a x q).1
theorem nodup_ix2 {xs : List Addr} (h : xs.Nodup) {i j : Nat} {b : Addr} (h1 : xs[i]? = some b) (h2 : xs[j]? = some b) : i = j := by
  induction xs generalizing i j with
  | nil => simp at h1
  | cons x r ih =>
    obtain ⟨n1, n2⟩ := List.nodup_cons.mp h
    cases i with
    | zero =>
      cases j with
      | zero => rfl
      | succ j =>
        simp at h1 h2
        subst h1
        exact absurd (List.mem_of_getElem? h2) n1
    | succ i =>
      cases j with
      | zero =>
        simp at h1 h2
        subst h2
        exact absurd (List.mem_of_getElem? h1) n1
      | succ j =>
        simp at h1 h2
        exact congrArg (· + 1) (ih n2 h1 h2)
theorem as_pre (As : List Addr) (a : Addr) : As <+: As ++ [a] := ⟨[a], rfl⟩
/-- a new owned object -/
theorem Sat.alloc {m : MO} (S : Sat C As G H Γ M σ) (h : H a = none) (hm : MOis C.K (As ++ [a]) G o m) : Sat C (As ++ [a]) G (upd H a o) Γ (M ++ [m]) σ := by
  have hn := S.an h
  refine ⟨fun b u e => ?_, ⟨S.stp.g, fun b u h1 hT h2 h3 => ?_, fun b u h1 => ?_⟩, fun k b m' e1 e2 e3 => ?_, fun b hb => ?_, ?_, by simp [S.al], S.asS.trans (as_pre _ _), fun b hb => ?_, fun i l e => ?_, S.len, S.bg, S.ba.trans (as_pre _ _), fun P q e => by
    obtain ⟨z, t⟩ := S.tb P q e
    have hp := S.tb_ne e h
    exact ⟨fun hm => (List.mem_append.mp hm).elim z fun k => hp (List.mem_singleton.mp k), t.keep (Same.refl _) t.1 (upd_ne hp)⟩⟩
  · rw [upd_ne (ne_of_none (S.le b u e) h)]
    exact S.le b u e
  · obtain ⟨q1, q2⟩ := S.stp.k b u h1 hT h2 h3
    rw [upd_ne (ne_of_none q1 h)]
    exact ⟨q1, q2⟩
  · obtain ⟨o', q⟩ := S.stp.d b u h1
    by_cases hb : b = a
    · subst hb; exact ⟨_, upd_same⟩
    · rw [upd_ne hb]; exact ⟨o', q⟩
  · by_cases hk : k < As.length
    · rw [List.getElem?_append_left hk] at e1
      rw [List.getElem?_append_left (by rw [← S.al]; exact hk)] at e2
      obtain ⟨q1, u, q2, q3⟩ := S.own k b m' e1 e2 e3
      refine ⟨q1, u, ?_, q3.mono (Same.refl _) (as_pre _ _)⟩
      rw [upd_ne (ne_of_none q2 h)]
      exact q2
    · have hk' : k = As.length := by
        have := (List.getElem?_eq_some_iff.mp e1).1
        rw [List.length_append, List.length_singleton] at this
        omega
      subst hk'
      have e1' : a = b := by simpa using e1
      rw [S.al] at e2
      have e2' : m = m' := by simpa using e2
      subst e1'
      subst e2'
      exact ⟨S.gn h, o, upd_same, hm⟩
  · rcases List.mem_append.mp hb with hb | hb
    · exact S.fr b hb
    · rw [List.mem_singleton] at hb
      subst hb
      exact .inr (S.h0 h)
  · rw [List.nodup_append]
    refine ⟨S.inj, by simp, fun x hx y hy e => ?_⟩
    rw [List.mem_singleton] at hy
    subst hy
    subst e
    exact hn hx
  · rcases List.mem_append.mp hb with hb | hb
    · obtain ⟨u, q⟩ := S.there b hb
      exact ⟨u, by rw [upd_ne (ne_of_none q h)]; exact q⟩
    · rw [List.mem_singleton] at hb
      subst hb
      exact ⟨_, upd_same⟩
  · obtain ⟨v, q1, q2⟩ := S.slot i l e
    exact ⟨v, q1, q2.mono (Same.refl _) (as_pre _ _)⟩
/-- a new frozen object -/
theorem Sat.allocF (S : Sat C As G H Γ M σ) (h : H a = none) : Sat C As (upd G a o) (upd H a o) Γ M σ := by
  have hg := S.gn h
  have sg : Same G (upd G a o) := Same.new hg
  refine ⟨fun b u e => ?_, ⟨S.stp.g.trans sg, fun b u h1 hT h2 h3 => ?_, fun b u h1 => ?_⟩, fun k b m' e1 e2 e3 => ?_, S.fr, S.inj, S.al, S.asS, fun b hb => ?_, fun i l e => ?_, S.len, S.bg.trans sg, S.ba, fun P q e => by
    obtain ⟨z, t⟩ := S.tb P q e
    have hp := S.tb_ne e h
    exact ⟨z, t.keep sg ((upd_ne hp).trans t.1) (upd_ne hp)⟩⟩
  · by_cases hb : b = a
    · subst hb
      rw [upd_same] at e ⊢
      exact e
    · rw [upd_ne hb] at e ⊢
      exact S.le b u e
  · obtain ⟨q1, q2⟩ := S.stp.k b u h1 hT h2 h3
    have hb := ne_of_none q1 h
    rw [upd_ne hb, upd_ne hb]
    exact ⟨q1, q2⟩
  · obtain ⟨o', q⟩ := S.stp.d b u h1
    by_cases hb : b = a
    · subst hb; exact ⟨_, upd_same⟩
    · rw [upd_ne hb]; exact ⟨o', q⟩
  · obtain ⟨q1, u, q2, q3⟩ := S.own k b m' e1 e2 e3
    have hb := ne_of_none q2 h
    rw [upd_ne hb, upd_ne hb]
    exact ⟨q1, u, q2, q3.mono sg (List.prefix_refl _)⟩
  · obtain ⟨u, q⟩ := S.there b hb
    exact ⟨u, by rw [upd_ne (ne_of_none q h)]; exact q⟩
  · obtain ⟨v, q1, q2⟩ := S.slot i l e
    exact ⟨v, q1, q2.mono sg (List.prefix_refl _)⟩
/-- an owned object is written -/
theorem Sat.write {k : Nat} {m m' : MO} (S : Sat C As G H Γ M σ) (ha : As[k]? = some a) (hk : M[k]? = some m) (hl : m ≠ .gone) (hm : MOis C.K As G o m') : Sat C As G (upd H a o) Γ (M.set k m') σ := by
  obtain ⟨g0, o₀, h0, _⟩ := S.own k a m ha hk hl
  have h00 := S.fr a (List.mem_of_getElem? ha)
  have hkl : k < M.length := (List.getElem?_eq_some_iff.mp hk).1
  refine ⟨fun b u e => ?_, ⟨S.stp.g, fun b u h1 hT h2 h3 => ?_, fun b u h1 => ?_⟩, fun j b m2 e1 e2 e3 => ?_, S.fr, S.inj, by rw [List.length_set]; exact S.al, S.asS, fun b hb => ?_, fun i l e => ?_, S.len, S.bg, S.ba, fun P q e => by
    obtain ⟨z, t⟩ := S.tb P q e
    have hp : P ≠ a := fun y => z (y ▸ List.mem_of_getElem? ha)
    exact ⟨z, t.keep (Same.refl _) t.1 (upd_ne hp)⟩⟩
  · have hb : b ≠ a := fun z => by rw [z, g0] at e; cases e
    rw [upd_ne hb]
    exact S.le b u e
  · obtain ⟨q1, q2⟩ := S.stp.k b u h1 hT h2 h3
    have hb : b ≠ a := fun z => by
      subst z
      rcases h00 with z | z
      · exact h1 z
      · rw [z] at h3; cases h3
    rw [upd_ne hb]
    exact ⟨q1, q2⟩
  · obtain ⟨o', q⟩ := S.stp.d b u h1
    by_cases hb : b = a
    · subst hb; exact ⟨_, upd_same⟩
    · rw [upd_ne hb]; exact ⟨o', q⟩
  · by_cases hj : j = k
    · subst hj
      rw [ha] at e1
      cases e1
      rw [List.getElem?_set_self hkl] at e2
      cases e2
      exact ⟨g0, o, upd_same, hm⟩
    · rw [List.getElem?_set_ne (Ne.symm hj)] at e2
      have hb : b ≠ a := fun z => by
        subst z
        exact hj (nodup_ix2 S.inj e1 ha)
      obtain ⟨q1, u, q2, q3⟩ := S.own j b m2 e1 e2 e3
      rw [upd_ne hb]
      exact ⟨q1, u, q2, q3⟩
  · by_cases hb' : b = a
    · subst hb'; exact ⟨_, upd_same⟩
    · rw [upd_ne hb']; exact S.there b hb
  · exact S.slot i l e
/-- an owned object is frozen -/
theorem Sat.freeze {k : Nat} {m : MO} (S : Sat C As G H Γ M σ) (ha : As[k]? = some a) (hk : M[k]? = some m) (hl : m ≠ .gone) (ho : H a = some o) : Sat C As (upd G a o) H Γ (M.set k .gone) σ := by
  obtain ⟨g0, o₀, h0, _⟩ := S.own k a m ha hk hl
  have h00 := S.fr a (List.mem_of_getElem? ha)
  have hkl : k < M.length := (List.getElem?_eq_some_iff.mp hk).1
  have sg : Same G (upd G a o) := Same.new g0
  have inj : ∀ {j : Nat} {b : Addr}, As[j]? = some b → j ≠ k → b ≠ a := fun {j b} e1 hj z => by
    subst z
    exact hj (nodup_ix2 S.inj e1 ha)
  refine ⟨fun b u e => ?_, ⟨S.stp.g.trans sg, fun b u h1 hT h2 h3 => ?_, S.stp.d⟩, fun j b m2 e1 e2 e3 => ?_, S.fr, S.inj, by rw [List.length_set]; exact S.al, S.asS, S.there, fun i l e => ?_, S.len, S.bg.trans sg, S.ba, fun P q e => by
    obtain ⟨z, t⟩ := S.tb P q e
    have hp : P ≠ a := fun y => z (y ▸ List.mem_of_getElem? ha)
    exact ⟨z, t.keep sg ((upd_ne hp).trans t.1) rfl⟩⟩
  · by_cases hb : b = a
    · subst hb
      rw [upd_same] at e
      cases e
      exact ho
    · rw [upd_ne hb] at e
      exact S.le b u e
  · obtain ⟨q1, q2⟩ := S.stp.k b u h1 hT h2 h3
    have hb : b ≠ a := fun z => by
      subst z
      rcases h00 with z | z
      · exact h1 z
      · rw [z] at h3; cases h3
    rw [upd_ne hb]
    exact ⟨q1, q2⟩
  · by_cases hj : j = k
    · subst hj
      rw [List.getElem?_set_self hkl] at e2
      cases e2
      exact absurd rfl e3
    · rw [List.getElem?_set_ne (Ne.symm hj)] at e2
      obtain ⟨q1, u, q2, q3⟩ := S.own j b m2 e1 e2 e3
      rw [upd_ne (inj e1 hj)]
      exact ⟨q1, u, q2, q3.mono sg (List.prefix_refl _)⟩
  · obtain ⟨v, q1, q2⟩ := S.slot i l e
    exact ⟨v, q1, q2.mono sg (List.prefix_refl _)⟩
/-- a slot is set -/
theorem Sat.set {i : Nat} {l : Lo} {v : V} (S : Sat C As G H Γ M σ) (r : LRp C.K As G v l) : Sat C As G H (Γ.set i (some l)) M (σ.set i (some v)) := by
  refine ⟨S.le, S.stp, S.own, S.fr, S.inj, S.al, S.asS, S.there, fun j l' e => ?_, by rw [List.length_set, List.length_set]; exact S.len, S.bg, S.ba, S.tb⟩
  by_cases hj : j = i
  · subst hj
    by_cases hl : j < Γ.length
    · rw [List.getElem?_set_self hl] at e
      cases e
      exact ⟨v, by rw [List.getElem?_set_self (by rw [← S.len]; exact hl)], r⟩
    · rw [List.getElem?_eq_none (by simpa using hl)] at e
      cases e
  · rw [List.getElem?_set_ne (Ne.symm hj)] at e ⊢
    exact S.slot j l' e
/-- some slots are forgotten -/
theorem Sat.sub {Γ' : Gam} {σ' : L2.St} (S : Sat C As G H Γ M σ) (hl : Γ'.length = σ'.length) (h : ∀ (i : Nat) (l : Lo), Γ'[i]? = some (some l) → Γ[i]? = some (some l)) (hs : ∀ (i : Nat) (l : Lo) (v : V), Γ'[i]? = some (some l) → σ[i]? = some (some v) → σ'[i]? = some (some v)) : Sat C As G H Γ' M σ' :=
  ⟨S.le, S.stp, S.own, S.fr, S.inj, S.al, S.asS, S.there, fun i l e => by
    obtain ⟨v, q1, q2⟩ := S.slot i l (h i l e)
    exact ⟨v, hs i l v e q1, q2⟩, hl, S.bg, S.ba, S.tb⟩
end
end Dl
set_option Elab.async false
set_option maxRecDepth 100000
set_option maxHeartbeats 1000000
namespace Dl
open PySem L2
abbrev RE := Gam → Led → (Lo → Led → Prop) → Prop
abbrev RT := Gam → Led → (Bool → Led → Prop) → Prop
abbrev RA := Gam → Led → (List Lo → Led → Prop) → Prop
abbrev RG := Lo → Gam → Led → (Gam → Led → Prop) → Prop
structure Nd where
  nx : Gam → Led → Prop
  rt : Lo → Led → Prop
  bk : Gam → Led → Prop := fun _ _ => False
  ct : Gam → Led → Prop := fun _ _ => False
abbrev RS := Nd → Gam → Led → Prop
/-- the state has grown -/
structure Gr (C : Fc) (As : List Addr) (G : Hp) (As' : List Addr) (G' H' : Hp) (Γ' : Gam) (M' : Led) (σ' : L2.St) : Prop where
  sat : Sat C As' G' H' Γ' M' σ'
  g : Same G G'
  p : As <+: As'
theorem Gr.refl {C : Fc} {As : List Addr} {G H : Hp} {Γ : Gam} {M : Led} {σ : L2.St} (S : Sat C As G H Γ M σ) : Gr C As G As G H Γ M σ := ⟨S, Same.refl _, List.prefix_refl _⟩
theorem Gr.trans {C : Fc} {As As1 As2 : List Addr} {G G1 H1 G2 H2 : Hp} {Γ1 Γ2 : Gam} {M1 M2 : Led} {σ1 σ2 : L2.St} (a : Gr C As G As1 G1 H1 Γ1 M1 σ1) (b : Gr C As1 G1 As2 G2 H2 Γ2 M2 σ2) : Gr C As G As2 G2 H2 Γ2 M2 σ2 :=
  ⟨b.sat, a.g.trans b.g, a.p.trans b.p⟩
def UE (C : Fc) (t : RE) : TE := fun σ H Q => ∃ (As : List Addr) (G : Hp) (Γ : Gam) (M : Led) (K : Lo → Led → Prop), Sat C As G H Γ M σ ∧ t Γ M K ∧
  ∀ (l : Lo) (M' : Led) (v : V) (As' : List Addr) (G' H' : Hp), Gr C As G As' G' H' Γ M' σ → LRp C.K As' G' v l → K l M' → Q v H'
def UT (C : Fc) (t : RT) : TT := fun σ H Q => ∃ (As : List Addr) (G : Hp) (Γ : Gam) (M : Led) (K : Bool → Led → Prop), Sat C As G H Γ M σ ∧ t Γ M K ∧
  ∀ (b : Bool) (M' : Led) (As' : List Addr) (G' H' : Hp), Gr C As G As' G' H' Γ M' σ → K b M' → Q b H'
def UA (C : Fc) (t : RA) : TA := fun σ H Q => ∃ (As : List Addr) (G : Hp) (Γ : Gam) (M : Led) (K : List Lo → Led → Prop), Sat C As G H Γ M σ ∧ t Γ M K ∧
  ∀ (ls : List Lo) (M' : Led) (vs : List V) (As' : List Addr) (G' H' : Hp), Gr C As G As' G' H' Γ M' σ → LRpL C.K As' G' vs ls → K ls M' → Q vs H'
/-- is: the slots that the target may change -/
def UG (C : Fc) (is : List Nat) (t : RG) : TG := fun v σ H Q => ∃ (As : List Addr) (G : Hp) (Γ : Gam) (M : Led) (l : Lo) (K : Gam → Led → Prop), Sat C As G H Γ M σ ∧ LRp C.K As G v l ∧ t l Γ M K ∧
  ∀ (Γ' : Gam) (M' : Led) (σ' : L2.St) (As' : List Addr) (G' H' : Hp), Gr C As G As' G' H' Γ' M' σ' → (∀ j, j ∉ is → σ'[j]? = σ[j]?) → σ'.length = σ.length → K Γ' M' → Q σ' H'
/-- .. the ledger may have been cut -/
structure Gw (C : Fc) (G : Hp) (As' : List Addr) (G' H' : Hp) (Γ' : Gam) (M' : Led) (σ' : L2.St) : Prop where
  sat : Sat C As' G' H' Γ' M' σ'
  g : Same G G'
theorem Gr.w {C : Fc} {As As' : List Addr} {G G' H' : Hp} {Γ' : Gam} {M' : Led} {σ' : L2.St} (g : Gr C As G As' G' H' Γ' M' σ') : Gw C G As' G' H' Γ' M' σ' := ⟨g.sat, g.g⟩
theorem Gw.trans {C : Fc} {As1 As2 : List Addr} {G G1 H1 G2 H2 : Hp} {Γ1 Γ2 : Gam} {M1 M2 : Led} {σ1 σ2 : L2.St} (a : Gw C G As1 G1 H1 Γ1 M1 σ1) (b : Gw C G1 As2 G2 H2 Γ2 M2 σ2) : Gw C G As2 G2 H2 Γ2 M2 σ2 :=
  ⟨b.sat, a.g.trans b.g⟩
structure Fin (C : Fc) (G : Hp) (N : Nd) (D : Ends) : Prop where
  nx : ∀ (Γ' : Gam) (M' : Led) (σ' : L2.St) (As' : List Addr) (G' H' : Hp), Gw C G As' G' H' Γ' M' σ' → N.nx Γ' M' → D.nx σ' H'
  rt : ∀ (l : Lo) (v : V) (Γ' : Gam) (M' : Led) (σ' : L2.St) (As' : List Addr) (G' H' : Hp), Gw C G As' G' H' Γ' M' σ' → LRp C.K As' G' v l → N.rt l M' → D.rt v H'
  bk : ∀ (Γ' : Gam) (M' : Led) (σ' : L2.St) (As' : List Addr) (G' H' : Hp), Gw C G As' G' H' Γ' M' σ' → N.bk Γ' M' → D.bk σ' H'
  ct : ∀ (Γ' : Gam) (M' : Led) (σ' : L2.St) (As' : List Addr) (G' H' : Hp), Gw C G As' G' H' Γ' M' σ' → N.ct Γ' M' → D.ct σ' H'
theorem Fin.mono {C : Fc} {As1 : List Addr} {G G1 H1 : Hp} {N : Nd} {D : Ends} {Γ1 : Gam} {M1 : Led} {σ1 : L2.St} (f : Fin C G N D) (g : Gw C G As1 G1 H1 Γ1 M1 σ1) : Fin C G1 N D :=
  ⟨fun Γ' M' σ' As' G' H' g' => f.nx Γ' M' σ' As' G' H' (g.trans g'), fun l v Γ' M' σ' As' G' H' g' => f.rt l v Γ' M' σ' As' G' H' (g.trans g'), fun Γ' M' σ' As' G' H' g' => f.bk Γ' M' σ' As' G' H' (g.trans g'), fun Γ' M' σ' As' G' H' g' => f.ct Γ' M' σ' As' G' H' (g.trans g')⟩
def US (C : Fc) (t : RS) : TS := fun D σ H => ∃ (As : List Addr) (G : Hp) (Γ : Gam) (M : Led) (N : Nd), Sat C As G H Γ M σ ∧ t N Γ M ∧ Fin C G N D
theorem PE.imp {X : Cx} {e : Expr} {t u : TE} (h : PE X e t) (i : ∀ σ H Q, u σ H Q → t σ H Q) : PE X e u := ⟨fun pins s σ H Q I q => h.run pins s σ H Q I (i σ H Q q)⟩
theorem PT.imp {X : Cx} {e : Expr} {t u : TT} (h : PT X e t) (i : ∀ σ H Q, u σ H Q → t σ H Q) : PT X e u := ⟨fun pins s σ H Q I q => h.run pins s σ H Q I (i σ H Q q)⟩
theorem PW.imp {X : Cx} {e : Expr} {t u : TT} (h : PW X e t) (i : ∀ σ H Q, u σ H Q → t σ H Q) : PW X e u := ⟨fun wh pins s σ H Q I q => h.run wh pins s σ H Q I (i σ H Q q)⟩
theorem PA.imp {X : Cx} {es : List Expr} {t u : TA} (h : PA X es t) (i : ∀ σ H Q, u σ H Q → t σ H Q) : PA X es u := ⟨fun pos pins s σ H Q I q => h.run pos pins s σ H Q I (i σ H Q q)⟩
theorem PS.imp {X : Cx} {st : Stmt} {t u : TS} (h : PS X st t) (i : ∀ D σ H, u D σ H → t D σ H) : PS X st u := ⟨fun pins s σ H D I q => h.run pins s σ H D I (i D σ H q)⟩
theorem PSs.imp {X : Cx} {st : List Stmt} {t u : TS} (h : PSs X st t) (i : ∀ D σ H, u D σ H → t D σ H) : PSs X st u := ⟨fun pins s σ H D I q => h.run pins s σ H D I (i D σ H q)⟩
theorem PG.imp {X : Cx} {e : Expr} {t u : TG} (h : PG X e t) (i : ∀ v σ H Q, u v σ H Q → t v σ H Q) : PG X e u := ⟨fun pins s σ H v u Q I r q => h.run pins s σ H v u Q I r (i v σ H Q q)⟩
def QE (C : Fc) (X : Cx) (e : Expr) (t : RE) : Prop := PE X e (UE C t)
def QT (C : Fc) (X : Cx) (e : Expr) (t : RT) : Prop := PT X e (UT C t)
def QW (C : Fc) (X : Cx) (e : Expr) (t : RT) : Prop := PW X e (UT C t)
def QA (C : Fc) (X : Cx) (es : List Expr) (t : RA) : Prop := PA X es (UA C t)
def QS (C : Fc) (X : Cx) (st : Stmt) (t : RS) : Prop := PS X st (US C t)
def QSs (C : Fc) (X : Cx) (st : List Stmt) (t : RS) : Prop := PSs X st (US C t)
def QG (C : Fc) (X : Cx) (e : Expr) (is : List Nat) (t : RG) : Prop := PG X e (UG C is t)
section
variable {C : Fc} {X : Cx} {a b c e : Expr} {es : List Expr} {ta tb tc te : RE} {pos : Pos}
def rVar (i : Nat) : RE := fun Γ M K => match Γ[i]? with
  | some (some l) => K l M
  | _ => False
def rCon (d : D) : RE := fun _ M K => K (.im d) M
theorem up_con {d : D} {v : V} (h : ∀ G, Rp C.K G v d) : ∀ σ H Q, UE C (rCon d) σ H Q → tC v σ H Q := fun σ H Q ⟨As, G, Γ, M, K, S, t, q⟩ => q (.im d) M v As G H (Gr.refl S) (h G) t
theorem q_var (i : Nat) {x : Str} {pos : Pos} (hN : X.N[i]? = some x := by rfl) (hv : Vis X.env.scope x := by first | exact Or.inl rfl | exact Or.inr (Or.inl rfl) | exact Or.inr (Or.inr rfl)) (hd : (x == ("__debug__" : Str)) = false := by decide)
    (hcd : (x == ("__classdict__" : Str)) = false := by decide) : QE C X (.Name x pos) (rVar i) := by
  refine PE.imp (pe_var hN hv hd hcd) fun σ H Q ⟨As, G, Γ, M, K, S, t, q⟩ => ?_
  unfold rVar at t
  split at t
  · rename_i l e
    obtain ⟨v, q1, q2⟩ := S.slot i l e
    exact ⟨v, q1, q l M v As G H (Gr.refl S) q2 t⟩
  · exact t.elim
theorem q_int {i j pos} : QE C X (.Constant (.int i) j pos) (rCon (.int i)) := PE.imp pe_int (up_con fun _ => .int i)
theorem q_bl {i j pos} : QE C X (.Constant (.bool i) j pos) (rCon (.bl i)) := PE.imp pe_bl (up_con fun _ => .bl i)
theorem q_non {j pos} : QE C X (.Constant .none j pos) (rCon .non) := PE.imp pe_non (up_con fun _ => .non)
theorem q_str {i j pos} : QE C X (.Constant (.str i) j pos) (rCon (.str i)) := PE.imp pe_str (up_con fun _ => .str i)
theorem q_gint {x : Str} {i : Int} {t : Tok} {pos : Pos} (hm : X.mg x = some (.int i t)) (hg : Gl X x := by rfl) (hd : (x == ("__debug__" : Str)) = false := by decide) : QE C X (.Name x pos) (rCon (.int i)) :=
  PE.imp (pe_glob (v := .int i) hg hm ⟨_, rfl⟩ hd) (up_con fun _ => .int i)
theorem q_gstr {x : Str} {i : Str} {t : Tok} {pos : Pos} (hm : X.mg x = some (.str i t)) (hg : Gl X x := by rfl) (hd : (x == ("__debug__" : Str)) = false := by decide) : QE C X (.Name x pos) (rCon (.str i)) :=
  PE.imp (pe_glob (v := .str i) hg hm ⟨_, rfl⟩ hd) (up_con fun _ => .str i)
abbrev R2L := Lo → Lo → Led → (Lo → Led → Prop) → Prop
abbrev R1L := Lo → Led → (Lo → Led → Prop) → Prop
abbrev RnL := List Lo → Led → (Lo → Led → Prop) → Prop
def OpL (C : Fc) (r : R2) (ρ : R2L) : Prop := ∀ {As : List Addr} {G H : Hp} {Γ : Gam} {M : Led} {σ : L2.St} {x y : V} {lx ly : Lo} {K : Lo → Led → Prop} {Q : VK}, Sat C As G H Γ M σ → LRp C.K As G x lx → LRp C.K As G y ly → ρ lx ly M K →
  (∀ (l : Lo) (M' : Led) (v : V) (As' : List Addr) (G' H' : Hp), Gr C As G As' G' H' Γ M' σ → LRp C.K As' G' v l → K l M' → Q v H') → r x y H Q
def UnL (C : Fc) (r : V → Hp → VK → Prop) (ρ : R1L) : Prop := ∀ {As : List Addr} {G H : Hp} {Γ : Gam} {M : Led} {σ : L2.St} {x : V} {lx : Lo} {K : Lo → Led → Prop} {Q : VK}, Sat C As G H Γ M σ → LRp C.K As G x lx → ρ lx M K →
  (∀ (l : Lo) (M' : Led) (v : V) (As' : List Addr) (G' H' : Hp), Gr C As G As' G' H' Γ M' σ → LRp C.K As' G' v l → K l M' → Q v H') → r x H Q
def CaL (C : Fc) (r : List V → Hp → VK → Prop) (ρ : RnL) : Prop := ∀ {As : List Addr} {G H : Hp} {Γ : Gam} {M : Led} {σ : L2.St} {xs : List V} {ls : List Lo} {K : Lo → Led → Prop} {Q : VK}, Sat C As G H Γ M σ → LRpL C.K As G xs ls → ρ ls M K →
  (∀ (l : Lo) (M' : Led) (v : V) (As' : List Addr) (G' H' : Hp), Gr C As G As' G' H' Γ M' σ → LRp C.K As' G' v l → K l M' → Q v H') → r xs H Q
def qOp (ρ : R2L) (ta tb : RE) : RE := fun Γ M K => ta Γ M fun x M1 => tb Γ M1 fun y M2 => ρ x y M2 K
def qUn (ρ : R1L) (ta : RE) : RE := fun Γ M K => ta Γ M fun x M1 => ρ x M1 K
def qCa (ρ : RnL) (ta : RA) : RE := fun Γ M K => ta Γ M fun xs M1 => ρ xs M1 K
theorem up_op {r : R2} {ρ : R2L} (h : OpL C r ρ) : ∀ σ H Q, UE C (qOp ρ ta tb) σ H Q → tOp r (UE C ta) (UE C tb) σ H Q := fun σ H Q ⟨As, G, Γ, M, K, S, t, q⟩ =>
  ⟨As, G, Γ, M, _, S, t, fun lx M1 x As1 G1 H1 g1 rx t1 => ⟨As1, G1, Γ, M1, _, g1.sat, t1, fun ly M2 y As2 G2 H2 g2 ry t2 =>
    h g2.sat (rx.mono g2.g g2.p) ry t2 fun l M' v As' G' H' g3 rv k => q l M' v As' G' H' (g1.trans (g2.trans g3)) rv k⟩⟩
theorem up_un {r : V → Hp → VK → Prop} {ρ : R1L} (h : UnL C r ρ) : ∀ σ H Q, UE C (qUn ρ ta) σ H Q → tUn r (UE C ta) σ H Q := fun σ H Q ⟨As, G, Γ, M, K, S, t, q⟩ =>
  ⟨As, G, Γ, M, _, S, t, fun lx M1 x As1 G1 H1 g1 rx t1 => h g1.sat rx t1 fun l M' v As' G' H' g3 rv k => q l M' v As' G' H' (g1.trans g3) rv k⟩
theorem up_ca {r : List V → Hp → VK → Prop} {ρ : RnL} {t : RA} (h : CaL C r ρ) : ∀ σ H Q, UE C (qCa ρ t) σ H Q → tCB r (UA C t) σ H Q := fun σ H Q ⟨As, G, Γ, M, K, S, t, q⟩ =>
  ⟨As, G, Γ, M, _, S, t, fun lx M1 x As1 G1 H1 g1 rx t1 => h g1.sat rx t1 fun l M' v As' G' H' g3 rv k => q l M' v As' G' H' (g1.trans g3) rv k⟩
theorem q_op {op : Operator} {r : R2} {ρ : R2L} (hl : OpL C r ρ) (ho : OpR X (binaryOp op) r) (ha : QE C X a ta) (hb : QE C X b tb) : QE C X (.BinOp a op b pos) (qOp ρ ta tb) := PE.imp (pe_op ho ha hb) (up_op hl)
theorem q_un {op : UnaryOp} {r : V → Hp → VK → Prop} {ρ : R1L} (hl : UnL C r ρ) (ho : UnR X (unaryOp op) r) (ha : QE C X a ta) : QE C X (.UnaryOp op a pos) (qUn ρ ta) := PE.imp (pe_un ho ha) (up_un hl)
theorem q_cmp {op : CmpOp} {r : R2} {ρ : R2L} (hl : OpL C r ρ) (ho : OpR X (compareOp op) r) (ha : QE C X a ta) (hb : QE C X b tb) (hm : behindInMarks op b = false) : QE C X (.Compare a [op] [b] pos) (qOp ρ ta tb) := PE.imp (pe_cmpR ho ha hb hm) (up_op hl)
def rNil : RA := fun _ M K => K [] M
def rCons (ta : RE) (tr : RA) : RA := fun Γ M K => ta Γ M fun x M1 => tr Γ M1 fun xs M2 => K (x :: xs) M2
theorem q_nil : QA C X [] rNil := PA.imp pa_nil fun σ H Q ⟨As, G, Γ, M, K, S, t, q⟩ => q [] M [] As G H (Gr.refl S) .nil t
theorem q_cons {tr : RA} (ha : QE C X e te) (hr : QA C X es tr) (hs : starEach (e :: es) X.env = (false, eval e X.env) :: starEach es X.env := by rfl) : QA C X (e :: es) (rCons te tr) :=
  PA.imp (pa_cons ha hr hs) fun σ H Q ⟨As, G, Γ, M, K, S, t, q⟩ =>
    ⟨As, G, Γ, M, _, S, t, fun lx M1 x As1 G1 H1 g1 rx t1 => ⟨As1, G1, Γ, M1, _, g1.sat, t1, fun ly M2 y As2 G2 H2 g2 ry t2 => q _ M2 _ As2 G2 H2 (g1.trans g2) (.cons (rx.mono g2.g g2.p) ry) t2⟩⟩
/-- all of them data -/
def allIm : List Lo → Option (List D)
  | [] => some []
  | .im d :: r => match allIm r with
    | some ds => some (d :: ds)
    | none => none
  | .ow _ :: _ => none
  | .tp _ :: _ => none
theorem allIm_map : ∀ {ls : List Lo} {ds : List D}, allIm ls = some ds → ls = ds.map Lo.im
  | [], ds, h => by cases h; rfl
  | .im d :: r, ds, h => by
    unfold allIm at h
    split at h
    · rename_i es e
      cases h
      rw [allIm_map e]
      rfl
    · cases h
  | .ow _ :: _, ds, h => by cases h
  | .tp _ :: _, ds, h => by cases h
theorem allIm_rp {K : PySem.W.Frag} {As : List Addr} {G : Hp} {vs : List V} {ls : List Lo} {ds : List D} (r : LRpL K As G vs ls) (h : allIm ls = some ds) : RpL K G vs ds := by
  rw [allIm_map h] at r
  exact r.data
def rTup (t : RA) : RE := fun Γ M K => t Γ M fun ls M1 => match allIm ls with
  | some ds => ds.length ≤ sizeLine ∧ K (.im (.tup ds)) M1
  | none => ls.length ≤ sizeLine ∧ K (.tp ls) M1
/-- a new list, frozen at once -/
def rLst (t : RA) : RE := fun Γ M K => t Γ M fun ls M1 => match allIm ls with
  | some ds => ds.length ≤ sizeLine ∧ K (.im (.lst ds)) M1
  | none => False
/-- a new list of data, owned -/
def rLstO (t : RA) : RE := fun Γ M K => t Γ M fun ls M1 => match allIm ls with
  | some ds => ds.length ≤ sizeLine ∧ K (.ow M1.length) (M1 ++ [.li ds])
  | none => False
section
variable {As : List Addr} {G H : Hp} {Γ : Gam} {M : Led} {σ : L2.St} {p : Addr}
theorem Gr.frz {o : HO} (S : Sat C As G H Γ M σ) (hp : H p = none) : Gr C As G As (upd G p o) (upd H p o) Γ M σ := ⟨S.allocF hp, Same.new (S.gn hp), List.prefix_refl _⟩
theorem Gr.alloc {o : HO} {m : MO} (S : Sat C As G H Γ M σ) (hp : H p = none) (hm : MOis C.K (As ++ [p]) G o m) : Gr C As G (As ++ [p]) G (upd H p o) Γ (M ++ [m]) σ := ⟨S.alloc hp hm, Same.refl _, as_pre _ _⟩
theorem ow_new (S : Sat C As G H Γ M σ) {G' : Hp} : LRp C.K (As ++ [p]) G' (.ref p) (.ow M.length) := ⟨p, by rw [← S.al]; simp, rfl⟩
theorem rp_new_l {xs : List V} {ds : List D} (S : Sat C As G H Γ M σ) (hp : H p = none) (r : RpL C.K G xs ds) : Rp C.K (upd G p (.lst xs)) (.ref p) (.lst ds) := .lst upd_same (r.mono (Same.new (S.gn hp)))
theorem rp_new_t {xs : List V} {ds : List D} (S : Sat C As G H Γ M σ) (hp : H p = none) (r : RpL C.K G xs ds) : Rp C.K (upd G p (.tup xs)) (.ref p) (.tup ds) := .tup upd_same (r.mono (Same.new (S.gn hp)))
end
theorem q_tup {t : RA} {x1} (h : QA C X es t) : QE C X (.Tuple es x1 pos) (rTup t) := PE.imp (pe_tup h) fun σ H Q ⟨As, G, Γ, M, K, S, t, q⟩ =>
  ⟨As, G, Γ, M, _, S, t, fun ls M1 vs As1 G1 H1 g1 rv t1 => by
    split at t1
    · rename_i ds e
      have r := allIm_rp rv e
      exact ⟨by rw [r.length]; exact t1.1, fun p hp => q (.im (.tup ds)) M1 _ As1 _ _ (g1.trans (Gr.frz g1.sat hp)) (rp_new_t g1.sat hp r) t1.2⟩
    · exact ⟨by rw [rv.length]; exact t1.1, fun p hp => q (.tp ls) M1 _ As1 _ _ (g1.trans (Gr.frz g1.sat hp)) ⟨p, vs, rfl, upd_same, (rv.mono (Same.new (g1.sat.gn hp)) (List.prefix_refl _)).s⟩ t1.2⟩⟩
theorem q_lst {t : RA} (h : QA C X es t) : QE C X (.List es pos) (rLst t) := PE.imp (pe_lst h) fun σ H Q ⟨As, G, Γ, M, K, S, t, q⟩ =>
  ⟨As, G, Γ, M, _, S, t, fun ls M1 vs As1 G1 H1 g1 rv t1 => by
    split at t1
    · rename_i ds e
      have r := allIm_rp rv e
      exact ⟨by rw [r.length]; exact t1.1, fun p hp => q (.im (.lst ds)) M1 _ As1 _ _ (g1.trans (Gr.frz g1.sat hp)) (rp_new_l g1.sat hp r) t1.2⟩
    · exact t1.elim⟩
theorem q_lstO {t : RA} (h : QA C X es t) : QE C X (.List es pos) (rLstO t) := PE.imp (pe_lst h) fun σ H Q ⟨As, G, Γ, M, K, S, t, q⟩ =>
  ⟨As, G, Γ, M, _, S, t, fun ls M1 vs As1 G1 H1 g1 rv t1 => by
    split at t1
    · rename_i ds e
      have r := allIm_rp rv e
      exact ⟨by rw [r.length]; exact t1.1, fun p hp => q _ _ _ _ _ _ (g1.trans (Gr.alloc (m := .li ds) g1.sat hp ⟨_, rfl, r⟩)) (ow_new g1.sat) t1.2⟩
    · exact t1.elim⟩
def rB (t : RE) : RT := fun Γ M K => t Γ M fun l M1 => match l with
  | .im (.bl b) => K b M1
  | _ => False
theorem up_b {t : TE} {rt : RE} (h : ∀ σ H Q, UE C rt σ H Q → t σ H Q) : ∀ σ H Q, UT C (rB rt) σ H Q → tB t σ H Q := fun σ H Q ⟨As, G, Γ, M, K, S, t, q⟩ =>
  h σ H _ ⟨As, G, Γ, M, _, S, t, fun l M1 v As1 G1 H1 g1 rv t1 => by
    cases l with
    | ow k => exact t1.elim
    | tp _ => exact t1.elim
    | im d =>
      cases d with
      | bl b =>
        cases rv
        exact ⟨b, rfl, q b M1 As1 G1 H1 g1 t1⟩
      | _ => exact t1.elim⟩
theorem q_tv {e : Expr} {t : RE} (h : QE C X e t) (he : ∀ whole, isTrue e X.env whole = (do let v ← whole; standAt e.pos; holding [v] (truthy v)) := by intro _; rfl) : QT C X e (rB t) := PT.imp (pt_val h he) (up_b fun _ _ _ q => q)
theorem q_tcmp {op : CmpOp} {r : R2} {ρ : R2L} (hl : OpL C r ρ) (ho : OpR X (compareOp op) r) (ha : QE C X a ta) (hb : QE C X b tb) (hm : behindInMarks op b = false) : QT C X (.Compare a [op] [b] pos) (rB (qOp ρ ta tb)) :=
  PT.imp (pt_cmpR ho ha hb hm) (up_b (up_op hl))
def IfP (b : Bool) (A B : Prop) : Prop := (b = true → A) ∧ (b = false → B)
def rAndT (t u : RT) : RT := fun Γ M K => t Γ M fun b M1 => IfP b (u Γ M1 K) (K false M1)
def rOrT (t u : RT) : RT := fun Γ M K => t Γ M fun b M1 => IfP b (K true M1) (u Γ M1 K)
def rNotT (t : RT) : RT := fun Γ M K => t Γ M fun b M1 => K (!b) M1
theorem q_wand1 {t : RT} (ha : QT C X a t) : QW C X (.BoolOp .And [a] pos) t := pw_and1 ha
theorem q_wor1 {t : RT} (ha : QT C X a t) : QW C X (.BoolOp .Or [a] pos) t := pw_or1 ha
theorem q_wand {rest : List Expr} {t u : RT} (ha : QT C X a t) (hb : QW C X (.BoolOp .And (b :: rest) pos) u) : QW C X (.BoolOp .And (a :: b :: rest) pos) (rAndT t u) :=
  PW.imp (pw_and ha hb) fun σ H Q ⟨As, G, Γ, M, K, S, t, q⟩ => ⟨As, G, Γ, M, _, S, t, fun k M1 As1 G1 H1 g1 t1 => by
    cases k with
    | true => exact ⟨As1, G1, Γ, M1, K, g1.sat, t1.1 rfl, fun b M2 As2 G2 H2 g2 k => q b M2 As2 G2 H2 (g1.trans g2) k⟩
    | false =>
      rw [if_neg Bool.false_ne_true]
      exact q false M1 As1 G1 H1 g1 (t1.2 rfl)⟩
theorem q_wor {rest : List Expr} {t u : RT} (ha : QT C X a t) (hb : QW C X (.BoolOp .Or (b :: rest) pos) u) : QW C X (.BoolOp .Or (a :: b :: rest) pos) (rOrT t u) :=
  PW.imp (pw_or ha hb) fun σ H Q ⟨As, G, Γ, M, K, S, t, q⟩ => ⟨As, G, Γ, M, _, S, t, fun k M1 As1 G1 H1 g1 t1 => by
    cases k with
    | true => exact q true M1 As1 G1 H1 g1 (t1.1 rfl)
    | false =>
      rw [if_neg Bool.false_ne_true]
      exact ⟨As1, G1, Γ, M1, K, g1.sat, t1.2 rfl, fun b M2 As2 G2 H2 g2 k => q b M2 As2 G2 H2 (g1.trans g2) k⟩⟩
theorem q_wt {t : RT} (h : QW C X e t) : QT C X e t := PW.pt h
theorem q_not {t : RT} (ha : QT C X a t) : QT C X (.UnaryOp .Not a pos) (rNotT t) := PT.imp (pt_not ha) fun σ H Q ⟨As, G, Γ, M, K, S, t, q⟩ => ⟨As, G, Γ, M, _, S, t, fun k M1 As1 G1 H1 g1 t1 => q _ M1 As1 G1 H1 g1 t1⟩
/-- .. as values -/
def rAndV (ta tb : RE) : RE := fun Γ M K => ta Γ M fun l M1 => match l with
  | .im (.bl b) => IfP b (tb Γ M1 K) (K (.im (.bl false)) M1)
  | _ => False
def rOrV (ta tb : RE) : RE := fun Γ M K => ta Γ M fun l M1 => match l with
  | .im (.bl b) => IfP b (K (.im (.bl true)) M1) (tb Γ M1 K)
  | _ => False
def rNotV (ta : RE) : RE := fun Γ M K => ta Γ M fun l M1 => match l with
  | .im (.bl b) => K (.im (.bl (!b))) M1
  | _ => False
theorem bl_of {K : PySem.W.Frag} {As : List Addr} {G : Hp} {v : V} {b : Bool} (r : LRp K As G v (.im (.bl b))) : v = .bl b := by
  cases r
  rfl
theorem int_of {K : PySem.W.Frag} {As : List Addr} {G : Hp} {v : V} {b : Int} (r : LRp K As G v (.im (.int b))) : v = .int b := by
  cases r
  rfl
theorem str_of {K : PySem.W.Frag} {As : List Addr} {G : Hp} {v : V} {b : Str} (r : LRp K As G v (.im (.str b))) : v = .str b := by
  cases r
  rfl
theorem bl_case {l : Lo} {P : Bool → Prop} (h : match l with | .im (.bl b) => P b | _ => False) : ∃ b, l = .im (.bl b) ∧ P b := by
  cases l with
  | ow k => exact h.elim
  | tp _ => exact h.elim
  | im d =>
    cases d with
    | bl b => exact ⟨b, rfl, h⟩
    | _ => exact h.elim
theorem q_one {op} {t : RE} (h : QE C X a t) : QE C X (.BoolOp op [a] pos) t := pe_one h
theorem q_and {rest : List Expr} (ha : QE C X a ta) (hb : QE C X (.BoolOp .And (b :: rest) pos) tb) : QE C X (.BoolOp .And (a :: b :: rest) pos) (rAndV ta tb) :=
  PE.imp (pe_and ha hb) fun σ H Q ⟨As, G, Γ, M, K, S, t, q⟩ => ⟨As, G, Γ, M, _, S, t, fun l M1 v As1 G1 H1 g1 rv t1 => by
    obtain ⟨k, rfl, t1⟩ := bl_case t1
    refine ⟨k, bl_of rv, ?_⟩
    cases k with
    | true => exact ⟨As1, G1, Γ, M1, K, g1.sat, t1.1 rfl, fun l M2 v As2 G2 H2 g2 rv k => q l M2 v As2 G2 H2 (g1.trans g2) rv k⟩
    | false =>
      rw [if_neg Bool.false_ne_true]
      exact q (.im (.bl false)) M1 _ As1 G1 H1 g1 (Rp.bl false) (t1.2 rfl)⟩
theorem q_or {rest : List Expr} (ha : QE C X a ta) (hb : QE C X (.BoolOp .Or (b :: rest) pos) tb) : QE C X (.BoolOp .Or (a :: b :: rest) pos) (rOrV ta tb) :=
  PE.imp (pe_or ha hb) fun σ H Q ⟨As, G, Γ, M, K, S, t, q⟩ => ⟨As, G, Γ, M, _, S, t, fun l M1 v As1 G1 H1 g1 rv t1 => by
    obtain ⟨k, rfl, t1⟩ := bl_case t1
    refine ⟨k, bl_of rv, ?_⟩
    cases k with
    | true => exact q (.im (.bl true)) M1 _ As1 G1 H1 g1 (Rp.bl true) (t1.1 rfl)
    | false =>
      rw [if_neg Bool.false_ne_true]
      exact ⟨As1, G1, Γ, M1, K, g1.sat, t1.2 rfl, fun l M2 v As2 G2 H2 g2 rv k => q l M2 v As2 G2 H2 (g1.trans g2) rv k⟩⟩
theorem q_notV (ha : QE C X a ta) : QE C X (.UnaryOp .Not a pos) (rNotV ta) :=
  PE.imp (pe_not ha) fun σ H Q ⟨As, G, Γ, M, K, S, t, q⟩ => ⟨As, G, Γ, M, _, S, t, fun l M1 v As1 G1 H1 g1 rv t1 => by
    obtain ⟨k, rfl, t1⟩ := bl_case t1
    exact ⟨k, bl_of rv, q (.im (.bl (!k))) M1 _ As1 G1 H1 g1 (Rp.bl _) t1⟩⟩
def rIfE (t : RT) (ta tb : RE) : RE := fun Γ M K => t Γ M fun b M1 => IfP b (ta Γ M1 K) (tb Γ M1 K)
theorem q_ife {t : RT} (hc : QT C X c t) (ha : QE C X a ta) (hb : QE C X b tb) : QE C X (.IfExp c a b pos) (rIfE t ta tb) :=
  PE.imp (pe_ifExp hc ha hb) fun σ H Q ⟨As, G, Γ, M, K, S, t, q⟩ => ⟨As, G, Γ, M, _, S, t, fun k M1 As1 G1 H1 g1 t1 => by
    have go : ∀ {te : RE}, te Γ M1 K → UE C te σ H1 Q := fun {te} h => ⟨As1, G1, Γ, M1, K, g1.sat, h, fun l M2 v As2 G2 H2 g2 rv k => q l M2 v As2 G2 H2 (g1.trans g2) rv k⟩
    cases k with
    | true => exact go (t1.1 rfl)
    | false => exact go (t1.2 rfl)⟩
/-- a chain of two comparisons -/
def rChain (ρ ρ' : R2L) (ta tb tc : RE) : RE := fun Γ M K => ta Γ M fun x M1 => tb Γ M1 fun y M2 => ρ x y M2 fun z M3 => match z with
  | .im (.bl b) => IfP b (tc Γ M3 fun w M4 => ρ' y w M4 K) (K (.im (.bl false)) M3)
  | _ => False
theorem up_chain {r r' : R2} {ρ ρ' : R2L} (h : OpL C r ρ) (h' : OpL C r' ρ') : ∀ σ H Q, UE C (rChain ρ ρ' ta tb tc) σ H Q → tChain r r' (UE C ta) (UE C tb) (UE C tc) σ H Q := fun σ H Q ⟨As, G, Γ, M, K, S, t, q⟩ =>
  ⟨As, G, Γ, M, _, S, t, fun lx M1 x As1 G1 H1 g1 rx t1 => ⟨As1, G1, Γ, M1, _, g1.sat, t1, fun ly M2 y As2 G2 H2 g2 ry t2 =>
    h g2.sat (rx.mono g2.g g2.p) ry t2 fun l M3 v As3 G3 H3 g3 rv t3 => by
      obtain ⟨k, rfl, t3⟩ := bl_case t3
      refine ⟨k, bl_of rv, ?_⟩
      cases k with
      | true =>
        refine ⟨As3, G3, Γ, M3, _, g3.sat, t3.1 rfl, fun lw M4 w As4 G4 H4 g4 rw4 t4 => h' g4.sat (ry.mono (g3.g.trans g4.g) (g3.p.trans g4.p)) rw4 t4 fun l M5 v As5 G5 H5 g5 rv k => q l M5 v As5 G5 H5 (g1.trans (g2.trans (g3.trans (g4.trans g5)))) rv k⟩
      | false =>
        rw [if_neg Bool.false_ne_true]
        exact q (.im (.bl false)) M3 _ As3 G3 H3 (g1.trans (g2.trans g3)) (Rp.bl false) (t3.2 rfl)⟩⟩
theorem q_chain {op op' : CmpOp} {r r' : R2} {ρ ρ' : R2L} (hl : OpL C r ρ) (ho : OpR X (compareOp op) r) (hl' : OpL C r' ρ') (ho' : OpR X (compareOp op') r') (ha : QE C X a ta) (hb : QE C X b tb) (hc : QE C X c tc)
    (hm : lastMarks [op, op'] [b, c] = false := by with_unfolding_all rfl) : QE C X (.Compare a [op, op'] [b, c] pos) (rChain ρ ρ' ta tb tc) := PE.imp (pe_chain ho ho' ha hb hc hm) (up_chain hl hl')
theorem q_tchain {op op' : CmpOp} {r r' : R2} {ρ ρ' : R2L} (hl : OpL C r ρ) (ho : OpR X (compareOp op) r) (hl' : OpL C r' ρ') (ho' : OpR X (compareOp op') r') (ha : QE C X a ta) (hb : QE C X b tb) (hc : QE C X c tc)
    (hm : lastMarks [op, op'] [b, c] = false := by with_unfolding_all rfl) : QT C X (.Compare a [op, op'] [b, c] pos) (rB (rChain ρ ρ' ta tb tc)) := PT.imp (pt_chain ho ho' ha hb hc hm) (up_b (up_chain hl hl'))
end
end Dl
set_option Elab.async false
set_option maxRecDepth 100000
set_option maxHeartbeats 1000000
namespace Dl
open PySem L2
section
variable {C : Fc} {X : Cx} {a b c e tg iter : Expr} {es : List Expr} {ta tb tc te : RE} {pos : Pos} {st : Stmt} {sts : List Stmt}
def rNext : RS := fun N Γ M => N.nx Γ M
def rSeq (t u : RS) : RS := fun N Γ M => t { N with nx := u N } Γ M
theorem q_snil : QSs C X [] rNext := PSs.imp pss_nil fun D σ H ⟨As, G, Γ, M, N, S, t, f⟩ => f.nx _ _ _ _ _ _ (Gr.refl S).w t
theorem q_scons {t u : RS} (h1 : QS C X st t) (h2 : QSs C X sts u) : QSs C X (st :: sts) (rSeq t u) := PSs.imp (pss_cons h1 h2) fun D σ H ⟨As, G, Γ, M, N, S, t, f⟩ =>
  ⟨As, G, Γ, M, _, S, t, fun Γ' M' σ' As' G' H' g k => ⟨As', G', Γ', M', N, g.sat, k, f.mono g⟩, f.rt, f.bk, f.ct⟩
theorem q_sone {t : RS} (h1 : QS C X st t) : QSs C X [st] t := pss_one h1
def rDrop (te : RE) : RS := fun N Γ M => te Γ M fun _ M1 => N.nx Γ M1
theorem q_expr (he : QE C X e te) (hs : swapsWith e none pos.line X.env = pure false := by rfl) : QS C X (.Expr e pos) (rDrop te) := PS.imp (ps_expr he hs) fun D σ H ⟨As, G, Γ, M, N, S, t, f⟩ =>
  ⟨As, G, Γ, M, _, S, t, fun l M' v As' G' H' g _ k => f.nx _ _ _ _ _ _ g.w k⟩
def rRet (te : RE) : RS := fun N Γ M => te Γ M N.rt
theorem q_ret (he : QE C X e te) : QS C X (.Return (some e) pos) (rRet te) := PS.imp (ps_ret he) fun D σ H ⟨As, G, Γ, M, N, S, t, f⟩ =>
  ⟨As, G, Γ, M, _, S, t, fun l M' v As' G' H' g rv k => f.rt _ _ _ _ _ _ _ _ g.w rv k⟩
def rIf (c : RT) (t u : RS) : RS := fun N Γ M => c Γ M fun b M1 => IfP b (t N Γ M1) (u N Γ M1)
theorem q_if {p q : List Stmt} {rc : RT} {t u : RS} (hc : QT C X c rc) (ha : QSs C X p t) (hb : QSs C X q u) : QS C X (.If c p q pos) (rIf rc t u) := PS.imp (ps_if hc ha hb) fun D σ H ⟨As, G, Γ, M, N, S, t, f⟩ =>
  ⟨As, G, Γ, M, _, S, t, fun b M1 As1 G1 H1 g t1 => by
    cases b with
    | true => exact ⟨As1, G1, Γ, M1, N, g.sat, t1.1 rfl, f.mono g.w⟩
    | false => exact ⟨As1, G1, Γ, M1, N, g.sat, t1.2 rfl, f.mono g.w⟩⟩
def rNever : RS := fun _ _ _ => False
theorem q_never : QS C X st rNever := PS.imp ps_never fun D σ H ⟨As, G, Γ, M, N, S, t, f⟩ => t.elim
def rName (i : Nat) : RG := fun l Γ M K => K (Γ.set i (some l)) M
theorem q_name (i : Nat) {x : Str} {pos : Pos} (hN : X.N.Nodup) (hi : X.N[i]? = some x := by rfl) (hx : Loc X.env.scope x := by first | exact Or.inl rfl | exact Or.inr rfl) (hf : X.fn x = true ∨ X.env.scope.names.lookup x = some .local := by first | exact .inl rfl | exact .inr rfl) :
    QG C X (.Name x pos) [i] (rName i) := PG.imp (pg_name hN hi hx hf) fun v σ H Q ⟨As, G, Γ, M, l, K, S, r, t, q⟩ =>
  q _ _ _ As G H ⟨S.set r, Same.refl _, List.prefix_refl _⟩ (fun j hj => List.getElem?_set_ne (fun z => hj (by simp [z]))) (List.length_set ..) t
abbrev RGs := List Lo → Gam → Led → (Gam → Led → Prop) → Prop
def UGs (C : Fc) (is : List Nat) (t : RGs) : TGs := fun vs σ H Q => ∃ (As : List Addr) (G : Hp) (Γ : Gam) (M : Led) (ds : List Lo) (K : Gam → Led → Prop), Sat C As G H Γ M σ ∧ LRpL C.K As G vs ds ∧ t ds Γ M K ∧
  ∀ (Γ' : Gam) (M' : Led) (σ' : L2.St) (As' : List Addr) (G' H' : Hp), Gr C As G As' G' H' Γ' M' σ' → (∀ j, j ∉ is → σ'[j]? = σ[j]?) → σ'.length = σ.length → K Γ' M' → Q σ' H'
theorem PGs.imp {X : Cx} {es : List Expr} {t u : TGs} (h : PGs X es t) (i : ∀ v σ H Q, u v σ H Q → t v σ H Q) : PGs X es u := ⟨fun pins s σ H v u Q I r q => h.run pins s σ H v u Q I r (i v σ H Q q)⟩
def QGs (C : Fc) (X : Cx) (es : List Expr) (is : List Nat) (t : RGs) : Prop := PGs X es (UGs C is t)
def rGNil : RGs := fun ds Γ M K => match ds with
  | [] => K Γ M
  | _ :: _ => False
def rGCons (g : RG) (u : RGs) : RGs := fun ds Γ M K => match ds with
  | [] => False
  | d :: r => g d Γ M fun Γ1 M1 => u r Γ1 M1 K
theorem q_gnil : QGs C X [] [] rGNil := PGs.imp pgs_nil fun vs σ H Q ⟨As, G, Γ, M, ds, K, S, r, t, q⟩ => by
  cases r with
  | nil => exact ⟨rfl, q _ _ _ As G H (Gr.refl S) (fun _ _ => rfl) rfl t⟩
  | cons _ _ => exact t.elim
theorem q_gcons {is js : List Nat} {g : RG} {u : RGs} (h1 : QG C X e is g) (h2 : QGs C X es js u) (hs : (assignEach (e :: es) X.env).map (·.2) = assign e X.env :: (assignEach es X.env).map (·.2) := by rfl) : QGs C X (e :: es) (is ++ js) (rGCons g u) :=
  PGs.imp (pgs_cons h1 h2 hs) fun vs σ H Q ⟨As, G, Γ, M, ds, K, S, r, t, q⟩ => by
    cases r with
    | nil => exact t.elim
    | cons rv rr =>
      refine ⟨_, _, rfl, As, G, Γ, M, _, _, S, rv, t, fun Γ1 M1 σ1 As1 G1 H1 g1 k1 l1 t1 => ⟨As1, G1, Γ1, M1, _, _, g1.sat, rr.mono g1.g g1.p, t1, fun Γ2 M2 σ2 As2 G2 H2 g2 k2 l2 t2 => ?_⟩⟩
      exact q Γ2 M2 σ2 As2 G2 H2 (g1.trans g2) (fun j hj => by
        rw [List.mem_append, not_or] at hj
        exact (k2 j hj.2).trans (k1 j hj.1)) (l2.trans l1) t2
def rGTup (n : Nat) (t : RGs) : RG := fun l Γ M K => match l with
  | .im (.tup ds) => ds.length = n ∧ t (ds.map Lo.im) Γ M K
  | .tp ls => ls.length = n ∧ t ls Γ M K
  | _ => False
theorem q_gtup {is : List Nat} {k n : Nat} {t : RGs} (hc : X.calm = true) (hK : C.K = X.K) (h : QGs C X es is t) (hn : (assignEach es X.env).length = n := by rfl) (hst : (assignEach es X.env).findIdx? (·.1) = none := by rfl) : QG C X (.Tuple es k pos) is (rGTup n t) :=
  PG.imp (pg_tup hc h hn hst) fun v σ H Q ⟨As, G, Γ, M, l, K, S, r, t, q⟩ => by
    cases l with
    | ow k => exact t.elim
    | tp ls =>
      obtain ⟨a, xs, rfl, h1, h2⟩ := r
      exact ⟨_, _, rfl, SqT.of (S.le _ _ h1), h2.l.length.trans t.1, As, G, Γ, M, ls, K, S, h2.l, t.2, q⟩
    | im d =>
      cases d with
      | tup ds =>
        cases r with
        | tup h rr => exact ⟨_, _, rfl, SqT.of (S.le _ _ h), rr.length.trans t.1, As, G, Γ, M, ds.map Lo.im, K, S, .of_data rr, t.2, q⟩
      | _ => exact t.elim
/-- o[i] = value, a list of one's own -/
def rGSub (to ti : RE) : RG := fun l Γ M K => to Γ M fun o M1 => ti Γ M1 fun i M2 => match o, i with
  | .ow k, .im (.int j) => match M2[k]? with
    | some (.li ds) => match l with
      | .im d => ∃ n, ixN ds.length j = some n ∧ K Γ (M2.set k (.li (ds.set n d)))
      | _ => False
    | some (.ls ls) => ∃ n, ixN ls.length j = some n ∧ K Γ (M2.set k (.ls (ls.set n l)))
    | _ => False
  | _, _ => False
theorem q_gsub {o i : Expr} {to ti : RE} (ho : QE C X o to) (hi : QE C X i ti)
    (ha : ∀ v, assign (.Subscript o i pos) X.env v = (do
      let ov ← holding [v] (eval o X.env)
      let iv ← holding [v, ov] (eval i X.env)
      standAt pos
      holding [v, ov, iv] (setItem ov iv v)
      release [v, ov, iv] []) := by intro _; rfl) : QG C X (.Subscript o i pos) [] (rGSub to ti) :=
  PG.imp (pg_sub ho hi set_list ha) fun v σ H Q ⟨As, G, Γ, M, l, K, S, r, t, q⟩ =>
    ⟨As, G, Γ, M, _, S, t, fun lo M1 vo As1 G1 H1 g1 r1 t1 => ⟨As1, G1, Γ, M1, _, g1.sat, t1, fun li M2 vi As2 G2 H2 g2 r2 t2 => by
      cases lo with
      | im _ => exact t2.elim
      | tp _ => exact t2.elim
      | ow k =>
        obtain ⟨p, hp, rfl⟩ := r1
        cases li with
        | ow _ => exact t2.elim
        | tp _ => exact t2.elim
        | im d =>
          cases d with
          | int j =>
            cases r2
            dsimp only at t2
            have hp2 := pre_get g2.p hp
            split at t2
            · rename_i ds e
              cases l with
              | ow _ => exact t2.elim
              | tp _ => exact t2.elim
              | im d =>
                obtain ⟨n, hn, k2⟩ := t2
                obtain ⟨_, u, hu, xs, rfl, rx⟩ := g2.sat.own _ _ _ hp2 e (by intro z; cases z)
                have r' : Rp C.K G2 v d := Rp.mono (g1.g.trans g2.g) r
                refine ⟨p, xs, j, n, rfl, rfl, hu, by rw [rx.length]; exact hn, ?_⟩
                exact q _ _ _ As2 G2 _ (g1.trans (g2.trans ⟨g2.sat.write (m' := .li (ds.set n d)) hp2 e (by intro z; cases z) ⟨_, rfl, RpL.set r' n rx⟩, Same.refl _, List.prefix_refl _⟩)) (fun _ _ => rfl) rfl k2
            · rename_i ls e
              obtain ⟨n, hn, k2⟩ := t2
              obtain ⟨_, u, hu, xs, rfl, rx⟩ := g2.sat.own _ _ _ hp2 e (by intro z; cases z)
              have r' : LRp C.K As2 G2 v l := r.mono (g1.g.trans g2.g) (g1.p.trans g2.p)
              refine ⟨p, xs, j, n, rfl, rfl, hu, by rw [rx.length]; exact hn, ?_⟩
              exact q _ _ _ As2 G2 _ (g1.trans (g2.trans ⟨g2.sat.write (m' := .ls (ls.set n l)) hp2 e (by intro z; cases z) ⟨_, rfl, rx.set r' n⟩, Same.refl _, List.prefix_refl _⟩)) (fun _ _ => rfl) rfl k2
            · exact t2.elim
          | _ => exact t2.elim⟩⟩
def rAsg (te : RE) (g : RG) : RS := fun N Γ M => te Γ M fun l M1 => g l Γ M1 N.nx
theorem up_asg {is : List Nat} {te : RE} {g : RG} : ∀ D σ H, US C (rAsg te g) D σ H → tAsg (UE C te) (UG C is g) D σ H := fun D σ H ⟨As, G, Γ, M, N, S, t, f⟩ =>
  ⟨As, G, Γ, M, _, S, t, fun l M' v As' G' H' g1 rv k => ⟨As', G', Γ, M', l, _, g1.sat, rv, k, fun Γ2 M2 σ2 As2 G2 H2 g2 _ _ k2 => f.nx _ _ _ _ _ _ (g1.trans g2).w k2⟩⟩
theorem q_asg {is : List Nat} {te : RE} {g : RG} (he : QE C X e te) (hg : QG C X tg is g) (hs : swapsWithSole [tg] e pos.line X.env = pure false := by rfl) (hw : swappedStores [tg] e X.env = pure none := by rfl)
    (h1 : (assignEach [tg] X.env).map (·.2) = [assign tg X.env] := by rfl) : QS C X (.Assign [tg] e pos) (rAsg te g) := PS.imp (ps_asg he hg hs hw h1) up_asg
theorem q_set (i : Nat) {x : Str} {pos' : Pos} (hN : X.N.Nodup) (he : QE C X e te) (hi : X.N[i]? = some x := by rfl) (hx : Loc X.env.scope x := by first | exact Or.inl rfl | exact Or.inr rfl) (hs : swapsWith e (some (.Name x pos')) pos.line X.env = pure false := by rfl) (hf : X.fn x = true ∨ X.env.scope.names.lookup x = some .local := by first | exact .inl rfl | exact .inr rfl) :
    QS C X (.Assign [.Name x pos'] e pos) (rAsg te (rName i)) := PS.imp (ps_set hN hi hx he hs hf) fun D σ H ⟨As, G, Γ, M, N, S, t, f⟩ =>
  ⟨As, G, Γ, M, _, S, t, fun l M' v As' G' H' g1 rv k => f.nx _ _ _ _ _ _ (g1.w.trans ⟨g1.sat.set rv, Same.refl _⟩) k⟩
/-- a, b = x, y -/
def rPar (i j : Nat) (ta : RA) : RS := fun N Γ M => ta Γ M fun ls M1 => match ls with
  | [x, y] => N.nx ((Γ.set i (some x)).set j (some y)) M1
  | _ => False
theorem q_par (i j : Nat) {x y : Str} {ra : RA} {px py pt : Pos} {kt k2 pt2} (hc : X.calm = true) (hN : X.N.Nodup) (ha : QA C X [a, b] ra) (hi : X.N[i]? = some x := by rfl) (hj : X.N[j]? = some y := by rfl) (hij : i ≠ j := by decide)
    (hx : X.env.scope.names.lookup x = some .local := by rfl) (hy : X.env.scope.names.lookup y = some .local := by rfl)
    (hw : swappedStores [.Tuple [.Name x px, .Name y py] kt pt] (.Tuple [a, b] k2 pt2) X.env = pure (some [x, y]) := by rfl)
    (hs : swapsWithSole [.Tuple [.Name x px, .Name y py] kt pt] (.Tuple [a, b] k2 pt2) pos.line X.env = pure false := by rfl) :
    QS C X (.Assign [.Tuple [.Name x px, .Name y py] kt pt] (.Tuple [a, b] k2 pt2) pos) (rPar i j ra) := PS.imp (ps_par hc hN hi hj hij hx hy ha hw hs) fun D σ H ⟨As, G, Γ, M, N, S, t, f⟩ =>
  ⟨As, G, Γ, M, _, S, t, fun ls M' vs As' G' H' g1 rv k => by
    cases rv with
    | nil => exact k.elim
    | cons r1 rv =>
      cases rv with
      | nil => exact k.elim
      | cons r2 rv =>
        cases rv with
        | nil => exact ⟨_, _, rfl, f.nx _ _ _ _ _ _ (g1.w.trans ⟨(g1.sat.set r1).set r2, Same.refl _⟩) k⟩
        | cons _ _ => exact k.elim⟩
/-- what is walked: data that stand still -/
def ItD (C : Fc) (As1 : List Addr) (G1 : Hp) (J : It) (ds : List D) : Prop := ∀ (i : Nat) (As : List Addr) (G H : Hp) (Γ : Gam) (M : Led) (σ : L2.St), Sat C As G H Γ M σ → Same G1 G →
  (∀ d, ds[i]? = some d → J.go i H ∧ ∀ x H', J.yld i H x H' → ∃ G', Gr C As G As G' H' Γ M σ ∧ Rp C.K G' x d) ∧ (ds.length ≤ i → J.stop i H)
abbrev RI := Gam → Led → (List D → Led → Prop) → Prop
def UI (C : Fc) (t : RI) : TI := fun σ H R => ∃ (As : List Addr) (G : Hp) (Γ : Gam) (M : Led) (K : List D → Led → Prop), Sat C As G H Γ M σ ∧ t Γ M K ∧
  ∀ (ds : List D) (M' : Led) (As' : List Addr) (G' H' : Hp) (J : It), Gr C As G As' G' H' Γ M' σ → ItD C As' G' J ds → K ds M' → R J H'
theorem PI.imp {tg iter : Expr} {t u : TI} (h : PI X tg iter t) (i : ∀ σ H R, u σ H R → t σ H R) : PI X tg iter u := ⟨fun pins s σ H R I q => h.run pins s σ H R I (i σ H R q)⟩
def QI (C : Fc) (X : Cx) (tg iter : Expr) (t : RI) : Prop := PI X tg iter (UI C t)
def rFor (ti : RI) (g : RG) (tb : RS) : RS := fun N Γ M => ti Γ M fun ds M1 => ∃ Iv : Nat → Gam → Led → Prop, Iv 0 Γ M1 ∧
  (∀ i d Γ' M', ds[i]? = some d → Iv i Γ' M' → g (.im d) Γ' M' fun Γ2 M2 => tb ⟨Iv (i + 1), N.rt, N.nx, Iv (i + 1)⟩ Γ2 M2) ∧ ∀ Γ' M', Iv ds.length Γ' M' → N.nx Γ' M'
theorem q_for {is : List Nat} {body : List Stmt} {ti : RI} {g : RG} {tb : RS} (hp : PassesOwn (model X.prog X.w) X.A X.env X.xe) (hc : X.calm = true) (hi : QI C X tg iter ti) (hg : QG C X tg is g) (hb : QSs C X body tb)
    (hs : ∀ x, foldedSetIterable iter X.env x = pure x := by intro _; rfl) : QS C X (.For tg iter body [] pos) (rFor ti g tb) :=
  PS.imp (ps_for hp hc hi hg hb hs) fun D σ H ⟨As, G, Γ, M, N, S, t, f⟩ => ⟨As, G, Γ, M, _, S, t, fun ds M1 As1 G1 H1 J g1 hJ ⟨Iv, i0, step, done⟩ => by
    refine ⟨fun i m σ' H' => m = ds.length - i ∧ i ≤ ds.length ∧ ∃ As' G' Γ' M', Gw C G1 As' G' H' Γ' M' σ' ∧ Iv i Γ' M', ⟨_, rfl, Nat.zero_le _, As1, G1, Γ, M1, (Gr.refl g1.sat).w, i0⟩, ?_⟩
    rintro i m σ2 H2 ⟨rfl, hi, As2, G2, Γ2, M2, g2, i2⟩
    obtain ⟨hgo, hst⟩ := hJ i As2 G2 H2 Γ2 M2 σ2 g2.sat g2.g
    by_cases hlt : i < ds.length
    · refine .inr ⟨(hgo ds[i] (by simp [hlt])).1, fun σ' H' => ∃ As' G' Γ' M', Gw C G1 As' G' H' Γ' M' σ' ∧ Iv (i + 1) Γ' M', fun σ' H' ⟨As', G', Γ', M', g', i'⟩ => ⟨ds.length - (i + 1), by omega, rfl, hlt, As', G', Γ', M', g', i'⟩, fun x H3 y => ?_⟩
      obtain ⟨G3, g3, r3⟩ := (hgo ds[i] (by simp [hlt])).2 x H3 y
      refine ⟨As2, G3, Γ2, M2, .im ds[i], _, g3.sat, r3, step i ds[i] Γ2 M2 (by simp [hlt]) i2, fun Γ4 M4 σ4 As4 G4 H4 g4 _ _ k4 => ?_⟩
      have g14 := g2.trans (g3.w.trans g4.w)
      refine ⟨As4, G4, Γ4, M4, _, g4.sat, k4, fun Γ' M' σ' As' G' H' g' k' => ⟨As', G', Γ', M', g14.trans g', k'⟩, fun l v Γ' M' σ' As' G' H' g' rv k' => f.rt _ _ _ _ _ _ _ _ (g1.w.trans (g14.trans g')) rv k',
        fun Γ' M' σ' As' G' H' g' k' => f.nx _ _ _ _ _ _ (g1.w.trans (g14.trans g')) k', fun Γ' M' σ' As' G' H' g' k' => ⟨As', G', Γ', M', g14.trans g', k'⟩⟩
    · have e : i = ds.length := by omega
      subst e
      exact .inl ⟨hst (Nat.le_refl _), f.nx _ _ _ _ _ _ (g1.w.trans g2) (done Γ2 M2 i2)⟩⟩
theorem wipe_get {σ : L2.St} : ∀ {vs : List Nat} {j : Nat}, j ∉ vs → (wipe σ vs)[j]? = σ[j]?
  | [], j, _ => rfl
  | v :: vs, j, h => by
    rw [List.mem_cons, not_or] at h
    unfold wipe
    rw [List.getElem?_set_ne (Ne.symm h.1)]
    exact wipe_get h.2
theorem wipe_in {σ : L2.St} : ∀ {vs : List Nat} {j : Nat}, j ∈ vs → j < σ.length → (wipe σ vs)[j]? = some none
  | v :: vs, j, h, hl => by
    unfold wipe
    by_cases hj : v = j
    · subst hj
      rw [List.getElem?_set_self (by rw [wipe_length]; exact hl)]
    · rw [List.getElem?_set_ne hj]
      rcases List.mem_cons.mp h with z | z
      · exact absurd z.symm hj
      · exact wipe_in z hl
theorem wipe_eq {σ τ : L2.St} {vs : List Nat} (hl : σ.length = τ.length) (h : ∀ j, j ∉ vs → σ[j]? = τ[j]?) : wipe σ vs = wipe τ vs := by
  refine List.ext_getElem? fun j => ?_
  by_cases hj : j ∈ vs
  · by_cases hjl : j < σ.length
    · rw [wipe_in hj hjl, wipe_in hj (by omega)]
    · rw [List.getElem?_eq_none (by rw [wipe_length]; omega), List.getElem?_eq_none (by rw [wipe_length]; omega)]
  · rw [wipe_get hj, wipe_get hj]
    exact h j hj
theorem wipe_wipe {σ : L2.St} {vs : List Nat} : wipe (wipe σ vs) vs = wipe σ vs := wipe_eq (wipe_length _ _) fun j hj => wipe_get hj
def wipeG (Γ : Gam) : List Nat → Gam
  | [] => Γ
  | v :: vs => (wipeG Γ vs).set v none
theorem wipeG_length (Γ : Gam) : ∀ vs : List Nat, (wipeG Γ vs).length = Γ.length
  | [] => rfl
  | v :: vs => by
    unfold wipeG
    rw [List.length_set, wipeG_length Γ vs]
theorem wipeG_some {Γ : Gam} {i : Nat} {l : Lo} : ∀ {vs : List Nat}, (wipeG Γ vs)[i]? = some (some l) → Γ[i]? = some (some l) ∧ i ∉ vs
  | [], h => ⟨h, by simp⟩
  | v :: vs, h => by
    unfold wipeG at h
    by_cases hi : v = i
    · subst hi
      by_cases hv : v < (wipeG Γ vs).length
      · rw [List.getElem?_set_self hv] at h
        cases h
      · rw [List.getElem?_eq_none (by simpa using hv)] at h
        cases h
    · rw [List.getElem?_set_ne hi] at h
      obtain ⟨h1, h2⟩ := wipeG_some h
      exact ⟨h1, by simp only [List.mem_cons, not_or]; exact ⟨fun e => hi e.symm, h2⟩⟩
theorem Sat.wipe {As : List Addr} {G H : Hp} {Γ : Gam} {M : Led} {σ : L2.St} (S : Sat C As G H Γ M σ) (vs : List Nat) : Sat C As G H (wipeG Γ vs) M (L2.wipe σ vs) :=
  S.sub (by rw [wipeG_length, wipe_length]; exact S.len) (fun i l e => (wipeG_some e).1) fun i l v e q => by rw [wipe_get (wipeG_some e).2]; exact q
/-- the slots as they were, in a state that has grown -/
theorem Gr.back {As As1 : List Addr} {G G1 H H1 : Hp} {Γ Γ1 : Gam} {M M1 : Led} {σ σ1 : L2.St} (S : Sat C As G H Γ M σ) (g : Gr C As G As1 G1 H1 Γ1 M1 σ1) : Gr C As G As1 G1 H1 Γ M1 σ :=
  ⟨⟨g.sat.le, g.sat.stp, g.sat.own, g.sat.fr, g.sat.inj, g.sat.al, g.sat.asS, g.sat.there, fun i l e => by
    obtain ⟨v, q1, q2⟩ := S.slot i l e
    exact ⟨v, q1, q2.mono g.g g.p⟩, S.len, g.sat.bg, g.sat.ba, g.sat.tb⟩, g.g, g.p⟩
def closed (n : Nat) : Led → Prop
  | [] => True
  | .ls ls :: r => refLs (· < n) ls ∧ closed n r
  | .dm ks :: r => refLs (· < n) (ks.map (·.2)) ∧ closed n r
  | .ob _ fs :: r => refLs (· < n) (fs.map (·.2)) ∧ closed n r
  | _ :: r => closed n r
theorem lrp_cut {K : PySem.W.Frag} {As : List Addr} {G : Hp} {v : V} {l : Lo} {n : Nat} (r : LRp K As G v l) (h : refL (· < n) l) : LRp K (As.take n) G v l := by
  have q := r.ren (Au := As.take n) (P := (· < n)) (f := fun k => k) (fun k a hk e => by rw [List.getElem?_take_of_lt hk]; exact e) h
  rwa [renL_id] at q
theorem lrpl_cut {K : PySem.W.Frag} {As : List Addr} {G : Hp} {vs : List V} {ls : List Lo} {n : Nat} (r : LRpL K As G vs ls) (h : refLs (· < n) ls) : LRpL K (As.take n) G vs ls := by
  induction r with
  | nil => exact .nil
  | cons r rr ih => exact .cons (lrp_cut r h.1) (ih h.2)
theorem mois_cut {K : PySem.W.Frag} {As : List Addr} {G : Hp} {o : HO} {m : MO} {n : Nat} (r : MOis K As G o m) (h : closed n [m]) : MOis K (As.take n) G o m := by
  cases m with
  | li ds => exact r
  | ls ls => obtain ⟨xs, h1, h2⟩ := r; exact ⟨xs, h1, lrpl_cut h2 h.1⟩
  | dc ks => exact r
  | dm ks => obtain ⟨xs, h1, h2, h3⟩ := r; exact ⟨xs, h1, h2, lrpl_cut h3 h.1⟩
  | ob C fs => obtain ⟨dx, xs, h1, h2, h3⟩ := r; exact ⟨dx, xs, h1, h2, lrpl_cut h3 h.1⟩
  | gone => trivial
  | dl _ _ _ => exact r
theorem closed_get {n : Nat} : ∀ {M : Led} {k : Nat} {m : MO}, closed n M → M[k]? = some m → closed n [m]
  | [], k, m, _, h => by simp at h
  | x :: r, 0, m, h, e => by
    simp at e
    subst e
    cases x <;> first | exact ⟨h.1, trivial⟩ | trivial
  | x :: r, k + 1, m, h, e => by
    refine closed_get (M := r) (k := k) ?_ (by simpa using e)
    cases x <;> first | exact h.2 | exact h
/-- the youngest objects are let go -/
theorem Sat.cut {As : List Addr} {G H : Hp} {Γ Γ' : Gam} {M : Led} {σ σ' : L2.St} {n : Nat} (S : Sat C As G H Γ M σ) (hc : closed n (M.take n)) (hS : C.S <+: As.take n) (hb : C.Ab <+: As.take n) (hs : ∀ (i : Nat) (l : Lo), Γ'[i]? = some (some l) → ∃ v, σ'[i]? = some (some v) ∧ LRp C.K (As.take n) G v l) (hl : Γ'.length = σ'.length) :
    Sat C (As.take n) G H Γ' (M.take n) σ' := by
  refine ⟨S.le, S.stp, fun k a m e1 e2 e3 => ?_, fun a ha => S.fr a (List.mem_of_mem_take ha), S.inj.sublist (List.take_sublist _ _), by rw [List.length_take, List.length_take, S.al], hS, fun a ha => S.there a (List.mem_of_mem_take ha), hs, hl, S.bg, hb, fun P q e => ⟨fun z => (S.tb P q e).1 (List.mem_of_mem_take z), (S.tb P q e).2⟩⟩
  have hk : k < n := by
    have := (List.getElem?_eq_some_iff.mp e1).1
    rw [List.length_take] at this
    omega
  have cl := closed_get hc e2
  rw [List.getElem?_take_of_lt hk] at e1 e2
  obtain ⟨q1, o, q2, q3⟩ := S.own k a m e1 e2 e3
  exact ⟨q1, o, q2, mois_cut q3 cl⟩
/-- [elt for target in iter if ..], the new list (of data) frozen; out: how the list is handed on -/
def rLcB (out : List D → Led → (Lo → Led → Prop) → Prop) (ti : RI) (g : RG) (tt : RT) (te : RE) (vs : List Nat) : RE := fun Γ M K => ti Γ M fun ds M1 => ∃ Iv : Nat → List D → Led → Prop, Iv 0 [] M1 ∧
  (∀ i d acc M', ds[i]? = some d → Iv i acc M' → M'.length = M1.length ∧ g (.im d) (wipeG Γ vs) (M' ++ [.li acc]) fun Γ2 M2 => tt Γ2 M2 fun b M3 =>
    IfP b (te Γ2 M3 fun l M4 => match l with
      | .im x => acc.length < sizeLine ∧ M4 = M4.take M1.length ++ [.li acc] ∧ Iv (i + 1) (acc ++ [x]) (M4.take M1.length)
      | _ => False) (M3 = M3.take M1.length ++ [.li acc] ∧ Iv (i + 1) acc (M3.take M1.length))) ∧
  ∀ acc M', Iv ds.length acc M' → M'.length = M1.length ∧ closed M1.length M' ∧ out acc M' K
def outF : List D → Led → (Lo → Led → Prop) → Prop := fun acc M K => K (.im (.lst acc)) M
def outO : List D → Led → (Lo → Led → Prop) → Prop := fun acc M K => K (.ow M.length) (M ++ [.li acc])
theorem take_app {α : Type} {xs ys : List α} {n : Nat} (h : xs.length = n) : (xs ++ ys).take n = xs := by
  subst h
  simp
def OutOk (out : List D → Led → (Lo → Led → Prop) → Prop) : Prop := ∀ {C : Fc} {As1 : List Addr} {G1 H1 G' Hc : Hp} {Dd : Addr} {Γ : Gam} {M1 M' : Led} {acc : List D} {σ : L2.St} {K : Lo → Led → Prop} {Q : VK}, Sat C As1 G1 H1 Γ M1 σ →
  Gr C As1 G1 (As1 ++ [Dd]) G' Hc Γ (M' ++ [.li acc]) σ → M'.length = M1.length → closed M1.length M' → out acc M' K →
  (∀ (l : Lo) (M2 : Led) (v : V) (As2 : List Addr) (G2 H2 : Hp), Gr C As1 G1 As2 G2 H2 Γ M2 σ → LRp C.K As2 G2 v l → K l M2 → Q v H2) → Q (.ref Dd) Hc
theorem outF_ok : OutOk outF := fun {C As1 G1 H1 G' Hc Dd Γ M1 M' acc σ K Q} S g hl hc ho q => by
  have hn : As1.length = M1.length := S.al
  have hA : (As1 ++ [Dd])[M1.length]? = some Dd := by rw [← hn]; simp
  have hM : (M' ++ [MO.li acc])[M1.length]? = some (.li acc) := by rw [← hl]; simp
  obtain ⟨g0, o, h0, xs, rfl, rx⟩ := g.sat.own _ _ _ hA hM (by intro z; cases z)
  have F := g.sat.freeze hA hM (by intro z; cases z) h0
  have eM : ((M' ++ [MO.li acc]).set M1.length .gone).take M1.length = M' := by
    rw [List.take_set_of_le (Nat.le_refl _), take_app hl]
  have eA : (As1 ++ [Dd]).take M1.length = As1 := take_app hn
  have sg : Same G' (upd G' Dd (.lst xs)) := Same.new g0
  have Z := F.cut (n := M1.length) (Γ' := Γ) (σ' := σ) (by rw [eM]; exact hc) (by rw [eA]; exact S.asS) (by rw [eA]; exact S.ba) (fun i l e => by
    obtain ⟨v, q1, q2⟩ := S.slot i l e
    exact ⟨v, q1, by rw [eA]; exact q2.mono (g.g.trans sg) (List.prefix_refl _)⟩) S.len
  rw [eA, eM] at Z
  exact q (.im (.lst acc)) M' _ As1 _ _ ⟨Z, g.g.trans sg, List.prefix_refl _⟩ (Rp.lst upd_same (rx.mono sg)) ho
theorem outO_ok : OutOk outO := fun {C As1 G1 H1 G' Hc Dd Γ M1 M' acc σ K Q} S g hl hc ho q => by
  have hn : As1.length = M1.length := S.al
  exact q (.ow M'.length) _ _ _ _ _ g ⟨Dd, by rw [hl, ← hn]; simp, rfl⟩ ho
theorem up_lc {out : List D → Led → (Lo → Led → Prop) → Prop} (hout : OutOk out) {is vs : List Nat} {ti : RI} {g : RG} {tt : RT} {te : RE} (his : ∀ j ∈ is, j ∈ vs) :
    ∀ σ H Q, UE C (rLcB out ti g tt te vs) σ H Q → tLc (UI C ti) (UG C is g) (UT C tt) (UE C te) vs σ H Q :=
  fun σ H Q ⟨As, G, Γ, M, K, S, t, q⟩ => ⟨As, G, Γ, M, _, S, t, fun ds M1 As1 G1 H1 J g1 hJ ⟨Iv, i0, step, done⟩ Dd hD => by
    have hn : As1.length = M1.length := g1.sat.al
    refine ⟨fun i m Hc => m = ds.length - i ∧ i ≤ ds.length ∧ ∃ G' acc M', M'.length = M1.length ∧ Gr C As1 G1 (As1 ++ [Dd]) G' Hc Γ (M' ++ [.li acc]) σ ∧ Iv i acc M',
      ⟨_, rfl, Nat.zero_le _, G1, [], M1, rfl, Gr.alloc (m := .li []) g1.sat hD ⟨[], rfl, .nil⟩, i0⟩, ?_⟩
    rintro i m Hc ⟨rfl, hi, G2, acc, M2, hl2, g2, iv⟩
    obtain ⟨hgo, hst⟩ := hJ i _ G2 Hc Γ _ σ g2.sat g2.g
    by_cases hlt : i < ds.length
    · refine .inr ⟨(hgo ds[i] (by simp [hlt])).1, fun H' => ∃ G' acc' M', M'.length = M1.length ∧ Gr C As1 G1 (As1 ++ [Dd]) G' H' Γ (M' ++ [.li acc']) σ ∧ Iv (i + 1) acc' M', fun H' ⟨G', acc', M', h1, h2, h3⟩ => ⟨ds.length - (i + 1), by omega, rfl, hlt, G', acc', M', h1, h2, h3⟩, fun x H3 y => ?_⟩
      obtain ⟨G3, g3, r3⟩ := (hgo ds[i] (by simp [hlt])).2 x H3 y
      obtain ⟨_, st⟩ := step i ds[i] acc M2 (by simp [hlt]) iv
      refine ⟨_, G3, wipeG Γ _, _, .im ds[i], _, g3.sat.wipe _, r3, st, fun Γ4 M4 σ4 As4 G4 H4 g4 k4 l4 t4 => ⟨?_, As4, G4, Γ4, M4, _, g4.sat, t4, fun b M5 As5 G5 H5 g5 t5 => ?_⟩⟩
      · rw [← wipe_wipe (σ := σ)]
        exact wipe_eq l4 fun j hj => k4 j fun z => hj (his j z)
      · -- back to the comprehension's own state
        have fin : ∀ {As6 : List Addr} {G6 H6 : Hp} {Γ6 : Gam} {M6 : Led} {σ6 : L2.St}, Gr C (As1 ++ [Dd]) G3 As6 G6 H6 Γ6 M6 σ6 → M6 = M6.take M1.length ++ [.li acc] →
            As6 = As1 ++ [Dd] ∧ (M6.take M1.length).length = M1.length ∧ M6[M1.length]? = some (.li acc) := fun {As6 G6 H6 Γ6 M6 σ6} g6 e6 => by
          have ll := g6.sat.al
          have l1 : (M6.take M1.length).length ≤ M1.length := List.length_take_le _ _
          have l2 : M6.length = (M6.take M1.length).length + 1 := by
            have := congrArg List.length e6
            rw [List.length_append, List.length_singleton] at this
            exact this
          obtain ⟨tl, htl⟩ := g6.p
          have l3 : As6.length = M1.length + 1 + tl.length := by
            rw [← htl, List.length_append, List.length_append, List.length_singleton, hn]
          have tl0 : tl = [] := List.length_eq_zero_iff.mp (by omega)
          subst tl0
          rw [List.append_nil] at htl
          have l4 : (M6.take M1.length).length = M1.length := by omega
          refine ⟨htl.symm, l4, ?_⟩
          rw [e6, List.getElem?_append_right (by omega), l4]
          simp
        cases b with
        | false =>
          obtain ⟨e6, iv'⟩ := t5.2 rfl
          show ∃ G' acc' M', _
          have g35 := g4.trans g5
          obtain ⟨eA, lM, _⟩ := fin g35 e6
          subst eA
          refine ⟨G5, acc, M5.take M1.length, lM, ?_, iv'⟩
          rw [← e6]
          exact Gr.back g1.sat (g2.trans (g3.trans g35))
        | true =>
          show UE C te σ4 H5 _
          refine ⟨As5, G5, Γ4, M5, _, g5.sat, t5.1 rfl, fun l M6 v As6 G6 H6 g6 rv k => ?_⟩
          cases l with
          | ow _ => exact k.elim
          | tp _ => exact k.elim
          | im x' =>
            obtain ⟨hz, e6, iv'⟩ := k
            have g36 := g4.trans (g5.trans g6)
            obtain ⟨eA, lM, eM⟩ := fin g36 e6
            subst eA
            have hA : (As1 ++ [Dd])[M1.length]? = some Dd := by rw [← hn]; simp
            obtain ⟨g0, o, h0, xs, rfl, rx⟩ := g36.sat.own _ _ _ hA eM (by intro z; cases z)
            refine ⟨xs, h0, by rw [rx.length]; exact hz, G6, acc ++ [x'], M6.take M1.length, lM, ?_, iv'⟩
            have W := g36.sat.write (o := .lst (xs ++ [v])) (m' := .li (acc ++ [x'])) hA eM (by intro z; cases z) ⟨_, rfl, rx.app (.one rv)⟩
            have eW : M6.set M1.length (.li (acc ++ [x'])) = M6.take M1.length ++ [.li (acc ++ [x'])] := by
              conv => lhs; rw [e6]
              rw [List.set_append_right _ _ (by omega), lM]
              simp
            rw [eW] at W
            exact Gr.back g1.sat (g2.trans (g3.trans ⟨W, g36.g, g36.p⟩))
    · have e : i = ds.length := by omega
      subst e
      obtain ⟨d1, d2, d3⟩ := done acc M2 iv
      exact .inl ⟨hst (Nat.le_refl _), hout g1.sat g2 d1 d2 d3 fun l M2 v As2 G2 H2 g' rv k => q l M2 v As2 G2 H2 (g1.trans g') rv k⟩⟩
theorem q_lcB {out : List D → Led → (Lo → Led → Prop) → Prop} (hout : OutOk out) {elt : Expr} {ifs : List Expr} {scope : Scope} {own : List (Str × Nat)} {is : List Nat} {ti : RI} {g : RG} {tt : RT} {te : RE} (hc : X.calm = true) (hN : X.N.Nodup) (ok : BlkOk X.N X.env.scope scope own) (his : ∀ j ∈ is, j ∈ own.map (·.2)) (hi : QI C X tg iter ti)
    (hg : ∀ (s : Shared) (H : Hp) (Cc : Addr) (cl : List (Str × Addr)) (fp : List Addr), QG C (X.blk s H scope (compEnvC scope cl Cc X.env) fp) tg is g) (ht : ∀ (s : Shared) (H : Hp) (Cc : Addr) (cl : List (Str × Addr)) (fp : List Addr), PTs (X.blk s H scope (compEnvC scope cl Cc X.env) fp) ifs (UT C tt))
    (he : ∀ (s : Shared) (H : Hp) (Cc : Addr) (cl : List (Str × Addr)) (fp : List Addr), QE C (X.blk s H scope (compEnvC scope cl Cc X.env) fp) elt te) (hs : ∀ x, foldedSetIterable iter X.env x = pure x := by intro _; rfl) :
    QE C X (.ListComp elt [⟨tg, iter, ifs, 0⟩] scope pos) (rLcB out ti g tt te (own.map (·.2))) :=
  PE.imp (pe_lc hc hN hi ok hg ht he hs) (up_lc hout his)
/-- name = [..] on one line, the name a plain local -/
theorem q_setLcB {out : List D → Led → (Lo → Led → Prop) → Prop} (hout : OutOk out) (i : Nat) {y : Str} {py spos : Pos} {elt : Expr} {ifs : List Expr} {scope : Scope} {own : List (Str × Nat)} {is : List Nat} {ti : RI} {g : RG} {tt : RT} {te : RE} (hc : X.calm = true) (hN : X.N.Nodup)
    (hsw : swapsWith (.ListComp elt [⟨tg, iter, ifs, 0⟩] scope pos) (some (.Name y py)) spos.line X.env = pure true) (ok : BlkOk X.N X.env.scope scope own) (his : ∀ j ∈ is, j ∈ own.map (·.2)) (hi : QI C X tg iter ti)
    (hg : ∀ (s : Shared) (H : Hp) (Cc : Addr) (cl : List (Str × Addr)) (fp : List Addr), QG C (X.blk s H scope (compEnvC scope cl Cc X.env) fp) tg is g) (ht : ∀ (s : Shared) (H : Hp) (Cc : Addr) (cl : List (Str × Addr)) (fp : List Addr), PTs (X.blk s H scope (compEnvC scope cl Cc X.env) fp) ifs (UT C tt))
    (he : ∀ (s : Shared) (H : Hp) (Cc : Addr) (cl : List (Str × Addr)) (fp : List Addr), QE C (X.blk s H scope (compEnvC scope cl Cc X.env) fp) elt te) (hy : X.N[i]? = some y := by rfl) (hyl : X.env.scope.names.lookup y = some .local := by rfl) (hs : ∀ x, foldedSetIterable iter X.env x = pure x := by intro _; rfl) :
    QS C X (.Assign [.Name y py] (.ListComp elt [⟨tg, iter, ifs, 0⟩] scope pos) spos) (rAsg (rLcB out ti g tt te (own.map (·.2))) (rName i)) :=
  PS.imp (ps_setLc hc hN hy hyl hsw hi ok hg ht he hs) fun D σ H ⟨As, G, Γ, M, N, S, t, f⟩ =>
    up_lc hout his σ H _ ⟨As, G, Γ, M, _, S, t, fun l M' v As' G' H' g1 rv k => f.nx _ _ _ _ _ _ (g1.w.trans ⟨g1.sat.set rv, Same.refl _⟩) k⟩
theorem q_tnil {X : Cx} : PTs X [] (UT C fun _ M K => K true M) := ⟨fun pins s σ H Q I ⟨As, G, Γ, M, K, S, t, q⟩ => (pts_nil (X := X)).run pins s σ H Q I (q _ _ _ _ _ (Gr.refl S) t)⟩
def rYes : RT := fun _ M K => K true M
end
end Dl
set_option Elab.async false
set_option maxRecDepth 100000
set_option maxHeartbeats 1000000
namespace L2
open PySem PySem.Spec PyProof.Rows
theorem tuple_mul1 (l : Addr) (items : Array Value) (n : Nat) (dd : Option Addr) (sl : Array (Option Value)) (u : Tok) :
    Meets (Builtin.«tuple.__mul__» ⟨[.ref l, .int 1 u], []⟩) (fun _ R s => s.heap.get? l = some { cls := .type "tuple", dict := dd, data := .seq items n, slots := sl } ∧
      R (.ok (.ret (Value.ref l))) s) :=
  .of_wp fun prog w A R s h => by
    obtain ⟨hp, g, d, tk, os⟩ := s
    obtain ⟨hl, h⟩ := h
    have f1 := AutoSeq1.idx_int
    have c1 : (items.isEmpty || (1 : Int) == 1) = true := by simp
    wp_walk using wpAny_loadPart' hl
    repeat (first
      | (refine wpAny_ite_false (decide_eq_false (by decide)) ?_; wp_walk using wpAny_loadPart' hl)
      | (refine wpAny_ite_true (decide_eq_true c1) ?_; wp_walk using wpAny_loadPart' hl))
    exact ⟨_, rfl, h⟩
def rRep1 (K : PySem.W.Frag) : R2 := fun x y H Q => ∃ l xs, x = .ref l ∧ y = .int 1 ∧ SqT K H l xs ∧ Q (.ref l) H
theorem op_rep1 {X : Cx} : OpR X (binaryOp .Mult) (rRep1 X.K) := by
  intro pins s σ H x y v u Q I rx ry h
  obtain ⟨l, xs, rfl, rfl, hT, q⟩ := h
  cases rx
  obtain ⟨t, rfl⟩ := ry
  obtain ⟨its, r, ⟨⟨cls, dd, data, sl⟩, ho, hc, n, hd⟩, hs⟩ := I.tuple hT
  simp only at hc hd
  subst hc hd
  refine wpAny_binaryOp_repeat_ref (T := "tuple") (U := "int") (by decide) ⟨_, ho, rfl⟩ (fun s' => typeIs_int s' 1 t) noFill_tuple_mul F.fills_int_mul F.slot_int_rmul repeat_tuple F.slot_int_index.lookup
    (call_meets F.slot_int_rmul (typeIs_int s 1 t) F.entry_int_rmul (F.args_int_rmul_2 _ _) (int_rmul_tuple 1 t l its.toArray n dd sl)
      ⟨ho, rfl, ⟨_, ho, rfl⟩, call_meets F.slot_tuple_mul ⟨_, ho, rfl⟩ F.entry_tuple_mul (F.args_tuple_mul_2 _ _) (tuple_mul1 l its.toArray n dd sl t) ⟨ho, ?_⟩⟩)
  exact ⟨.ref l, H, I, rfl, q⟩
end L2
set_option Elab.async false
set_option maxRecDepth 100000
set_option maxHeartbeats 1000000
namespace Dl
open PySem L2
abbrev Hand := List D → Led → (Lo → Led → Prop) → Prop
def OutN (out : Hand) : Prop := ∀ {C : Fc} {As : List Addr} {G H : Hp} {p : Addr} {Γ : Gam} {M : Led} {σ : L2.St} {xs : List V} {ds : List D} {K : Lo → Led → Prop} {Q : VK}, Sat C As G H Γ M σ → H p = none → RpL C.K G xs ds → out ds M K →
  (∀ (l : Lo) (M2 : Led) (v : V) (As2 : List Addr) (G2 H2 : Hp), Gr C As G As2 G2 H2 Γ M2 σ → LRp C.K As2 G2 v l → K l M2 → Q v H2) → Q (.ref p) (upd H p (.lst xs))
theorem outF_new : OutN outF := fun {C As G H p Γ M σ xs ds K Q} S hp r ho q => q (.im (.lst ds)) M _ As _ _ (Gr.frz S hp) (rp_new_l S hp r) ho
theorem outO_new : OutN outO := fun {C As G H p Γ M σ xs ds K Q} S hp r ho q => q (.ow M.length) _ _ _ _ _ (Gr.alloc (m := .li ds) S hp ⟨_, rfl, r⟩) (ow_new S) ho
/-- the datum that a place shows now -/
def snap (M : Led) : Lo → Option D
  | .im d => some d
  | .ow k => match M[k]? with
    | some (.li ds) => some (.lst ds)
    | some (.dc ks) => some (.dct ks)
    | _ => none
  | .tp _ => none
section
variable {C : Fc} {As : List Addr} {G H : Hp} {Γ : Gam} {M : Led} {σ : L2.St} {v : V} {l : Lo}
theorem Sat.snapL {ds : List D} (S : Sat C As G H Γ M σ) (r : LRp C.K As G v l) (h : snap M l = some (.lst ds)) : ∃ a xs, v = .ref a ∧ H a = some (.lst xs) ∧ RpL C.K G xs ds := by
  cases l with
  | tp _ => cases h
  | im d =>
    cases h
    cases r with
    | lst e rr => exact ⟨_, _, rfl, S.le _ _ e, rr⟩
  | ow k =>
    obtain ⟨a, ha, rfl⟩ := r
    simp only [snap] at h
    split at h
    · rename_i es e
      cases h
      obtain ⟨_, o, h0, xs, rfl, rx⟩ := S.own _ _ _ ha e (by intro z; cases z)
      exact ⟨a, xs, rfl, h0, rx⟩
    · cases h
    · cases h
theorem Sat.imT {ds : List D} (S : Sat C As G H Γ M σ) (r : LRp C.K As G v (.im (.tup ds))) : ∃ a xs, v = .ref a ∧ H a = some (.tup xs) ∧ RpL C.K G xs ds := by
  cases r with
  | tup e rr => exact ⟨_, _, rfl, S.le _ _ e, rr⟩
end
mutual
def D.pd : D → PyData
  | .non => .none
  | .bl b => .bool b
  | .int i => .int i
  | .str x => .str x
  | .lst ds => .list (D.pdL ds)
  | .tup ds => .tuple (D.pdL ds)
  | .ty _ => .none
  | .cl _ => .none
  | .kls _ => .none
  | .scr _ => .none
  | .dct _ => .none
  | .ins _ _ => .none
  | .exc _ _ => .none
def D.pdL : List D → List PyData
  | [] => []
  | d :: ds => d.pd :: D.pdL ds
end
mutual
def D.flat : D → Bool
  | .non => true
  | .bl _ => true
  | .int _ => true
  | .str _ => true
  | .lst ds => D.flatL ds
  | .tup ds => D.flatL ds
  | .ty _ => false
  | .cl _ => false
  | .kls _ => false
  | .scr _ => false
  | .dct _ => false
  | .ins _ _ => false
  | .exc _ _ => false
def D.flatL : List D → Bool
  | [] => true
  | d :: ds => d.flat && D.flatL ds
end
mutual
theorem Rp.dp {K : PySem.W.Frag} {G H : Hp} (e : Same G H) : ∀ {v : V} {d : D}, Rp K G v d → d.flat = true → Dp K H v d.pd
  | _, _, .non, _ => .non
  | _, _, .bl b, _ => .bl b
  | _, _, .int i, _ => .int i
  | _, _, .str x, _ => .str x
  | _, _, .lst h r, f => .lst (SqL.of (e _ _ h)) (RpL.dp e r f)
  | _, _, .tup h r, f => .tup (SqT.of (e _ _ h)) (RpL.dp e r f)
  | _, _, .ty n, f => by cases f
  | _, _, .cl n, f => by cases f
  | _, _, .kls n, f => by cases f
  | _, _, .scr n, f => by cases f
  | _, _, .dct _ _ _, f => by cases f
  | _, _, .ins _ _ _, f => by cases f
  | _, _, .exc0 _, f => by cases f
  | _, _, .excD _ _ _ _, f => by cases f
theorem RpL.dp {K : PySem.W.Frag} {G H : Hp} (e : Same G H) : ∀ {vs : List V} {ds : List D}, RpL K G vs ds → D.flatL ds = true → DpAll K H vs (D.pdL ds)
  | _, _, .nil, _ => .nil
  | _, _, .cons h r, f => by
    have f' := Bool.and_eq_true_iff.mp (show (_ && _) = true from f)
    exact .cons (Rp.dp e h f'.1) (RpL.dp e r f'.2)
end
/-- a datum whose == may be asked -/
def okd (d : D) : Bool := d.flat && SeqAt.shaped d.pd
theorem Sat.dp {C : Fc} {As : List Addr} {G H : Hp} {Γ : Gam} {M : Led} {σ : L2.St} {v : V} {l : Lo} {d : D} (S : Sat C As G H Γ M σ) (r : LRp C.K As G v l) (h : snap M l = some d) (f : d.flat = true) : Dp C.K H v d.pd := by
  cases l with
  | tp _ => cases h
  | im e =>
    cases h
    exact Rp.dp S.le r f
  | ow k =>
    obtain ⟨a, ha, rfl⟩ := r
    simp only [snap] at h
    split at h
    · rename_i es e
      cases h
      obtain ⟨_, o, h0, xs, rfl, rx⟩ := S.own _ _ _ ha e (by intro z; cases z)
      exact .lst (SqL.of h0) (RpL.dp S.le rx f)
    · cases h
      cases f
    · cases h
def eqk (a b : D) (k : Bool → Prop) : Prop := match a, b with
  | .int i, .int j => k (decide (i = j))
  | .str i, .str j => k (decide (i = j))
  | .bl i, .bl j => k (decide (i = j))
  | .non, .non => k true
  | a, b => okd a = true ∧ okd b = true ∧ k (PyData.eqv a.pd b.pd)
def oEqG (f : Bool → Bool) : R2L := fun x y M K => match snap M x, snap M y with
  | some a, some b => eqk a b fun r => K (.im (.bl (f r))) M
  | _, _ => False
abbrev oEq : R2L := oEqG id
abbrev oNe : R2L := oEqG not
def rEqU (K : PySem.W.Frag) : R2 := fun x y H Q => rEq x y H Q ∨ rEqD K x y H Q
def rNeU (K : PySem.W.Frag) : R2 := fun x y H Q => rNe x y H Q ∨ rNeD K x y H Q
theorem eqk_go {C : Fc} {As : List Addr} {G H : Hp} {Γ : Gam} {M : Led} {σ : L2.St} {x y : V} {lx ly : Lo} {a b : D} {f : Bool → Bool} {P : Bool → Prop} (S : Sat C As G H Γ M σ) (rx : LRp C.K As G x lx) (ry : LRp C.K As G y ly) (ha : snap M lx = some a) (hb : snap M ly = some b) (h : eqk a b P) :
    (scal x y = true ∧ P (decide (x = y))) ∨ ∃ d e, Dp C.K H x d ∧ Dp C.K H y e ∧ SeqAt.shaped d = true ∧ SeqAt.shaped e = true ∧ P (PyData.eqv d e) := by
  have im : ∀ {v : V} {l : Lo} {d : D}, LRp C.K As G v l → snap M l = some d → (∀ ds, d ≠ .lst ds) → (∀ ds, d ≠ .dct ds) → Rp C.K G v d := fun {v l d} r e n1 n2 => by
    cases l with
    | im d' => cases e; exact r
    | tp _ => cases e
    | ow k =>
      simp only [snap] at e
      split at e
      · cases e; exact absurd rfl (n1 _)
      · cases e; exact absurd rfl (n2 _)
      · cases e
  unfold eqk at h
  split at h
  · cases im rx ha (fun _ z => nomatch z) (fun _ z => nomatch z)
    cases im ry hb (fun _ z => nomatch z) (fun _ z => nomatch z)
    refine .inl ⟨rfl, ?_⟩
    rw [dec_int, Bool.beq_eq_decide_eq]
    exact h
  · cases im rx ha (fun _ z => nomatch z) (fun _ z => nomatch z)
    cases im ry hb (fun _ z => nomatch z) (fun _ z => nomatch z)
    refine .inl ⟨rfl, ?_⟩
    rw [dec_str]
    exact h
  · cases im rx ha (fun _ z => nomatch z) (fun _ z => nomatch z)
    cases im ry hb (fun _ z => nomatch z) (fun _ z => nomatch z)
    refine .inl ⟨rfl, ?_⟩
    rw [dec_bl, Bool.beq_eq_decide_eq]
    exact h
  · cases im rx ha (fun _ z => nomatch z) (fun _ z => nomatch z)
    cases im ry hb (fun _ z => nomatch z) (fun _ z => nomatch z)
    exact .inl ⟨rfl, by simpa using h⟩
  · obtain ⟨h1, h2, h3⟩ := h
    have f1 := Bool.and_eq_true_iff.mp h1
    have f2 := Bool.and_eq_true_iff.mp h2
    exact .inr ⟨_, _, S.dp rx ha f1.1, S.dp ry hb f2.1, f1.2, f2.2, h3⟩
theorem eqL {C : Fc} : OpL C (rEqU C.K) oEq := fun {As G H Γ M σ x y lx ly K Q} S rx ry t q => by
  unfold oEq oEqG at t
  split at t
  · rename_i a b e1 e2
    rcases eqk_go (f := id) S rx ry e1 e2 t with ⟨h1, h2⟩ | ⟨d, e, h1, h2, h3, h4, h5⟩
    · exact .inl ⟨h1, q (.im (.bl _)) M _ As G H (Gr.refl S) (Rp.bl _) h2⟩
    · exact .inr ⟨d, e, h1, h2, h3, h4, q (.im (.bl _)) M _ As G H (Gr.refl S) (Rp.bl _) h5⟩
  · exact t.elim
theorem neL {C : Fc} : OpL C (rNeU C.K) oNe := fun {As G H Γ M σ x y lx ly K Q} S rx ry t q => by
  unfold oNe oEqG at t
  split at t
  · rename_i a b e1 e2
    rcases eqk_go (f := not) S rx ry e1 e2 t with ⟨h1, h2⟩ | ⟨d, e, h1, h2, h3, h4, h5⟩
    · exact .inl ⟨h1, q (.im (.bl _)) M _ As G H (Gr.refl S) (Rp.bl _) h2⟩
    · exact .inr ⟨d, e, h1, h2, h3, h4, q (.im (.bl _)) M _ As G H (Gr.refl S) (Rp.bl _) h5⟩
  · exact t.elim
def oI (C : Int → Int → Prop) (g : Int → Int → D) : R2L := fun x y M K => match x, y with
  | .im (.int i), .im (.int j) => C i j ∧ K (.im (g i j)) M
  | _, _ => False
def oI0 (g : Int → Int → D) : R2L := fun x y M K => match x, y with
  | .im (.int i), .im (.int j) => K (.im (g i j)) M
  | _, _ => False
theorem oI0_case {g : Int → Int → D} {x y : Lo} {M : Led} {K : Lo → Led → Prop} (h : oI0 g x y M K) : ∃ i j, x = .im (.int i) ∧ y = .im (.int j) ∧ K (.im (g i j)) M := by
  unfold oI0 at h
  split at h
  · exact ⟨_, _, rfl, rfl, h⟩
  · exact h.elim
theorem oI_case {C : Int → Int → Prop} {g : Int → Int → D} {x y : Lo} {M : Led} {K : Lo → Led → Prop} (h : oI C g x y M K) : ∃ i j, x = .im (.int i) ∧ y = .im (.int j) ∧ C i j ∧ K (.im (g i j)) M := by
  unfold oI at h
  split at h
  · exact ⟨_, _, rfl, rfl, h.1, h.2⟩
  · exact h.elim
theorem liftI0 {C : Fc} {g : Int → Int → V} {g' : Int → Int → D} (h : ∀ i j G, Rp C.K G (g i j) (g' i j)) : OpL C (rI0 g) (oI0 g') := fun {As G H Γ M σ x y lx ly K Q} S rx ry t q => by
  obtain ⟨i, j, rfl, rfl, t⟩ := oI0_case t
  exact ⟨i, j, int_of rx, int_of ry, q (.im (g' i j)) M _ As G H (Gr.refl S) (h i j G) t⟩
theorem liftI {C : Fc} {P P' : Int → Int → Prop} {g : Int → Int → V} {g' : Int → Int → D} (hp : ∀ i j, P' i j → P i j) (h : ∀ i j G, Rp C.K G (g i j) (g' i j)) : OpL C (rI P g) (oI P' g') := fun {As G H Γ M σ x y lx ly K Q} S rx ry t q => by
  obtain ⟨i, j, rfl, rfl, c, t⟩ := oI_case t
  exact ⟨i, j, int_of rx, int_of ry, hp i j c, q (.im (g' i j)) M _ As G H (Gr.refl S) (h i j G) t⟩
abbrev oSub := oI0 fun i j => .int (i - j)
abbrev oLt := oI0 fun i j => .bl (decide (i < j))
abbrev oLe := oI0 fun i j => .bl (decide (i ≤ j))
abbrev oGt := oI0 fun i j => .bl (decide (j < i))
abbrev oGe := oI0 fun i j => .bl (decide (j ≤ i))
abbrev oMod := oI (fun _ j => 0 < j) fun i j => .int (i % j)
abbrev oDiv := oI (fun _ j => 0 < j ∧ j < 4611686018427387904) fun i j => .int (i / j)
def MulC (i j : Int) : Prop := (-18446744073709551616 < i ∧ i < 18446744073709551616) ∨ (-18446744073709551616 < j ∧ j < 18446744073709551616)
abbrev oShl := oI (fun i j => 0 ≤ j ∧ j ≤ 1000000 ∧ i.natAbs < 18446744073709551616) fun i j => .int (i * 2 ^ j.toNat)
section
variable {C : Fc}
theorem subL : OpL C (rI0 fun i j => .int (i - j)) oSub := liftI0 fun i j G => .int _
theorem ltL : OpL C (rI0 fun i j => .bl (decide (i < j))) oLt := liftI0 fun i j G => .bl _
theorem leL : OpL C (rI0 fun i j => .bl (decide (i ≤ j))) oLe := liftI0 fun i j G => .bl _
theorem gtL : OpL C (rI0 fun i j => .bl (decide (j < i))) oGt := liftI0 fun i j G => .bl _
theorem geL : OpL C (rI0 fun i j => .bl (decide (j ≤ i))) oGe := liftI0 fun i j G => .bl _
theorem modL : OpL C (rI (fun _ j => 0 < j) fun i j => .int (i % j)) oMod := liftI (fun _ _ h => h) fun i j G => .int _
theorem divL : OpL C (rI CDivW fun i j => .int (i / j)) oDiv := liftI (fun i j h => wide_div (b := 62) h.1 (by omega) (by decide) (by decide)) fun i j G => .int _
theorem shlL : OpL C (rI CPow fun i j => .int (i * 2 ^ j.toNat)) oShl := liftI (fun i j h => ⟨h.1, h.2.1, by have := h.2.2; omega⟩) fun i j G => .int _
end
def oNeg : R1L := fun x M K => match x with
  | .im (.int i) => K (.im (.int (-i))) M
  | _ => False
theorem negL {C : Fc} : UnL C (rU fun i => .int (-i)) oNeg := fun {As G H Γ M σ x lx K Q} S rx t q => by
  unfold oNeg at t
  split at t
  · exact ⟨_, int_of rx, q (.im (.int _)) M _ As G H (Gr.refl S) (Rp.int _) t⟩
  · exact t.elim
def oAdd (out : Hand) : R2L := fun x y M K => match x, y with
  | .im (.int i), .im (.int j) => K (.im (.int (i + j))) M
  | .im (.str a), .im (.str b) => a.length + b.length ≤ sizeLine ∧ K (.im (.str (a ++ b))) M
  | .im (.tup a), .im (.tup b) => a.length + b.length ≤ sizeLine ∧ K (.im (.tup (a ++ b))) M
  | x, y => match snap M x, snap M y with
    | some (.lst a), some (.lst b) => a.length + b.length ≤ sizeLine ∧ out (a ++ b) M K
    | _, _ => False
def rAddU (K : PySem.W.Frag) : R2 := fun x y H Q => rI0 (fun i j => .int (i + j)) x y H Q ∨ (∃ i j, x = .str i ∧ y = .str j ∧ i.length + j.length ≤ sizeLine ∧ Q (.str (i ++ j)) H) ∨ rCatA K x y H Q ∨ rCat x y H Q
theorem op_addU {X : Cx} : OpR X (binaryOp .Add) (rAddU X.K) := op_add.or (op_add_str.or (op_catA.or op_cat))
theorem addL {C : Fc} {out : Hand} (hout : OutN out) : OpL C (rAddU C.K) (oAdd out) := fun {As G H Γ M σ x y lx ly K Q} S rx ry t q => by
  unfold oAdd at t
  split at t
  · exact .inl ⟨_, _, int_of rx, int_of ry, q (.im (.int _)) M _ As G H (Gr.refl S) (Rp.int _) t⟩
  · exact .inr (.inl ⟨_, _, str_of rx, str_of ry, t.1, q (.im (.str _)) M _ As G H (Gr.refl S) (Rp.str _) t.2⟩)
  · rename_i a b
    obtain ⟨p1, xs, rfl, h1, r1⟩ := S.imT rx
    obtain ⟨p2, ys, rfl, h2, r2⟩ := S.imT ry
    refine .inr (.inr (.inl ⟨p1, p2, xs, ys, rfl, rfl, SqT.of h1, SqT.of h2, by rw [r1.length, r2.length]; exact t.1, ?_⟩))
    have im1 : Rp C.K G (.ref p1) (.tup a) := rx
    have im2 : Rp C.K G (.ref p2) (.tup b) := ry
    refine ⟨fun z => ?_, fun z1 z => ?_, fun z1 z2 p hp => ?_⟩
    · subst z
      cases r1
      exact q (.im (.tup _)) M _ As G H (Gr.refl S) im2 t.2
    · subst z
      cases r2
      refine q (.im (.tup _)) M _ As G H (Gr.refl S) ?_ t.2
      rw [List.append_nil]
      exact im1
    · exact q (.im (.tup _)) M _ As _ _ (Gr.frz S hp) (rp_new_t S hp (r1.app r2)) t.2
  · split at t
    · rename_i a b e1 e2
      obtain ⟨p1, xs, rfl, h1, r1⟩ := S.snapL rx e1
      obtain ⟨p2, ys, rfl, h2, r2⟩ := S.snapL ry e2
      exact .inr (.inr (.inr ⟨p1, p2, xs, ys, rfl, rfl, h1, h2, by rw [r1.length, r2.length]; exact t.1, fun p hp => hout S hp (r1.app r2) t.2 q⟩))
    · exact t.elim
/-- * of ints (one of them small), a list or a tuple times an int -/
def oMul (out : Hand) : R2L := fun x y M K => match x, y with
  | .im (.int i), .im (.int j) => MulC i j ∧ K (.im (.int (i * j))) M
  | .im (.tup a), .im (.int k) => a ≠ [] ∧ 1 ≤ k ∧ k ≤ 1000 ∧ a.length ≤ 1000 ∧ K (.im (.tup (List.replicate k.toNat a).flatten)) M
  | x, .im (.int k) => match snap M x with
    | some (.lst a) => -9223372036854775808 ≤ k ∧ k < 9223372036854775808 ∧ a.length * k.toNat ≤ sizeLine ∧ out (List.replicate k.toNat a).flatten M K
    | _ => False
  | _, _ => False
def rMulU (K : PySem.W.Frag) : R2 := fun x y H Q => rI CMul (fun i j => .int (i * j)) x y H Q ∨ rRepT K x y H Q ∨ rRep x y H Q ∨ rRep1 K x y H Q
theorem op_mulU {X : Cx} : OpR X (binaryOp .Mult) (rMulU X.K) := op_mul.or (op_repT.or (op_rep.or op_rep1))
theorem mulL {C : Fc} {out : Hand} (hout : OutN out) : OpL C (rMulU C.K) (oMul out) := fun {As G H Γ M σ x y lx ly K Q} S rx ry t q => by
  unfold oMul at t
  split at t
  · exact .inl ⟨_, _, int_of rx, int_of ry, by have := t.1; unfold MulC at this; unfold CMul; omega, q (.im (.int _)) M _ As G H (Gr.refl S) (Rp.int _) t.2⟩
  · rename_i av kv
    obtain ⟨p1, xs, rfl, h1, r1⟩ := S.imT rx
    obtain ⟨t1, t2, t3, t4, t5⟩ := t
    by_cases hk : 2 ≤ kv
    · refine .inr (.inl ⟨p1, _, xs, rfl, int_of ry, SqT.of h1, ?_, hk, t3, by rw [r1.length]; exact t4, fun p hp => q (.im (.tup _)) M _ As _ _ (Gr.frz S hp) (rp_new_t S hp (r1.rep _)) t5⟩)
      intro z
      subst z
      cases r1
      exact t1 rfl
    · have e1 : kv = (1 : Int) := Int.le_antisymm (by omega) t2
      subst e1
      refine .inr (.inr (.inr ⟨p1, xs, rfl, int_of ry, SqT.of h1, q (.im (.tup _)) M _ As G H (Gr.refl S) ?_ t5⟩))
      rw [show (List.replicate (Int.toNat 1) av).flatten = av by simp]
      exact rx
  · split at t
    · rename_i a e1
      obtain ⟨p1, xs, rfl, h1, r1⟩ := S.snapL rx e1
      exact .inr (.inr (.inl ⟨p1, _, xs, rfl, int_of ry, h1, by omega, by omega, by rw [r1.length]; exact t.2.2.1, fun p hp => hout S hp (r1.rep _) t.2.2.2 q⟩))
    · exact t.elim
  · exact t.elim
/-- a written power -/
theorem cpowL {C : Fc} {X : Cx} {b e c : Int} {k k' : Nat} {p p' pos : Pos} (h : b ^ e.toNat = c := by decide) (h0 : 0 ≤ e ∧ e ≤ 1000000 ∧ b.natAbs < 18446744073709551616 := by decide) : QE C X (.BinOp (.Constant (.int b) k p) .Pow (.Constant (.int e) k' p') pos) (rCon (.int c)) :=
  PE.imp (pe_op op_pow pe_int pe_int) fun σ H Q ⟨As, G, Γ, M, K, S, t, q⟩ => ⟨b, e, rfl, rfl, ⟨h0.1, h0.2.1, by have := h0.2.2; omega⟩, by
    show Q (.int (b ^ e.toNat)) H
    rw [h]
    exact q (.im (.int c)) M _ As G H (Gr.refl S) (Rp.int _) t⟩
/-- the flat data -/
def D.flt : D → Bool
  | .non => true
  | .bl _ => true
  | .int _ => true
  | .str _ => true
  | _ => false
def D.toV : D → V
  | .non => .non
  | .bl b => .bl b
  | .int i => .int i
  | .str x => .str x
  | _ => .non
theorem Rp.flt {K : PySem.W.Frag} {G : Hp} {v : V} {d : D} (r : Rp K G v d) (h : d.flt = true) : v = d.toV ∧ flatV v = true := by
  cases r <;> first | exact ⟨rfl, rfl⟩ | cases h
theorem RpL.flt {K : PySem.W.Frag} {G : Hp} {vs : List V} {ds : List D} (r : RpL K G vs ds) (h : ds.all D.flt = true) : vs = ds.map D.toV ∧ vs.all flatV = true := by
  induction ds generalizing vs with
  | nil => cases r; exact ⟨rfl, rfl⟩
  | cons d ds ih =>
    cases r with
    | cons r1 r2 =>
      rw [List.all_cons, Bool.and_eq_true] at h
      obtain ⟨e1, f1⟩ := r1.flt h.1
      obtain ⟨e2, f2⟩ := ih r2 h.2
      rw [List.map_cons, ← e1, ← e2, List.all_cons, f1, f2]
      exact ⟨rfl, rfl⟩
def inD (d : D) (ds : List D) : Bool := inV d.toV (ds.map D.toV)
def seqOf (M : Led) (l : Lo) : Option (List D) := match l with
  | .im (.tup ds) => some ds
  | l => match snap M l with
    | some (.lst ds) => some ds
    | _ => none
theorem Sat.seq {C : Fc} {As : List Addr} {G H : Hp} {Γ : Gam} {M : Led} {σ : L2.St} {v : V} {l : Lo} {ds : List D} (S : Sat C As G H Γ M σ) (r : LRp C.K As G v l) (h : seqOf M l = some ds) : ∃ a xs, v = .ref a ∧ (SqL C.K H a xs ∨ SqT C.K H a xs) ∧ RpL C.K G xs ds := by
  unfold seqOf at h
  split at h
  · cases h
    obtain ⟨a, xs, e, h1, h2⟩ := S.imT r
    exact ⟨a, xs, e, .inr (SqT.of h1), h2⟩
  · split at h
    · rename_i es e
      cases h
      obtain ⟨a, xs, e, h1, h2⟩ := S.snapL r e
      exact ⟨a, xs, e, .inl (SqL.of h1), h2⟩
    · cases h
def oIn (neg : Bool) : R2L := fun x y M K => match x with
  | .im d => match seqOf M y with
    | some ds => d.flt = true ∧ ds.all D.flt = true ∧ K (.im (.bl (if neg then !inD d ds else inD d ds))) M
    | none => False
  | _ => False
theorem inL {C : Fc} {neg : Bool} : OpL C (rIn C.K neg) (oIn neg) := fun {As G H Γ M σ x y lx ly K Q} S rx ry t q => by
  unfold oIn at t
  split at t
  · split at t
    · rename_i d ds e
      obtain ⟨a, xs, rfl, h1, h2⟩ := S.seq ry e
      obtain ⟨e1, f1⟩ := Rp.flt rx t.1
      obtain ⟨e2, f2⟩ := h2.flt t.2.1
      refine ⟨a, xs, rfl, h1, f1, f2, ?_⟩
      rw [e1, e2]
      exact q (.im (.bl _)) M _ As G H (Gr.refl S) (Rp.bl _) t.2.2
    · exact t.elim
  · exact t.elim
def oIx : R2L := fun x y M K => match x, y with
  | .im (.str a), .im (.int i) => ∃ c, a.length ≤ sizeLine ∧ atI a.cps.toList i = some c ∧ K (.im (.str ⟨#[c]⟩)) M
  | .im (.tup ds), .im (.int i) => ∃ d, atI ds i = some d ∧ K (.im d) M
  | .im (.lst ds), .im (.int i) => ∃ d, atI ds i = some d ∧ K (.im d) M
  | .im (.scr ns), .im (.int i) => ∃ d, atI ns i = some d ∧ K (.im (.int d)) M
  | .ow k, .im (.int i) => match M[k]? with
    | some (.li ds) => ∃ d, atI ds i = some d ∧ K (.im d) M
    | some (.ls ls) => ∃ l, atI ls i = some l ∧ K l M
    | _ => False
  | .tp ls, .im (.int i) => ∃ l, atI ls i = some l ∧ K l M
  | _, _ => False
theorem RpL.atI {K : PySem.W.Frag} {G : Hp} {vs : List V} {ds : List D} {i : Int} {d : D} (r : RpL K G vs ds) (h : atI ds i = some d) : ∃ v, L2.atI vs i = some v ∧ Rp K G v d := by
  unfold L2.atI at h ⊢
  rw [← r.length] at h
  cases e : ixN vs.length i with
  | none => rw [e] at h; cases h
  | some j =>
    rw [e] at h
    exact r.get h
theorem LRpL.atI {K : PySem.W.Frag} {As : List Addr} {G : Hp} {vs : List V} {ds : List Lo} {i : Int} {d : Lo} (r : LRpL K As G vs ds) (h : atI ds i = some d) : ∃ v, L2.atI vs i = some v ∧ LRp K As G v d := by
  unfold L2.atI at h ⊢
  rw [← r.length] at h
  cases e : ixN vs.length i with
  | none => rw [e] at h; cases h
  | some j =>
    rw [e] at h
    exact r.get h
theorem atI_map {α β : Type} {f : α → β} {xs : List α} {i : Int} : L2.atI (xs.map f) i = (L2.atI xs i).map f := by
  unfold L2.atI
  rw [List.length_map]
  cases e : ixN xs.length i with
  | none => rfl
  | some j =>
    show (xs.map f)[j]? = (xs[j]?).map f
    rw [List.getElem?_map]
theorem ixL {C : Fc} : OpL C (rIx C.K) oIx := fun {As G H Γ M σ x y lx ly K Q} S rx ry t q => by
  unfold oIx at t
  split at t
  · obtain ⟨c, h1, h2, h3⟩ := t
    exact .inr (.inr ⟨_, _, c, str_of rx, int_of ry, h1, h2, q (.im (.str _)) M _ As G H (Gr.refl S) (Rp.str _) h3⟩)
  · obtain ⟨d, h1, h2⟩ := t
    obtain ⟨a, xs, rfl, h3, r⟩ := S.imT rx
    obtain ⟨v, h4, h5⟩ := r.atI h1
    exact .inr (.inl ⟨a, xs, _, v, rfl, int_of ry, SqT.of h3, h4, q (.im d) M _ As G H (Gr.refl S) h5 h2⟩)
  · obtain ⟨d, h1, h2⟩ := t
    obtain ⟨a, xs, rfl, h3, r⟩ := S.snapL rx rfl
    obtain ⟨v, h4, h5⟩ := r.atI h1
    exact .inl ⟨a, xs, _, v, rfl, int_of ry, SqL.of h3, h4, q (.im d) M _ As G H (Gr.refl S) h5 h2⟩
  · obtain ⟨d, h1, h2⟩ := t
    cases rx with
    | scr h =>
      obtain ⟨v, h4, h5⟩ := (RpL.of_ints (K := C.K) (G := G) _).atI (d := .int d) (by rw [atI_map, h1]; rfl)
      exact .inl ⟨_, _, _, v, rfl, int_of ry, same_l S.le h, h4, q (.im (.int d)) M _ As G H (Gr.refl S) h5 h2⟩
  · rename_i k i
    obtain ⟨a, ha, rfl⟩ := rx
    split at t
    · rename_i ds e
      obtain ⟨d, h1, h2⟩ := t
      obtain ⟨_, o, h0, xs, rfl, r⟩ := S.own _ _ _ ha e (by intro z; cases z)
      obtain ⟨v, h4, h5⟩ := r.atI h1
      exact .inl ⟨a, xs, _, v, rfl, int_of ry, SqL.of h0, h4, q (.im d) M _ As G H (Gr.refl S) h5 h2⟩
    · rename_i ds e
      obtain ⟨d, h1, h2⟩ := t
      obtain ⟨_, o, h0, xs, rfl, r⟩ := S.own _ _ _ ha e (by intro z; cases z)
      obtain ⟨v, h4, h5⟩ := r.atI h1
      exact .inl ⟨a, xs, _, v, rfl, int_of ry, SqL.of h0, h4, q d M _ As G H (Gr.refl S) h5 h2⟩
    · exact t.elim
  · obtain ⟨d, h1, h2⟩ := t
    obtain ⟨a, xs, rfl, h3, r⟩ := rx
    obtain ⟨v, h4, h5⟩ := r.l.atI h1
    exact .inr (.inl ⟨a, xs, _, v, rfl, int_of ry, SqT.of (S.le _ _ h3), h4, q d M _ As G H (Gr.refl S) h5 h2⟩)
  · exact t.elim
section
variable {C : Fc} {X : Cx} {a b c e : Expr} {ta tb te : RE} {pos p2 : Pos}
theorem q_ix (hK : C.K = X.K) (ha : QE C X a ta) (hb : QE C X b tb) (hs : PlainIx b := by exact fun _ _ => rfl) : QE C X (.Subscript a b pos) (qOp oIx ta tb) := PE.imp (pe_ix ix_seq ha hb hs) (hK ▸ up_op ixL)
abbrev RO := Gam → Led → (Option Int → Led → Prop) → Prop
def UO (C : Fc) (t : RO) : TO := fun σ H Q => ∃ (As : List Addr) (G : Hp) (Γ : Gam) (M : Led) (K : Option Int → Led → Prop), Sat C As G H Γ M σ ∧ t Γ M K ∧
  ∀ (b : Option Int) (M' : Led) (As' : List Addr) (G' H' : Hp), Gr C As G As' G' H' Γ M' σ → K b M' → Q b H'
def QO (C : Fc) (X : Cx) (e : Option Expr) (t : RO) : Prop := PO X e (UO C t)
theorem PO.imp {X : Cx} {e : Option Expr} {t u : TO} (h : PO X e t) (i : ∀ σ H Q, u σ H Q → t σ H Q) : PO X e u := ⟨fun pins s σ H Q I q => h.run pins s σ H Q I (i σ H Q q)⟩
def rONone : RO := fun _ M K => K none M
def rOSome (te : RE) : RO := fun Γ M K => te Γ M fun l M1 => match l with
  | .im (.int i) => K (some i) M1
  | _ => False
theorem q_onone : QO C X none rONone := PO.imp po_none fun σ H Q ⟨As, G, Γ, M, K, S, t, q⟩ => q _ M As G H (Gr.refl S) t
theorem q_osome (he : QE C X e te) : QO C X (some e) (rOSome te) := PO.imp (po_some he) fun σ H Q ⟨As, G, Γ, M, K, S, t, q⟩ => ⟨As, G, Γ, M, _, S, t, fun l M1 v As1 G1 H1 g1 rv t1 => by
  split at t1
  · exact ⟨_, int_of rv, q _ M1 As1 G1 H1 g1 t1⟩
  · exact t1.elim⟩
def cutD (ds : List D) (lo hi : Option Int) : List D := (ds.drop (HT.sIx ds.length 0 lo)).take (HT.sIx ds.length ds.length hi - HT.sIx ds.length 0 lo)
theorem RpL.cut {K : PySem.W.Frag} {G : Hp} {vs : List V} {ds : List D} (r : RpL K G vs ds) (lo hi : Option Int) : RpL K G (cutV vs lo hi) (cutD ds lo hi) := by
  unfold cutV cutD
  rw [r.length]
  exact (r.drop _).take _
def rSl (out : Hand) (te : RE) (tl th : RO) : RE := fun Γ M K => te Γ M fun x M1 => tl Γ M1 fun lo M2 => th Γ M2 fun hi M3 => match x with
  | .im (.tup ds) => K (.im (.tup (cutD ds lo hi))) M3
  | .im (.scr ns) => out (cutD (ns.map D.int) lo hi) M3 K
  | x => match snap M3 x with
    | some (.lst ds) => out (cutD ds lo hi) M3 K
    | _ => False
theorem cutD_all {ds : List D} {lo hi : Option Int} (h : HT.sIx ds.length 0 lo = 0 ∧ HT.sIx ds.length ds.length hi = ds.length) : cutD ds lo hi = ds := by
  unfold cutD
  rw [h.1, h.2]
  simp
theorem q_slice {out : Hand} (hout : OutN out) (hK : C.K = X.K) {lo hi : Option Expr} {tl th : RO} (he : QE C X e te) (hl : QO C X lo tl) (hu : QO C X hi th) : QE C X (.Subscript e (.Slice lo hi none p2) pos) (rSl out te tl th) :=
  PE.imp (pe_slice (sl_list.or sl_tupA) he hl hu) fun σ H Q ⟨As, G, Γ, M, K, S, t, q⟩ => ⟨As, G, Γ, M, _, S, t, fun lx M1 x As1 G1 H1 g1 rx t1 => ⟨As1, G1, Γ, M1, _, g1.sat, t1, fun lo M2 As2 G2 H2 g2 t2 => ⟨As2, G2, Γ, M2, _, g2.sat, t2, fun hi M3 As3 G3 H3 g3 t3 => by
    have g := g1.trans (g2.trans g3)
    have rx := rx.mono (g2.g.trans g3.g) (g2.p.trans g3.p)
    rw [← hK]
    split at t3
    · rename_i ds
      obtain ⟨a, xs, rfl, h1, r⟩ := g3.sat.imT rx
      refine .inr ⟨a, xs, rfl, SqT.of h1, fun z => ?_, fun z p hp => ?_⟩
      · rw [r.length] at z
        rw [cutD_all z] at t3
        exact q (.im (.tup _)) M3 _ As3 G3 H3 g rx t3
      · exact q (.im (.tup _)) M3 _ As3 _ _ (g.trans (Gr.frz g3.sat hp)) (rp_new_t g3.sat hp (r.cut lo hi)) t3
    · cases rx with
      | scr h =>
        refine .inl ⟨_, _, rfl, same_l g3.sat.le h, fun p hp => hout g3.sat hp ((RpL.of_ints _).cut lo hi) t3 fun l M2 v As2 G2 H2 g4 rv k => q l M2 v As2 G2 H2 (g.trans g4) rv k⟩
    · split at t3
      · rename_i ds e
        obtain ⟨a, xs, rfl, h1, r⟩ := g3.sat.snapL rx e
        exact .inl ⟨a, xs, rfl, SqL.of h1, fun p hp => hout g3.sat hp (r.cut lo hi) t3 fun l M2 v As2 G2 H2 g4 rv k => q l M2 v As2 G2 H2 (g.trans g4) rv k⟩
      · exact t3.elim⟩⟩⟩
end
end Dl
set_option Elab.async false
set_option maxRecDepth 100000
set_option maxHeartbeats 1000000
namespace Dl
open PySem L2
structure Exn where
  C : String
  pl : Option (List (Str × D))
def ExRp (K : PySem.W.Frag) (G : Hp) (cls : Value) (d : Option Addr) (x : Exn) : Prop := cls = .ref (cn K x.C) ∧ match x.pl with
  | none => d = none
  | some fs => ∃ a fvs, d = some a ∧ G a = some (.xd fvs) ∧ fvs.map (·.1) = fs.map (·.1) ∧ RpL K G (fvs.map (·.2)) (fs.map (·.2))
theorem ExRp.mono {K : PySem.W.Frag} {G G' : Hp} {cls : Value} {d : Option Addr} {x : Exn} (e : Same G G') (h : ExRp K G cls d x) : ExRp K G' cls d x := by
  obtain ⟨C, pl⟩ := x
  cases pl with
  | none => exact h
  | some fs =>
    obtain ⟨h1, a, fvs, h2, h3, h4, h5⟩ := h
    exact ⟨h1, a, fvs, h2, e _ _ h3, h4, RpL.mono e h5⟩
abbrev EX := Exn → Gam → Led → Prop
/-- the wish about exceptions -/
def UW (C : Fc) (ex : EX) : WX := fun cls d σ H => ∃ (As : List Addr) (G : Hp) (Γ : Gam) (M : Led) (x : Exn), Sat C As G H Γ M σ ∧ ExRp C.K G cls d x ∧ ex x Γ M
def loc (is : List Nat) (k : Nat) : Nat := is.idxOf k
def ren (is : List Nat) (n : Nat) (j : Nat) : Nat := is.getD j (n + (j - is.length))
def renM (f : Nat → Nat) : MO → MO
  | .li ds => .li ds
  | .ls ls => .ls (ls.map (renL f))
  | .dc ks => .dc ks
  | .dm ks => .dm (ks.map fun p => (p.1, renL f p.2))
  | .ob C fs => .ob C (fs.map fun p => (p.1, renL f p.2))
  | .gone => .gone
  | .dl o kvs ks => .dl o kvs ks
def refM (P : Nat → Prop) : MO → Prop
  | .li _ => True
  | .ls ls => refLs P ls
  | .dc _ => True
  | .dm ks => refLs P (ks.map (·.2))
  | .ob _ fs => refLs P (fs.map (·.2))
  | .gone => True
  | .dl _ _ _ => True
def refMs (P : Nat → Prop) : Led → Prop
  | [] => True
  | m :: r => refM P m ∧ refMs P r
def pick (is : List Nat) (M : Led) : Led := is.map fun k => renM (loc is) (M.getD k .gone)
/-- the part may be taken out: its places differ, lie in the ledger, and nothing in it points elsewhere -/
def PickOk (is : List Nat) (M : Led) : Prop := is.Nodup ∧ (∀ k ∈ is, k < M.length) ∧ refMs (· ∈ is) (is.map fun k => M.getD k .gone)
section
variable {K : PySem.W.Frag} {As Au : List Addr} {G : Hp} {P : Nat → Prop} {f : Nat → Nat}
theorem LRpL.ren {vs : List V} {ls : List Lo} (hf : ∀ k a, P k → As[k]? = some a → Au[f k]? = some a) (r : LRpL K As G vs ls) : refLs P ls → LRpL K Au G vs (ls.map (renL f)) := by
  induction r with
  | nil => intro _; exact .nil
  | cons r _ ih => intro h; exact .cons (r.ren hf h.1) (ih h.2)
theorem map_snd {α : Type} (f : Nat → Nat) (ks : List (α × Lo)) : (ks.map fun p => (p.1, renL f p.2)).map (·.2) = (ks.map (·.2)).map (renL f) := by
  rw [List.map_map, List.map_map]
  rfl
theorem map_fst {α : Type} (f : Nat → Nat) (ks : List (α × Lo)) : (ks.map fun p => (p.1, renL f p.2)).map (·.1) = ks.map (·.1) := by
  rw [List.map_map]
  rfl
theorem MOis.ren {o : HO} {m : MO} (hf : ∀ k a, P k → As[k]? = some a → Au[f k]? = some a) (r : MOis K As G o m) (h : refM P m) : MOis K Au G o (renM f m) := by
  cases m with
  | li ds => exact r
  | ls ls => obtain ⟨xs, h1, h2⟩ := r; exact ⟨xs, h1, h2.ren hf h⟩
  | dc ks => exact r
  | dm ks => obtain ⟨xs, h1, h2, h3⟩ := r; exact ⟨xs, h1, by rw [map_fst]; exact h2, by rw [map_snd]; exact h3.ren hf h⟩
  | ob C fs => obtain ⟨dx, xs, h1, h2, h3⟩ := r; exact ⟨dx, xs, h1, by rw [map_fst]; exact h2, by rw [map_snd]; exact h3.ren hf h⟩
  | gone => trivial
  | dl _ _ _ => exact r
theorem refMs_get {M : Led} {k : Nat} {m : MO} (h : refMs P M) (e : M[k]? = some m) : refM P m := by
  induction M generalizing k with
  | nil => simp at e
  | cons x r ih =>
    cases k with
    | zero =>
      simp at e
      subst e
      exact h.1
    | succ k => exact ih h.2 (by simpa using e)
theorem renM_gone {f : Nat → Nat} {m : MO} (h : renM f m ≠ .gone) : m ≠ .gone := fun z => h (by rw [z]; rfl)
theorem idx_get {is : List Nat} {k : Nat} (h : k ∈ is) : is[loc is k]? = some k := by
  unfold loc
  induction is with
  | nil => simp at h
  | cons x r ih =>
    rw [List.idxOf_cons]
    by_cases e : x = k
    · subst e; simp
    · have hb : (x == k) = false := beq_eq_false_iff_ne.mpr e
      rw [hb]
      rcases List.mem_cons.mp h with z | z
      · exact absurd z.symm e
      · simpa using ih z
end
/-- the picked part as a state of its own, with another origin -/
theorem Sat.pick {C C' : Fc} {As : List Addr} {G H : Hp} {Γ : Gam} {M : Led} {σ : L2.St} {is : List Nat} (S : Sat C As G H Γ M σ) (ok : PickOk is M) (hK : C'.K = C.K) (hTb : C'.T = C.T) (hst : Stp C'.T C'.S C'.G0 C'.H0 G H)
    (hfr : ∀ a ∈ is.map (fun k => As.getD k 0), a ∈ C'.S ∨ C'.H0 a = none) (hS : C'.S <+: is.map (fun k => As.getD k 0)) (hb : Same C'.Gb G) (ha : C'.Ab <+: is.map (fun k => As.getD k 0)) :
    Sat C' (is.map fun k => As.getD k 0) G H [] (Dl.pick is M) [] ∧ ∀ k a, k ∈ is → As[k]? = some a → (is.map fun k => As.getD k 0)[loc is k]? = some a := by
  obtain ⟨nd, lt, rf⟩ := ok
  have back : ∀ k a, k ∈ is → As[k]? = some a → (is.map fun k => As.getD k 0)[loc is k]? = some a := fun k a hk e => by
    rw [List.getElem?_map, idx_get hk]
    show some (As.getD k 0) = some a
    rw [List.getD_eq_getElem?_getD, e]
    rfl
  have memA : ∀ k, k ∈ is → ∃ a, As[k]? = some a ∧ As.getD k 0 = a := fun k hk => by
    have hl : k < As.length := by rw [S.al]; exact lt k hk
    exact ⟨As[k], by simp [hl], by simp [hl]⟩
  refine ⟨⟨S.le, hst, fun j a m e1 e2 e3 => ?_, hfr, ?_, by simp [Dl.pick], hS, fun a ha => ?_, fun i l e => by simp at e, rfl, hb, ha, fun P q e => ⟨fun z => ?_, (S.tb P q (hTb ▸ e)).2⟩⟩, back⟩
  · rw [List.getElem?_map] at e1
    unfold Dl.pick at e2
    rw [List.getElem?_map] at e2
    cases ej : is[j]? with
    | none => rw [ej] at e1; cases e1
    | some k =>
      rw [ej] at e1 e2
      have hk : k ∈ is := List.mem_of_getElem? ej
      obtain ⟨a', h1, h2⟩ := memA k hk
      have ea : a' = a := by
        have := Option.some.inj e1
        rw [← h2]
        exact this
      subst ea
      have em : renM (loc is) (M.getD k .gone) = m := Option.some.inj e2
      have hkM : M[k]? = some (M.getD k .gone) := by
        have hl := lt k hk
        simp [hl]
      rw [← em] at e3
      obtain ⟨g1, o, g2, g3⟩ := S.own k a' _ h1 hkM (renM_gone e3)
      have rm : refM (· ∈ is) (M.getD k .gone) := refMs_get (k := j) rf (by rw [List.getElem?_map, ej]; rfl)
      refine ⟨g1, o, g2, ?_⟩
      rw [← em, hK]
      exact g3.ren back rm
  · -- no address twice
    have go : ∀ l : List Nat, l.Nodup → (∀ k ∈ l, k < M.length) → (l.map fun k => As.getD k 0).Nodup := fun l => by
      induction l with
      | nil => intro _ _; exact List.nodup_nil
      | cons x r ih =>
        intro h1 h2
        obtain ⟨n1, n2⟩ := List.nodup_cons.mp h1
        rw [List.map_cons, List.nodup_cons]
        refine ⟨fun hm => ?_, ih n2 fun k hk => h2 k (List.mem_cons_of_mem _ hk)⟩
        obtain ⟨y, hy, e⟩ := List.mem_map.mp hm
        have lx : x < As.length := by rw [S.al]; exact h2 x List.mem_cons_self
        have ly : y < As.length := by rw [S.al]; exact h2 y (List.mem_cons_of_mem _ hy)
        have ex : As[x]? = some (As.getD x 0) := by simp [lx]
        have ey : As[y]? = some (As.getD x 0) := by rw [← e]; simp [ly]
        exact n1 (nodup_ix2 S.inj ex ey ▸ hy)
    exact go is nd lt
  · obtain ⟨k, hk, rfl⟩ := List.mem_map.mp ha
    obtain ⟨a', h1, h2⟩ := memA k hk
    rw [h2]
    exact S.there a' (List.mem_of_getElem? h1)
  · obtain ⟨k, hk, e2⟩ := List.mem_map.mp z
    obtain ⟨a', h1, h2⟩ := memA k hk
    exact (S.tb P q (hTb ▸ e)).1 (by rw [← e2, h2]; exact List.mem_of_getElem? h1)
abbrev DSp := List Lo → Led → (Lo → Led → Prop) → (Exn → Led → Prop) → Prop
abbrev Fc.of (T : Tbs) (K : PySem.W.Frag) (As : List Addr) (G H : Hp) : Fc := ⟨K, As, G, H, As, G, T⟩
structure Gn (T : Tbs) (P : Program) (w : World) (K : PySem.W.Frag) (mg : Str → Option Value) (base : Heap) (k : Nat) (f : Addr) (fd : FuncData) (ps : List Str) (sp : DSp) : Prop where
  len : ∀ ls M Kd Ed, sp ls M Kd Ed → ls.length = ps.length
  run : ∀ (A : Around) (outer : List Env) (s : Shared) (H : Hp) (args : Args) (us : List Value) (vs : List V) (Q : VK) (E : XK) (As : List Addr) (G : Hp) (ls : List Lo) (M : Led) (Kd : Lo → Led → Prop) (Ed : Exn → Led → Prop),
    Room k A → A.guards = some [] → Env0 P w K mg base A outer s H → BindsTo s fd args (ps.zip us) → Vals vs us → Sat (.of T K As G H) As G H [] M [] → LRpL K As G vs ls → sp ls M Kd Ed →
    (∀ (l : Lo) (M' : Led) (v : V) (As' : List Addr) (G' H' : Hp), Sat (.of T K As G H) As' G' H' [] M' [] → LRp K As' G' v l → Kd l M' → Q v H') →
    (∀ (x : Exn) (M' : Led) (cls : Value) (d : Option Addr) (As' : List Addr) (G' H' : Hp), Sat (.of T K As G H) As' G' H' [] M' [] → ExRp K G' cls d x → Ed x M' → E cls d H') →
    codeAny (model P w) A (.call (.ref f) args) (CR (L2.CX P w) outer P w H s Q E) s
theorem Gn.mono {T : Tbs} {P : Program} {w : World} {K : PySem.W.Frag} {mg : Str → Option Value} {base : Heap} {j k : Nat} {f : Addr} {fd : FuncData} {ps : List Str} {sp : DSp} (F : Gn T P w K mg base j f fd ps sp) (h : j ≤ k) : Gn T P w K mg base k f fd ps sp :=
  ⟨F.len, fun A outer s H args us vs Q E As G ls M Kd Ed hr => F.run A outer s H args us vs Q E As G ls M Kd Ed (hr.mono h)⟩
/-- what is handed back, and what is kept of the ledger -/
def Back (m : Nat) (Kd : Lo → Led → Prop) (l : Lo) (M : Led) : Prop := ∃ keep : List Nat, keep.take m = List.range m ∧ PickOk keep M ∧ refL (· ∈ keep) l ∧ Kd (renL (loc keep) l) (pick keep M)
def BackX (m : Nat) (Ed : Exn → Led → Prop) (x : Exn) (M : Led) : Prop := ∃ keep : List Nat, keep.take m = List.range m ∧ PickOk keep M ∧ Ed x (pick keep M)
theorem keep_pre {m : Nat} {keep : List Nat} {As As' : List Addr} (hm : As.length = m) (hp : As <+: As') (hk : keep.take m = List.range m) : As <+: keep.map fun k => As'.getD k 0 := by
  refine ⟨(keep.drop m).map fun k => As'.getD k 0, ?_⟩
  conv => rhs; rw [← List.take_append_drop m keep, List.map_append, hk]
  congr 1
  refine List.ext_getElem? fun i => ?_
  rw [List.getElem?_map]
  by_cases hi : i < m
  · have e : As[i]? = some As[i] := by simp [hm, hi]
    rw [List.getElem?_range hi, e]
    show _ = some (As'.getD i 0)
    rw [List.getD_eq_getElem?_getD, pre_get hp e]
    rfl
  · rw [List.getElem?_eq_none (by omega), List.getElem?_eq_none (by rw [List.length_range]; omega)]
    rfl
section
variable {T : Tbs} {P : Program} {w : World} {K : PySem.W.Frag} {mg : Str → Option Value} {base : Heap}
def gam0 (N : List Str) (ls : List Lo) : Gam := ls.map some ++ List.replicate (N.length - ls.length) none
theorem gam0_ok {K : PySem.W.Frag} {As : List Addr} {G : Hp} {vs : List V} {ls : List Lo} {N : List Str} (r : LRpL K As G vs ls) (i : Nat) (l : Lo) (e : (gam0 N ls)[i]? = some (some l)) : ∃ v, (L2.start N vs)[i]? = some (some v) ∧ LRp K As G v l := by
  unfold gam0 at e
  by_cases hi : i < ls.length
  · rw [List.getElem?_append_left (by simpa using hi), List.getElem?_map] at e
    cases e1 : ls[i]? with
    | none => rw [e1] at e; cases e
    | some l' =>
      rw [e1] at e
      cases e
      obtain ⟨v, h1, h2⟩ := r.get e1
      refine ⟨v, ?_, h2⟩
      unfold L2.start
      rw [List.getElem?_append_left (by rw [List.length_map, r.length]; exact hi), List.getElem?_map, h1]
      rfl
  · rw [List.getElem?_append_right (by simpa using hi), List.getElem?_replicate] at e
    split at e <;> cases e
theorem keepOk {C : Fc} {As As' : List Addr} {G H G' H' : Hp} {Γ : Gam} {M : Led} {σ : L2.St} {m : Nat} {keep : List Nat} (S : Sat (.of T K As G H) As' G' H' Γ M σ) (hm : As.length = m) (hk : keep.take m = List.range m) (ok : PickOk keep M) :
    Sat (.of T K As G H) (keep.map fun k => As'.getD k 0) G' H' [] (pick keep M) [] ∧ ∀ k a, k ∈ keep → As'[k]? = some a → (keep.map fun k => As'.getD k 0)[loc keep k]? = some a := by
  refine S.pick (C' := .of T K As G H) ok rfl rfl S.stp (fun a ha => ?_) (keep_pre hm S.asS hk) S.bg (keep_pre hm S.asS hk)
  obtain ⟨k, hk', rfl⟩ := List.mem_map.mp ha
  have hl : k < As'.length := by rw [S.al]; exact ok.2.1 k hk'
  refine S.fr _ ?_
  simp [hl]
/-- THE RULE for a def -/
theorem gn_of {x qual : Str} {st : Stmt} {f : Addr} {fd : FuncData} {N ps : List Str} {k : Nat} {sp : DSp} (F : Fun K x qual st f fd) (Sc : FnScope N ps (defScope st)) (len : ∀ ls M Kd Ed, sp ls M Kd Ed → ls.length = ps.length)
    (hbody : ∀ (Ss : List Addr) (G0 H0 : Hp) (Ab : List Addr) (Gb : Hp) (X : Cx) (ls : List Lo) (M : Led) (Kd : Lo → Led → Prop) (Ed : Exn → Led → Prop) (cdv : Value) (A : Around) (outer : List Env) (s : Shared) (H : Hp) (E : XK),
      X = cxOf (L2.CX P w) P w K mg base N qual (defScope st) f cdv A outer s H E → fd.code = cdv → Room k X.A → X.A.guards = some [] → Takes X (UW ⟨K, Ss, G0, H0, Ab, Gb, T⟩ fun x _ M' => BackX M.length Ed x M') → PassesOwn (model X.prog X.w) X.A X.env X.xe → (Ss.length ≤ M.length ∧ Ab.length ≤ M.length) → sp ls M Kd Ed →
      ∃ t, QSs ⟨K, Ss, G0, H0, Ab, Gb, T⟩ X (defBody st) t ∧ t { nx := fun _ M' => Back M.length Kd (.im .non) M', rt := Back M.length Kd } (gam0 N ls) M) : Gn T P w K mg base (k + 1) f fd ps sp := by
  obtain ⟨oc, od, kV, doc, pm, an, cdv, ct, osl, rfl, lk, hcd⟩ := F.ex
  refine ⟨len, fun A outer s H args us vs Q E As G ls M Kd Ed hr hg e0 hb rv S rl hsp hQ hE => ?_⟩
  have hl : vs.length = ps.length := by rw [rl.length]; exact len _ _ _ _ hsp
  have KX : K.In s.heap := e0.mod.kin.keeps fun b o e => (e0.bs b o e).1
  have lim : s.heap.NoLimit := e0.mod.nolimit.keeps fun b o e => (e0.bs b o e).1
  have kinds : ∀ y ∈ ps.zip us, (defScope st).names.lookup y.1 = some .local ∨ ((defScope st).names.lookup y.1 = some .cell ∧ ((cellsFrom (s.heap.objs.size + 1) (defScope st).names []).lookup y.1).isSome = true) := fun ⟨n, v⟩ hy =>
    (Sc.par n (List.of_mem_zip hy).1).imp id fun q => ⟨q, PySem.W.cellsFrom_some _ _ _ (.inl q)⟩
  refine codeAny_call_function hr.depth (KX _ _ lk) rfl Sc.co Sc.gen rfl (PySem.W.codeRec_of KX hcd) (hb _ _ _ _ ?_)
  refine wpAny_newFunctionEnv_cells Sc.kind kinds fun env he s1 y => ?_
  subst he
  refine ⟨lim.keeps y.toInCall.keep, codeAny_func ?_⟩
  have hN : (L2.start N vs).length = N.length := by
    have hpl : ps.length ≤ N.length := by
      have := congrArg List.length Sc.pre
      rw [List.length_take] at this
      omega
    unfold L2.start
    rw [List.length_append, List.length_map, List.length_replicate]
    omega
  have I : Inv (cxOf (L2.CX P w) P w K mg base N qual (defScope st) f cdv A outer s H E) [] (L2.start N vs) H s1 := inv_start Sc hr.hd e0 hl rv y
  have hAl : As.length = M.length := S.al
  have tk : Takes (cxOf (L2.CX P w) P w K mg base N qual (defScope st) f cdv A outer s H E) (UW (.of T K As G H) fun x _ M' => BackX M.length Ed x M') :=
    (takes_of rfl rfl rfl rfl).imp fun cls d σ' H' ⟨As', G', Γ', M', x, S', rx, keep, k1, k2, k3⟩ => by
      obtain ⟨Z, _⟩ := keepOk (C := .of T K As G H) S' hAl k1 k2
      exact hE x _ cls d _ G' H' Z rx k3
  obtain ⟨t, ht, hq⟩ := hbody As G H As G _ ls M Kd Ed cdv A outer s H E rfl rfl (hr.deeper _) hg tk (passes_of rfl) ⟨Nat.le_of_eq hAl, Nat.le_of_eq hAl⟩ hsp
  have S0 : Sat (.of T K As G H) As G H (gam0 N ls) M (L2.start N vs) := ⟨S.le, S.stp, S.own, S.fr, S.inj, S.al, S.asS, S.there, gam0_ok rl, by
    rw [hN]
    unfold gam0
    rw [List.length_append, List.length_map, List.length_replicate, ← rl.length]
    have := congrArg List.length Sc.pre
    rw [List.length_take] at this
    omega, S.bg, S.ba, S.tb⟩
  have fin : ∀ (l : Lo) (v : V) (Γ' : Gam) (M' : Led) (σ' : L2.St) (As' : List Addr) (G' H' : Hp), Gw (.of T K As G H) G As' G' H' Γ' M' σ' → LRp K As' G' v l → Back M.length Kd l M' → Q v H' := fun l v Γ' M' σ' As' G' H' g rv ⟨keep, k1, k2, k3, k4⟩ => by
    obtain ⟨Z, bk⟩ := keepOk (C := .of T K As G H) g.sat hAl k1 k2
    exact hQ _ _ v _ G' H' Z (rv.ren bk k3) k4
  refine wpAny_mono (ht.run [] s1 (L2.start N vs) H { nx := fun _ H' => Q .non H', rt := Q } I ⟨As, G, _, M, _, S0, hq, fun Γ' M' σ' As' G' H' g k => fin (.im .non) .non Γ' M' σ' As' G' H' g Rp.non k,
    fun l v Γ' M' σ' As' G' H' g rv k => fin l v Γ' M' σ' As' G' H' g rv k, fun _ _ _ _ _ _ _ k => k, fun _ _ _ _ _ _ _ k => k⟩) (fun fl s' hs => ?_) fun e s' hs => hs
  have ce : ∀ {σ' : L2.St} {H' : Hp} {v : V} {u : Value}, Inv (cxOf (L2.CX P w) P w K mg base N qual (defScope st) f cdv A outer s H E) [] σ' H' s' → RelV v u → Q v H' → CE outer P w H s Q u s' :=
    fun {σ' H' v u} J rv q => ⟨v, H', J.os, J.bare, J.base, J.hok, rv, q⟩
  cases fl with
  | next => obtain ⟨σ', H', J, q⟩ := hs; exact ce (v := V.non) (u := Value.none) J rfl q
  | ret u => obtain ⟨v, σ', H', J, rv, q⟩ := hs; exact ce J rv q
  | brk => obtain ⟨_, _, _, z⟩ := hs; exact z.elim
  | cont => obtain ⟨_, _, _, z⟩ := hs; exact z.elim
end
end Dl
set_option Elab.async false
set_option maxRecDepth 100000
set_option maxHeartbeats 1000000
namespace Dl
open PySem L2
def putI (f : Nat → Nat) : List Nat → Led → Led → Led
  | k :: r, m :: Mu, M => putI f r Mu (M.set k (renM f m))
  | _, _, M => M
def put (is : List Nat) (Mu M : Led) : Led := putI (ren is M.length) is Mu M ++ (Mu.drop is.length).map (renM (ren is M.length))
theorem putI_len {f : Nat → Nat} : ∀ {is : List Nat} {Mu M : Led}, (putI f is Mu M).length = M.length
  | [], _, _ => by unfold putI; rfl
  | _ :: _, [], _ => by unfold putI; rfl
  | k :: r, m :: Mu, M => by
    unfold putI
    rw [putI_len, List.length_set]
theorem putI_out {f : Nat → Nat} {i : Nat} : ∀ {is : List Nat} {Mu M : Led}, i ∉ is → (putI f is Mu M)[i]? = M[i]?
  | [], _, _, _ => by unfold putI; rfl
  | _ :: _, [], _, _ => by unfold putI; rfl
  | k :: r, m :: Mu, M, h => by
    rw [List.mem_cons, not_or] at h
    unfold putI
    rw [putI_out h.2, List.getElem?_set_ne (Ne.symm h.1)]
theorem putI_in {f : Nat → Nat} {i j : Nat} {m : MO} : ∀ {is : List Nat} {Mu M : Led}, is.Nodup → is[j]? = some i → Mu[j]? = some m → i < M.length → (putI f is Mu M)[i]? = some (renM f m)
  | [], _, _, _, h, _, _ => by simp at h
  | _ :: _, [], _, _, _, h, _ => by simp at h
  | k :: r, x :: Mu, M, nd, h1, h2, hi => by
    obtain ⟨n1, n2⟩ := List.nodup_cons.mp nd
    unfold putI
    cases j with
    | zero =>
      simp at h1 h2
      subst h1
      subst h2
      rw [putI_out n1, List.getElem?_set_self hi]
    | succ j => exact putI_in n2 (by simpa using h1) (by simpa using h2) (by rw [List.length_set]; exact hi)
section
variable {C : Fc} {As : List Addr} {G H : Hp} {Γ : Gam} {M : Led} {σ : L2.St} {is : List Nat}
theorem lend (S : Sat C As G H Γ M σ) (ok : PickOk is M) : Sat (.of C.T C.K (is.map fun k => As.getD k 0) G H) (is.map fun k => As.getD k 0) G H [] (pick is M) [] ∧ ∀ k a, k ∈ is → As[k]? = some a → (is.map fun k => As.getD k 0)[loc is k]? = some a :=
  S.pick (C' := .of C.T C.K (is.map fun k => As.getD k 0) G H) ok rfl rfl ⟨Same.refl _, fun a o _ _ h1 h2 => ⟨h2, h1⟩, fun a o h => ⟨o, h⟩⟩ (fun a h => .inl h) (List.prefix_refl _) (Same.refl _) (List.prefix_refl _)
/-- behind a call: the caller's state -/
theorem lent_back {Au' : List Addr} {G' H' : Hp} {Mu : Led} (S : Sat C As G H Γ M σ) (ok : PickOk is M) (Z : Sat (.of C.T C.K (is.map fun k => As.getD k 0) G H) Au' G' H' [] Mu []) :
    ∃ As', Gr C As G As' G' H' Γ (put is Mu M) σ ∧ ∀ (v : V) (l : Lo), LRp C.K Au' G' v l → LRp C.K As' G' v (renL (ren is M.length) l) := by
  obtain ⟨nd, lt, _⟩ := ok
  have hA : As.length = M.length := S.al
  obtain ⟨nw, hnw⟩ := Z.asS
  have hnw : is.map (fun k => As.getD k 0) ++ nw = Au' := hnw
  have lAu : (is.map fun k => As.getD k 0).length = is.length := by simp
  have atI : ∀ {j k : Nat}, is[j]? = some k → As[k]? = some (As.getD k 0) ∧ Au'[j]? = some (As.getD k 0) := fun {j k} e => by
    have hk : k < As.length := by rw [hA]; exact lt k (List.mem_of_getElem? e)
    refine ⟨by simp [hk], ?_⟩
    rw [← hnw, List.getElem?_append_left (by rw [lAu]; exact (List.getElem?_eq_some_iff.mp e).1), List.getElem?_map, e]
    rfl
  have lMu : Mu.length = is.length + nw.length := by
    rw [← Z.al, ← hnw, List.length_append, lAu]
  have nd' : (is.map (fun k => As.getD k 0) ++ nw).Nodup := by rw [hnw]; exact Z.inj
  obtain ⟨_, ndw, dis⟩ := List.nodup_append.mp nd'
  have fresh : ∀ b ∈ nw, H b = none := fun b hb => by
    rcases Z.fr b (by rw [← hnw]; exact List.mem_append_right _ hb) with z | z
    · exact absurd rfl (dis b z b hb)
    · exact z
  have kst := Z.stp
  have rn : ∀ k a, True → Au'[k]? = some a → (As ++ nw)[ren is M.length k]? = some a := fun k a _ e => by
    unfold ren
    by_cases hk : k < is.length
    · have e1 : is[k]? = some is[k] := by simp [hk]
      obtain ⟨q1, q2⟩ := atI e1
      rw [e] at q2
      cases q2
      have eg : is.getD k (M.length + (k - is.length)) = is[k] := by simp [hk]
      rw [eg]
      exact pre_get ⟨nw, rfl⟩ q1
    · have eg : is.getD k (M.length + (k - is.length)) = M.length + (k - is.length) := by
        rw [List.getD_eq_getElem?_getD, List.getElem?_eq_none (by omega)]
        rfl
      rw [eg, List.getElem?_append_right (by omega)]
      rw [← hnw, List.getElem?_append_right (by rw [lAu]; omega), lAu] at e
      rw [← e]
      congr 1
      omega
  have refT := refL_true
  have refTs := refLs_true
  have refTm : ∀ m : MO, refM (fun _ => True) m := fun m => by cases m <;> first | trivial | exact refTs _
  refine ⟨As ++ nw, ⟨⟨Z.le, ⟨S.stp.g.trans kst.g, fun a o h1 hT h2 h3 => ?_, fun a o h => ?_⟩, fun i a m e1 e2 e3 => ?_, fun a ha => ?_, ?_, ?_, S.asS.trans ⟨nw, rfl⟩, fun a ha => ?_, fun i l e => ?_, S.len, S.bg.trans kst.g, S.ba.trans ⟨nw, rfl⟩, fun P q e => ⟨fun hm => (List.mem_append.mp hm).elim (S.tb P q e).1 fun k => S.tb_ne e (fresh P k) rfl, (Z.tb P q e).2⟩⟩, kst.g, ⟨nw, rfl⟩⟩, fun v l r => r.ren rn (refT l)⟩
  · obtain ⟨q1, q2⟩ := S.stp.k a o h1 hT h2 h3
    refine kst.k a o (fun hm => ?_) hT q2 q1
    obtain ⟨k, hk, rfl⟩ := List.mem_map.mp hm
    have hl : k < As.length := by rw [hA]; exact lt k hk
    have hmA : As.getD k 0 ∈ As := by simp [hl]
    rcases S.fr _ hmA with z | z
    · exact h1 z
    · rw [z] at h3; cases h3
  · obtain ⟨o', h'⟩ := S.stp.d a o h
    exact kst.d a o' h'
  · by_cases hi : i < As.length
    · rw [List.getElem?_append_left hi] at e1
      unfold put at e2
      rw [List.getElem?_append_left (by rw [putI_len]; omega)] at e2
      by_cases him : i ∈ is
      · have ej := idx_get him
        obtain ⟨q1, q2⟩ := atI ej
        rw [e1] at q1
        have ea : a = As.getD i 0 := Option.some.inj q1
        have lj : loc is i < Mu.length := by
          have := (List.getElem?_eq_some_iff.mp ej).1
          omega
        have em : Mu[loc is i]? = some Mu[loc is i] := by simp [lj]
        rw [putI_in nd ej em (by omega)] at e2
        cases e2
        obtain ⟨g1, o, g2, g3⟩ := Z.own _ _ _ q2 em (renM_gone e3)
        rw [ea]
        exact ⟨g1, o, g2, g3.ren rn (refTm _)⟩
      · rw [putI_out him] at e2
        obtain ⟨g1, o, g2, g3⟩ := S.own i a m e1 e2 e3
        obtain ⟨z1, z2⟩ := kst.k a o (fun hm => by
          obtain ⟨k, hk, e⟩ := List.mem_map.mp hm
          have hl : k < As.length := by rw [hA]; exact lt k hk
          have ek : As[k]? = some a := by rw [← e]; simp [hl]
          exact him (nodup_ix2 S.inj ek e1 ▸ hk)) (S.tn (List.mem_of_getElem? e1)) g1 g2
        exact ⟨z2, o, z1, g3.mono kst.g ⟨nw, rfl⟩⟩
    · rw [List.getElem?_append_right (by omega)] at e1
      unfold put at e2
      rw [List.getElem?_append_right (by rw [putI_len]; omega), putI_len, List.getElem?_map, List.getElem?_drop] at e2
      have ej : Au'[is.length + (i - M.length)]? = some a := by
        rw [← hnw, List.getElem?_append_right (by rw [lAu]; omega), lAu, ← e1]
        congr 1
        omega
      cases em : Mu[is.length + (i - M.length)]? with
      | none => rw [em] at e2; cases e2
      | some m0 =>
        rw [em] at e2
        cases e2
        obtain ⟨g1, o, g2, g3⟩ := Z.own _ _ _ ej em (renM_gone e3)
        exact ⟨g1, o, g2, g3.ren rn (refTm _)⟩
  · rcases List.mem_append.mp ha with z | z
    · exact S.fr a z
    · exact .inr (S.h0 (fresh a z))
  · rw [List.nodup_append]
    refine ⟨S.inj, ndw, fun a h1 b h2 e => ?_⟩
    subst e
    obtain ⟨o, h⟩ := S.there a h1
    rw [fresh a h2] at h
    cases h
  · unfold put
    rw [List.length_append, List.length_append, putI_len, List.length_map, List.length_drop]
    omega
  · rcases List.mem_append.mp ha with z | z
    · obtain ⟨o, h⟩ := S.there a z
      exact kst.d a o h
    · exact Z.there a (by rw [← hnw]; exact List.mem_append_right _ z)
  · obtain ⟨v, q1, q2⟩ := S.slot i l e
    exact ⟨v, q1, q2.mono kst.g ⟨nw, rfl⟩⟩
end
section
variable {C : Fc} {X : Cx} {k : Nat} {f : Addr} {fd : FuncData} {ps : List Str} {sp : DSp} {is : List Nat} {ex : EX} {x : Str} {p pos : Pos} {e : Expr} {es : List Expr} {t : RA}
theorem LRpL.mem_ren {K : PySem.W.Frag} {As Au : List Addr} {G : Hp} {vs : List V} {ls : List Lo} {is : List Nat} (r : LRpL K As G vs ls) (h : refLs (· ∈ is) ls) (bk : ∀ k a, k ∈ is → As[k]? = some a → Au[loc is k]? = some a) : LRpL K Au G vs (ls.map (renL (loc is))) := r.ren bk h
/-- an exception of a callee reaches what is wished here -/
theorem run_gn {pins : List (Addr × Obj)} {σ : L2.St} {H : Hp} {s : Shared} {us : List Value} {vs : List V} {As : List Addr} {G : Hp} {Γ : Gam} {M : Led} {ls : List Lo} {Kd : Lo → Led → Prop} {Ed : Exn → Led → Prop} {Q : VK} (F : Gn C.T X.prog X.w X.K X.mg X.base k f fd ps sp) (hr : Room k X.A) (hg : X.A.guards = some [])
    (hb : Binds X.K fd ps []) (hK : C.K = X.K) (tk : Takes X (UW C ex)) (I : Inv X pins σ H s) (r : Vals vs us) (S : Sat C As G H Γ M σ) (rl : LRpL C.K As G vs ls) (ok : PickOk is M) (hls : refLs (· ∈ is) ls)
    (h : sp (ls.map (renL (loc is))) (pick is M) Kd Ed) (hQ : ∀ (l : Lo) (Mu : Led) (v : V) (As' : List Addr) (G' H' : Hp), Gr C As G As' G' H' Γ (put is Mu M) σ → LRp C.K As' G' v (renL (ren is M.length) l) → Kd l Mu → Q v H')
    (hE : ∀ x Mu, Ed x Mu → ex x Γ (put is Mu M)) : wpAny (model X.prog X.w) X.A (call (.ref f) us) (EP X pins σ Q) X.xe s := by
  obtain ⟨Z0, bk⟩ := lend S ok
  have hlen : us.length = ps.length := by
    rw [← r.length, rl.length, ← List.length_map (f := renL (loc is)) (as := ls)]
    exact F.len _ _ _ _ h
  have b := hb s us I.kIn (by rw [List.append_nil]; exact hlen)
  rw [List.append_nil] at b
  rw [hK] at Z0 rl
  refine wpAny_call (codeAny_mono (F.run X.A X.stack s H ⟨us, []⟩ us vs Q (fun cls d H' => UW C ex cls d σ H') _ G _ _ Kd Ed hr hg I.env0 b r Z0 (rl.mem_ren hls bk) h (fun l Mu v Au' G' H' Z rv k => ?_) fun x Mu cls d Au' G' H' Z rx k => ?_) fun res s' hq => ?_)
  · rw [← hK] at Z rv
    obtain ⟨As', g, hv⟩ := lent_back S ok Z
    exact hQ l Mu v As' G' H' g (hv v l rv) k
  · rw [← hK] at Z rx
    obtain ⟨As', g, _⟩ := lent_back S ok Z
    exact ⟨As', G', Γ, _, x, g.sat, rx, hE x Mu k⟩
  · cases res with
    | error e => exact passAt tk σ pins H s e s' I hq
    | ok fl =>
      cases fl with
      | ret u => exact I.after hq
      | next => exact False.elim hq
      | brk => exact False.elim hq
      | cont => exact False.elim hq
theorem pick0 {M : Led} : PickOk [] M := ⟨List.nodup_nil, fun k h => by simp at h, trivial⟩
theorem ims_loc (ds : List D) : (ds.map Lo.im).map (renL (loc [])) = ds.map Lo.im := by
  rw [List.map_map]
  rfl
theorem refLs_im {P : Nat → Prop} : ∀ ds : List D, refLs P (ds.map Lo.im)
  | [] => trivial
  | _ :: r => ⟨trivial, refLs_im r⟩
theorem ren0 (n : Nat) : ren [] n = fun j => n + j := by
  funext j
  simp [ren]
theorem put0 (Mu M : Led) : put [] Mu M = M ++ Mu.map (renM fun j => M.length + j) := by
  unfold put
  rw [ren0]
  cases Mu <;> rfl
end
end Dl
set_option Elab.async false
set_option maxRecDepth 100000
set_option maxHeartbeats 1000000
namespace Dl
open PySem L2 PyProof.Rows
section
variable {P : Program} {w : World} {K : PySem.W.Frag} {mg mb : Str → Option Value} {k : Nat} {fa a : Addr} {fd : FuncData} {x : Str} {sp : DSp} {s₁ : Shared} {vs : List Value} {ns : List Int}
/-- the law's call over an abstract heap that tracks the script at most -/
theorem end_core (KX : K.In s₁.heap) (nsG : s₁.heap.Ns mainGlobals mg) (nsB : s₁.heap.Ns builtinsNs mb) (bb : ∀ x : Str, x ≠ "__name__" → mb x = bootBuiltins x) (lim : s₁.heap.NoLimit) (gen : s₁.gens = #[])
    (ha : s₁.heap.get? a = some { cls := .type "list", data := .seq vs.toArray }) (room : Room k callerA) (F : ∀ base : Heap, K.In base → base.Ns mainGlobals mg → Gn (fun _ => none) P w K mg base k fa fd [x] sp)
    (bnd : ∀ (s : Shared) (u : Value), BindsTo s fd ⟨[u], []⟩ [(x, u)]) (hsp : ∀ Kd Ed, (∀ M, Kd (.im (.bl true)) M) → sp [.im (.scr ns)] [] Kd Ed)
    (H : Hp) (only : Only H) (sq : SqL K H a (ns.map V.int)) (okH : HOk P w H s₁.heap) (onlyA : ∀ b, H b ≠ none → b = a) (noK : H a ≠ none → K.lookup a = none) :
    codeAny (model P w) callerA (.call (.ref fa) ⟨[.ref a], []⟩) (fun r s' => r = .ok (.ret (.bool true)) ∧ OldK s₁.heap s'.heap ∧ s'.os = s₁.os ∧ AllBare s'.gens) s₁ := by
  have isA : ∀ {b : Addr} {u : HO}, H b = some u → b = a := fun {b u} q => onlyA b fun z => by rw [q] at z; cases z
  have notDict : ∀ {b : Addr} {o : Obj} {es : Array DictEntry} {ep : Nat}, s₁.heap.get? b = some o → o.data = .dict es ep → H b = none := fun {b o es ep} e d => by
    cases q : H b with
    | none => rfl
    | some u =>
      have e' := isA q
      subst e'
      rw [ha] at e
      cases e
      exact nomatch (show Data.seq vs.toArray _ = Data.dict es ep from d)
  have nsOf : ∀ {b : Addr} {m : Str → Option Value}, s₁.heap.Ns b m → (hidT s₁.heap H).Ns b m := fun {b m} n => by
    obtain ⟨o, es, ep, e, d, r⟩ := n
    exact ⟨o, es, ep, hidT_get e (notDict e d), d, r⟩
  have inB : K.In (hidT s₁.heap H) := fun b o e => hidT_get (KX b o e) (by
    cases q : H b with
    | none => rfl
    | some u =>
      have e' := isA q
      subst e'
      rw [noK (by rw [q]; exact fun z => nomatch z)] at e
      cases e)
  have md : Mod K mg (hidT s₁.heap H) := ⟨inB, nsOf nsG, ⟨mb, nsOf nsB, bb⟩, by
    obtain ⟨mc, h1, h2⟩ := lim
    exact ⟨mc, nsOf h1, h2⟩⟩
  have env : Env0 P w K mg (hidT s₁.heap H) callerA [] s₁ H := ⟨rfl, md, fun b o e => of_hidT e, Nat.le_of_eq (hidT_size _ _), trivial, fun b hb => absurd (show b ∈ ([] : List Addr) from hb) (by simp), okH, .of_eq gen⟩
  have S0 : Sat (.of (fun _ => none) K [] H H) [] H H [] [] [] := ⟨Same.refl _, ⟨Same.refl _, fun b o _ _ h1 h2 => ⟨h2, h1⟩, fun b o h => ⟨o, h⟩⟩, fun k a m e => by simp at e, fun a h => by simp at h, List.nodup_nil, rfl, List.prefix_refl _, fun a h => by simp at h, fun i l e => by simp at e, rfl, Same.refl _, List.prefix_refl _, fun P q e => (by cases e)⟩
  refine codeAny_mono ((F _ inB (nsOf nsG)).run callerA [] s₁ H ⟨[.ref a], []⟩ [.ref a] [.ref a] (fun v _ => v = .bl true) (fun _ _ _ => False) [] H [.im (.scr ns)] [] (fun l _ => l = .im (.bl true)) (fun _ _ => False) room rfl env (bnd s₁ (.ref a))
    (.cons rfl .nil) S0 (.cons (Rp.scr sq) .nil) (hsp _ _ fun _ => rfl) (fun l M' v As' G' H' _ rv e => by subst e; exact bl_of rv) fun _ _ _ _ _ _ _ _ _ z => z) fun r s' h => ?_
  cases r with
  | error e => obtain ⟨_, _, _, _, _, _, _, _, _, _, _, _, z⟩ := h; exact z.elim
  | ok fl =>
    cases fl with
    | ret u =>
      obtain ⟨v, H', os, bare, un, okH', rv, ev⟩ := h
      subst ev
      obtain rfl : u = Value.bool true := rv
      refine ⟨rfl, OldK.of_keep fun b o e => ?_, os, bare⟩
      cases q : H b with
      | none => exact un.keep b o e q (fun z => absurd (show b ∈ ([] : List Addr) from z) (by simp)) (by simp)
      | some u =>
        rcases only b with z | ⟨ob, xs, z⟩
        · rw [q] at z; cases z
        · obtain ⟨e1, _⟩ := okH b _ z
          obtain ⟨e2, _⟩ := okH' b _ (un.frzs b ob _ z)
          rw [e] at e1
          cases e1
          exact e2
    | next => exact False.elim h
    | brk => exact False.elim h
    | cont => exact False.elim h
theorem end_call (KX : K.In s₁.heap) (nsG : s₁.heap.Ns mainGlobals mg) (nsB : s₁.heap.Ns builtinsNs mb) (bb : ∀ x : Str, x ≠ "__name__" → mb x = bootBuiltins x) (lim : s₁.heap.NoLimit) (gen : s₁.gens = #[])
    (ha : s₁.heap.get? a = some { cls := .type "list", data := .seq vs.toArray }) (hi : IntsAre vs ns) (hl : ns.length ≤ sizeLine) (room : Room k callerA) (F : ∀ base : Heap, K.In base → base.Ns mainGlobals mg → Gn (fun _ => none) P w K mg base k fa fd [x] sp)
    (bnd : ∀ (s : Shared) (u : Value), BindsTo s fd ⟨[u], []⟩ [(x, u)]) (hsp : ∀ Kd Ed, (∀ M, Kd (.im (.bl true)) M) → sp [.im (.scr ns)] [] Kd Ed) :
    codeAny (model P w) callerA (.call (.ref fa) ⟨[.ref a], []⟩) (fun r s' => r = .ok (.ret (.bool true)) ∧ OldK s₁.heap s'.heap ∧ s'.os = s₁.os ∧ AllBare s'.gens) s₁ := by
  have rv := vals_ints hi
  have lv := hi.length
  cases hk : K.lookup a with
  | some o =>
    have e := KX a o hk
    rw [ha] at e
    cases e
    refine end_core KX nsG nsB bb lim gen ha room F bnd hsp (fun _ => none) (fun _ => .inl rfl) (.inr ⟨_, vs.toArray, _, hk, rfl, rfl, rfl, ?_, by simpa using rv⟩) (fun b u z => by have z' : (none : Option HO) = some u := z; cases z') (fun b z => absurd rfl z) fun z => absurd rfl z
    rw [List.size_toArray, lv]
    exact hl
  | none =>
    let Hs : Hp := fun b => if b = a then some (.frz { cls := .type "list", data := .seq vs.toArray } (.lst (ns.map V.int))) else none
    have h1 : Hs a = some (.frz { cls := .type "list", data := .seq vs.toArray } (.lst (ns.map V.int))) := if_pos rfl
    have h2 : ∀ b, b ≠ a → Hs b = none := fun b hb => if_neg hb
    refine end_core KX nsG nsB bb lim gen ha room F bnd hsp Hs (fun b => ?_) (.inl (.inr ⟨_, h1⟩)) (fun b u z => ?_) (fun b z => ?_) fun _ => hk
    · by_cases hb : b = a
      · subst hb; exact .inr ⟨_, _, h1⟩
      · exact .inl (h2 b hb)
    · by_cases hb : b = a
      · subst hb
        rw [h1] at z
        cases z
        exact ⟨ha, by rw [List.length_map]; exact hl, vs, _, rv, ha⟩
      · rw [h2 b hb] at z
        cases z
    · by_cases hb : b = a
      · exact hb
      · exact absurd (h2 b hb) z
end
/-- the goal that k_head leaves, from the law's promise -/
theorem end_of {l : PySem.W.OpenLaw} {n k : Nat} {q : Program} {loose : List Str} {XP : (Str → Option Value) → Heap → Prop} {YP : World → Heap → Prop} {d : DefRec} {K : Params → PySem.W.Frag} {sp : DSp} {x : Str}
    (hn : l.most = some n) (hn2 : n ≤ sizeLine) (hdf : d.params.defaults = []) (room : Room k callerA) (hY : ∀ (w : World) (h : Heap), YP w h → (K w.params).In h)
    (F : ∀ (w : World) (mg : Str → Option Value) (fa : Addr) (h : Heap), (K w.params).In h → h.Ns mainGlobals mg → mg d.name = some (.ref fa) →
      ∃ fd : FuncData, (∀ (s : Shared) (u : Value), BindsTo s fd ⟨[u], []⟩ [(x, u)]) ∧ ∀ base : Heap, (K w.params).In base → base.Ns mainGlobals mg → Gn (fun _ => none) l.prog w (K w.params) mg base k fa fd [x] sp)
    (hsp : ∀ (ns : List Int) Kd Ed, ns.length ≤ n → (∀ M, Kd (.im (.bl true)) M) → sp [.im (.scr ns)] [] Kd Ed) :
    PySem.W.WalkO q loose XP YP l.row.toRowW d [] (fun f vs => PySem.call f vs) := by
  refine Att.attach_call hn hdf fun w s₀ s₁ mg mb fa o pm cd doc a vs ns G Y ho hd hcd hmg hobj hints hlen hg => ?_
  have KX := hY w _ Y
  obtain ⟨fd, hb, hF⟩ := F w mg fa _ KX G.T.g hmg
  exact end_call KX G.T.g G.T.b G.T.builtins G.T.nolimit hg hobj hints (Nat.le_trans hlen hn2) room hF hb fun Kd Ed h => hsp ns Kd Ed hlen h
end Dl
set_option Elab.async false
set_option maxRecDepth 100000
set_option maxHeartbeats 1000000
namespace Dl
open PySem L2
section
variable {C : Fc} {X : Cx} {x : Str} {p pos : Pos} {e : Expr} {es : List Expr} {t : RA} {id T : String} {r : List V → Hp → VK → Prop} {ρ : RnL}
theorem q_bi (hl : CaL C r ρ) (hc : CallR X (.builtin id) r) (hv : bootBuiltins x = some (.builtin id)) (hm : X.mg x = none) (ha : QA C X (e :: es) t) (hg : Gl X x := by rfl) (hn : x ≠ "__name__" := by decide) (hdb : (x == ("__debug__" : Str)) = false := by decide)
    (he : starEach (e :: es) X.env = (false, eval e X.env) :: starEach es X.env := by rfl) (hpl : (backTo pos (starEach es X.env)).any (·.1) = false := by rfl) : QE C X (.Call (.Name x p) (e :: es) [] pos) (qCa ρ t) :=
  PE.imp (pe_callB hc hg hm hv ha hn hdb he hpl) (up_ca hl)
theorem q_bt (hl : CaL C r ρ) (hc : CallR X (.type T) r) (hv : bootBuiltins x = some (.type T)) (hm : X.mg x = none) (ha : QA C X (e :: es) t) (hg : Gl X x := by rfl) (hn : x ≠ "__name__" := by decide) (hdb : (x == ("__debug__" : Str)) = false := by decide)
    (he : starEach (e :: es) X.env = (false, eval e X.env) :: starEach es X.env := by rfl) (hpl : (backTo pos (starEach es X.env)).any (·.1) = false := by rfl) : QE C X (.Call (.Name x p) (e :: es) [] pos) (qCa ρ t) :=
  PE.imp (pe_callTy hc hg hm hv ha hn hdb he hpl) (up_ca hl)
end
theorem LRpL.one {K : PySem.W.Frag} {As : List Addr} {G : Hp} {vs : List V} {l : Lo} (r : LRpL K As G vs [l]) : ∃ v, vs = [v] ∧ LRp K As G v l := by
  cases r with
  | cons r1 r2 => cases r2; exact ⟨_, rfl, r1⟩
theorem LRpL.two {K : PySem.W.Frag} {As : List Addr} {G : Hp} {vs : List V} {l l' : Lo} (r : LRpL K As G vs [l, l']) : ∃ v v', vs = [v, v'] ∧ LRp K As G v l ∧ LRp K As G v' l' := by
  cases r with
  | cons r1 r2 =>
    obtain ⟨v', rfl, r3⟩ := r2.one
    exact ⟨_, _, rfl, r1, r3⟩
def lenOf (M : Led) : Lo → Option Nat
  | .im (.tup ds) => some ds.length
  | .im (.lst ds) => some ds.length
  | .tp ls => some ls.length
  | .ow k => match M[k]? with
    | some (.li ds) => some ds.length
    | some (.ls ls) => some ls.length
    | _ => none
  | _ => none
def oLen : RnL := fun ls M K => match ls with
  | [.im (.str s)] => s.length ≤ sizeLine ∧ K (.im (.int s.length)) M
  | [.im (.scr ns)] => K (.im (.int ns.length)) M
  | [x] => match lenOf M x with
    | some n => K (.im (.int n)) M
    | none => False
  | _ => False
theorem lenL {C : Fc} : CaL C (fun xs H Q => ∃ x n, xs = [x] ∧ LenV C.K x H n ∧ Q (.int n) H) oLen := fun {As G H Γ M σ xs ls K Q} S rl t q => by
  unfold oLen at t
  split at t
  · obtain ⟨v, rfl, r⟩ := rl.one
    rename_i s
    have e := str_of r
    subst e
    exact ⟨_, s.length, rfl, ⟨t.1, rfl⟩, q (.im (.int _)) M _ As G H (Gr.refl S) (Rp.int _) t.2⟩
  · obtain ⟨v, rfl, r⟩ := rl.one
    rename_i ns
    cases r with
    | scr h => exact ⟨_, ns.length, rfl, .inl ⟨_, same_l S.le h, by rw [List.length_map]⟩, q (.im (.int _)) M _ As G H (Gr.refl S) (Rp.int _) t⟩
  · obtain ⟨v, rfl, r⟩ := rl.one
    split at t
    · rename_i n e
      refine ⟨_, n, rfl, ?_, q (.im (.int _)) M _ As G H (Gr.refl S) (Rp.int _) t⟩
      unfold lenOf at e
      split at e
      · cases e
        obtain ⟨a, xs, rfl, h1, h2⟩ := S.imT r
        exact .inr ⟨xs, SqT.of h1, h2.length.symm⟩
      · cases e
        obtain ⟨a, xs, rfl, h1, h2⟩ := S.snapL r rfl
        exact .inl ⟨xs, SqL.of h1, h2.length.symm⟩
      · cases e
        obtain ⟨a, xs, rfl, h1, h2⟩ := r
        exact .inr ⟨xs, SqT.of (S.le _ _ h1), h2.l.length.symm⟩
      · obtain ⟨a, ha, rfl⟩ := r
        split at e
        · rename_i es e1
          cases e
          obtain ⟨_, o, h0, xs, rfl, rx⟩ := S.own _ _ _ ha e1 (by intro z; cases z)
          exact .inl ⟨xs, SqL.of h0, rx.length.symm⟩
        · rename_i es e1
          cases e
          obtain ⟨_, o, h0, xs, rfl, rx⟩ := S.own _ _ _ ha e1 (by intro z; cases z)
          exact .inl ⟨xs, SqL.of h0, rx.length.symm⟩
        · cases e
      · cases e
    · exact t.elim
  · exact t.elim
def oInt : RnL := fun ls M K => match ls with
  | [.im (.int i)] => K (.im (.int i)) M
  | [.im (.bl b)] => K (.im (.int (if b then 1 else 0))) M
  | _ => False
theorem intL {C : Fc} : CaL C (fun xs H Q => (∃ i, xs = [.int i] ∧ Q (.int i) H) ∨ ∃ k, xs = [.bl k] ∧ Q (.int (if k then 1 else 0)) H) oInt := fun {As G H Γ M σ xs ls K Q} S rl t q => by
  unfold oInt at t
  split at t
  · obtain ⟨v, rfl, r⟩ := rl.one
    exact .inl ⟨_, by rw [int_of r], q (.im (.int _)) M _ As G H (Gr.refl S) (Rp.int _) t⟩
  · obtain ⟨v, rfl, r⟩ := rl.one
    exact .inr ⟨_, by rw [bl_of r], q (.im (.int _)) M _ As G H (Gr.refl S) (Rp.int _) t⟩
  · exact t.elim
/-- min, max: of two ints, of a list of ints -/
def oMin : RnL := fun ls M K => match ls with
  | [.im (.int i), .im (.int j)] => K (.im (.int (min i j))) M
  | [x] => ∃ ns : List Int, snap M x = some (.lst (ns.map D.int)) ∧ 0 < ns.length ∧ ∀ m, m ∈ ns → (∀ y, y ∈ ns → m ≤ y) → K (.im (.int m)) M
  | _ => False
def oMax : RnL := fun ls M K => match ls with
  | [.im (.int i), .im (.int j)] => K (.im (.int (max i j))) M
  | [x] => ∃ ns : List Int, snap M x = some (.lst (ns.map D.int)) ∧ 0 < ns.length ∧ ∀ m, m ∈ ns → (∀ y, y ∈ ns → y ≤ m) → K (.im (.int m)) M
  | _ => False
theorem minL {C : Fc} : CaL C (fun xs H Q => (∃ i j, xs = [.int i, .int j] ∧ Q (.int (if j < i then j else i)) H) ∨ rMin C.K xs H Q) oMin := fun {As G H Γ M σ xs ls K Q} S rl t q => by
  unfold oMin at t
  split at t
  · rename_i i j
    obtain ⟨v, v', rfl, r, r'⟩ := rl.two
    refine .inl ⟨i, j, by rw [int_of r, int_of r'], ?_⟩
    rw [show (if j < i then j else i) = min i j by omega]
    exact q (.im (.int _)) M _ As G H (Gr.refl S) (Rp.int _) t
  · obtain ⟨v, rfl, r⟩ := rl.one
    obtain ⟨ns, e, h0, k⟩ := t
    obtain ⟨a, xs, rfl, h1, h2⟩ := S.snapL r e
    rw [h2.ints] at h1
    exact .inr ⟨a, ns, rfl, SqL.of h1, h0, fun m m1 m2 => q (.im (.int _)) M _ As G H (Gr.refl S) (Rp.int _) (k m m1 m2)⟩
  · exact t.elim
theorem maxL {C : Fc} : CaL C (fun xs H Q => (∃ i j, xs = [.int i, .int j] ∧ Q (.int (if j > i then j else i)) H) ∨ rMax C.K xs H Q) oMax := fun {As G H Γ M σ xs ls K Q} S rl t q => by
  unfold oMax at t
  split at t
  · rename_i i j
    obtain ⟨v, v', rfl, r, r'⟩ := rl.two
    refine .inl ⟨i, j, by rw [int_of r, int_of r'], ?_⟩
    rw [show (if j > i then j else i) = max i j by omega]
    exact q (.im (.int _)) M _ As G H (Gr.refl S) (Rp.int _) t
  · obtain ⟨v, rfl, r⟩ := rl.one
    obtain ⟨ns, e, h0, k⟩ := t
    obtain ⟨a, xs, rfl, h1, h2⟩ := S.snapL r e
    rw [h2.ints] at h1
    exact .inr ⟨a, ns, rfl, SqL.of h1, h0, fun m m1 m2 => q (.im (.int _)) M _ As G H (Gr.refl S) (Rp.int _) (k m m1 m2)⟩
  · exact t.elim
def oSum : RnL := fun ls M K => match ls with
  | [x] => ∃ ns : List Int, snap M x = some (.lst (ns.map D.int)) ∧ K (.im (.int ns.sum)) M
  | _ => False
theorem sumL {C : Fc} : CaL C (rSum C.K) oSum := fun {As G H Γ M σ xs ls K Q} S rl t q => by
  unfold oSum at t
  split at t
  · obtain ⟨v, rfl, r⟩ := rl.one
    obtain ⟨ns, e, k⟩ := t
    obtain ⟨a, xs, rfl, h1, h2⟩ := S.snapL r e
    rw [h2.ints] at h1
    exact ⟨a, ns, rfl, SqL.of h1, q (.im (.int _)) M _ As G H (Gr.refl S) (Rp.int _) k⟩
  · exact t.elim
def oBls (f : List Bool → Bool) : RnL := fun ls M K => match ls with
  | [x] => ∃ bs : List Bool, snap M x = some (.lst (bs.map D.bl)) ∧ K (.im (.bl (f bs))) M
  | _ => False
theorem allL {C : Fc} : CaL C (rAll C.K) (oBls fun bs => bs.all _root_.id) := fun {As G H Γ M σ xs ls K Q} S rl t q => by
  unfold oBls at t
  split at t
  · obtain ⟨v, rfl, r⟩ := rl.one
    obtain ⟨ns, e, k⟩ := t
    obtain ⟨a, xs, rfl, h1, h2⟩ := S.snapL r e
    rw [h2.bls] at h1
    exact ⟨a, ns, rfl, SqL.of h1, q (.im (.bl _)) M _ As G H (Gr.refl S) (Rp.bl _) k⟩
  · exact t.elim
def oList (out : Hand) : RnL := fun ls M K => match ls with
  | [x] => match seqOf M x with
    | some ds => out ds M K
    | none => False
  | _ => False
theorem listL {C : Fc} {out : Hand} (hout : OutN out) : CaL C (fun xs H Q => ∃ p ys, xs = [.ref p] ∧ (SqL C.K H p ys ∨ SqT C.K H p ys) ∧ ∀ l, H l = none → Q (.ref l) (upd H l (.lst ys))) (oList out) := fun {As G H Γ M σ xs ls K Q} S rl t q => by
  unfold oList at t
  split at t
  · obtain ⟨v, rfl, r⟩ := rl.one
    split at t
    · rename_i ds e
      obtain ⟨a, xs, rfl, h1, h2⟩ := S.seq r e
      exact ⟨a, xs, rfl, h1, fun l hl => hout S hl h2 t q⟩
    · exact t.elim
  · exact t.elim
def oTuple : RnL := fun ls M K => match ls with
  | [.im (.tup ds)] => K (.im (.tup ds)) M
  | [x] => match snap M x with
    | some (.lst ds) => K (.im (.tup ds)) M
    | _ => False
  | _ => False
theorem tupleL {C : Fc} : CaL C (fun xs H Q => ∃ p ys, xs = [.ref p] ∧ ((SqL C.K H p ys ∧ ∀ l, H l = none → Q (.ref l) (upd H l (.tup ys))) ∨ (SqT C.K H p ys ∧ Q (.ref p) H))) oTuple := fun {As G H Γ M σ xs ls K Q} S rl t q => by
  unfold oTuple at t
  split at t
  · obtain ⟨v, rfl, r⟩ := rl.one
    obtain ⟨a, xs, rfl, h1, h2⟩ := S.imT r
    exact ⟨a, xs, rfl, .inr ⟨SqT.of h1, q (.im (.tup _)) M _ As G H (Gr.refl S) r t⟩⟩
  · obtain ⟨v, rfl, r⟩ := rl.one
    split at t
    · rename_i ds e
      obtain ⟨a, xs, rfl, h1, h2⟩ := S.snapL r e
      exact ⟨a, xs, rfl, .inl ⟨SqL.of h1, fun l hl => q (.im (.tup ds)) M _ As _ _ (Gr.frz S hl) (rp_new_t S hl h2) t⟩⟩
    · exact t.elim
  · exact t.elim
def pairD (p : Int × Int) : D := .tup [.int p.1, .int p.2]
def leP (p q : Int × Int) : Prop := p.1 < q.1 ∨ (p.1 = q.1 ∧ p.2 ≤ q.2)
/-- sorted of ints, of pairs of ints -/
def oSorted (out : Hand) : RnL := fun ls M K => match ls with
  | [x] => (∃ ns : List Int, snap M x = some (.lst (ns.map D.int)) ∧ ∀ ns' : List Int, ns'.Perm ns → ns'.Pairwise (· ≤ ·) → out (ns'.map D.int) M K) ∨
      (∃ ps : List (Int × Int), snap M x = some (.lst (ps.map pairD)) ∧ ∀ ps' : List (Int × Int), ps'.Perm ps → ps'.Pairwise leP → out (ps'.map pairD) M K)
  | _ => False
theorem rp_pair {K : PySem.W.Frag} {G H : Hp} {v : V} {p : Int × Int} (e : Same G H) (r : Rp K G v (pairD p)) : ∃ t, v = .ref t ∧ G t = some (.tup [.int p.1, .int p.2]) ∧ H t = some (.tup [.int p.1, .int p.2]) := by
  cases r with
  | tup h r =>
    cases r with
    | cons r1 r2 =>
      cases r2 with
      | cons r2 r3 =>
        cases r1
        cases r2
        cases r3
        exact ⟨_, rfl, h, e _ _ h⟩
/-- the pair that a reference stands for -/
def keyV (H : Hp) : V → Int × Int
  | .ref t => match H t with
    | some (.tup [.int a, .int b]) => (a, b)
    | _ => (0, 0)
  | _ => (0, 0)
theorem keyV_rp {K : PySem.W.Frag} {G H : Hp} {v : V} {p : Int × Int} (e : Same G H) (r : Rp K G v (pairD p)) : keyV H v = p := by
  obtain ⟨t, rfl, _, h⟩ := rp_pair e r
  unfold keyV
  simp only [h]
theorem rpl_pairs {K : PySem.W.Frag} {G H : Hp} (e : Same G H) : ∀ {vs : List V} {ps : List (Int × Int)}, RpL K G vs (ps.map pairD) → vs.map (keyV H) = ps ∧ ∀ v ∈ vs, Rp K G v (pairD (keyV H v))
  | _, [], .nil => ⟨rfl, fun v h => nomatch h⟩
  | _, p :: ps, .cons r rr => by
    obtain ⟨h1, h2⟩ := rpl_pairs e rr
    have hk := keyV_rp e r
    refine ⟨by rw [List.map_cons, hk, h1], fun v hv => ?_⟩
    rcases List.mem_cons.mp hv with z | z
    · rw [z, hk]; exact r
    · exact h2 v z
theorem rpl_of {K : PySem.W.Frag} {G : Hp} {f : V → Int × Int} : ∀ {vs : List V}, (∀ v ∈ vs, Rp K G v (pairD (f v))) → RpL K G vs ((vs.map f).map pairD)
  | [], _ => .nil
  | v :: vs, h => .cons (h v List.mem_cons_self) (rpl_of fun u hu => h u (List.mem_cons_of_mem _ hu))
def rSrtU (K : PySem.W.Frag) : List V → Hp → VK → Prop := fun vs H Q => rSortedI K vs H Q ∨ rSortedPO K vs H Q
theorem sortedL {C : Fc} {out : Hand} (hout : OutN out) : CaL C (rSrtU C.K) (oSorted out) := fun {As G H Γ M σ xs ls K Q} S rl t q => by
  unfold oSorted at t
  split at t
  · obtain ⟨v, rfl, r⟩ := rl.one
    rcases t with ⟨ns, e, k⟩ | ⟨ps, e, k⟩
    · obtain ⟨a, xs, rfl, h1, h2⟩ := S.snapL r e
      rw [h2.ints] at h1
      exact .inl ⟨a, ns, rfl, SqL.of h1, fun ns' p m1 m2 hp => hout S hp (RpL.of_ints ns') (k ns' m1 m2) q⟩
    · obtain ⟨a, xs, rfl, h1, h2⟩ := S.snapL r e
      obtain ⟨e1, e2⟩ := rpl_pairs S.le h2
      refine .inr ⟨a, xs, keyV H, rfl, SqL.of h1, fun x hx => ?_, fun ys p m1 m2 hp => ?_⟩
      · obtain ⟨t, z, _, h⟩ := rp_pair S.le (e2 x hx)
        exact ⟨t, z, h⟩
      · refine hout S hp (rpl_of fun v hv => e2 v (m2.perm.mem_iff.mp hv)) (k _ ?_ ?_) q
        · rw [← e1]
          exact m2.perm.map _
        · rw [List.pairwise_map]
          refine List.Pairwise.imp (fun {x y} h => ?_) m1
          have := SrtO.lexB_no.mp h
          unfold leP
          omega
  · exact t.elim
def oStr : RnL := fun ls M K => match ls with
  | [.im (.int i)] => i.natAbs.log2 < 1920 ∧ K (.im (.str (toString i))) M
  | _ => False
theorem strL {C : Fc} : CaL C (fun xs H Q => ∃ i, xs = [.int i] ∧ i.natAbs.log2 < 1920 ∧ Q (.str (toString i)) H) oStr := fun {As G H Γ M σ xs ls K Q} S rl t q => by
  unfold oStr at t
  split at t
  · obtain ⟨v, rfl, r⟩ := rl.one
    exact ⟨_, by rw [int_of r], t.1, q (.im (.str _)) M _ As G H (Gr.refl S) (Rp.str _) t.2⟩
  · exact t.elim
def D.tyn : D → Option String
  | .non => some "NoneType"
  | .bl _ => some "bool"
  | .int _ => some "int"
  | .str _ => some "str"
  | .lst _ => some "list"
  | .tup _ => some "tuple"
  | .dct _ => some "dict"
  | _ => none
def isiB (n T : String) : Bool := (kitB n T).getD false
/-- the built-in type of what stands there -/
def tyL (M : Led) : Lo → Option String
  | .im d => d.tyn
  | .ow k => match M[k]? with
    | some (.li _) => some "list"
    | some (.ls _) => some "list"
    | some (.dc _) => some "dict"
    | some (.dm _) => some "dict"
    | _ => none
  | .tp _ => some "tuple"
def oIsi (T : String) : R1L := fun x M K => match tyL M x with
  | some n => (kitB n T).isSome = true ∧ K (.im (.bl (isiB n T))) M
  | none => False
theorem tyn_ok {C : Fc} {As : List Addr} {G H : Hp} {Γ : Gam} {M : Led} {σ : L2.St} {v : V} {l : Lo} {n : String} (S : Sat C As G H Γ M σ) (r : LRp C.K As G v l) (h : tyL M l = some n) : TyX C.K H v (.type n) := by
  cases l with
  | im d' =>
    have h : d'.tyn = some n := h
    cases r <;> cases h
    · exact .base .non
    · exact .base (.bl _)
    · exact .base (.int _)
    · exact .base (.str _)
    · rename_i a xs ds e rr
      exact .base (.lst (S.le _ _ e))
    · rename_i a xs ds e rr
      exact .base (.tup (S.le _ _ e))
    · rename_i a kvs ks e rr q
      exact .base (.dK (S.le _ _ e))
  | tp ls =>
    obtain ⟨a, xs, rfl, e, _⟩ := r
    cases h
    exact .base (.tup (S.le _ _ e))
  | ow k =>
    obtain ⟨a, ha, rfl⟩ := r
    simp only [tyL] at h
    split at h
    · rename_i es e1
      cases h
      obtain ⟨_, o, h0, xs, rfl, rx⟩ := S.own _ _ _ ha e1 (by intro z; cases z)
      exact .base (.lst h0)
    · rename_i es e1
      cases h
      obtain ⟨_, o, h0, xs, rfl, rx⟩ := S.own _ _ _ ha e1 (by intro z; cases z)
      exact .base (.lst h0)
    · rename_i es e1
      cases h
      obtain ⟨_, o, h0, xs, rfl, rx⟩ := S.own _ _ _ ha e1 (by intro z; cases z)
      exact .base (.dK h0)
    · rename_i es e1
      cases h
      obtain ⟨_, o, h0, xs, rfl, rx⟩ := S.own _ _ _ ha e1 (by intro z; cases z)
      exact .base (.dK h0)
    · cases h
theorem q_isi {C : Fc} {X : Cx} {a : Expr} {ta : RE} {xT : Str} {p p2 pos : Pos} (T : String) (hK : C.K = X.K) (hm : X.mg "isinstance" = none) (hmT : X.mg xT = none) (hvT : bootBuiltins xT = some (.type T)) (ha : QE C X a ta) (hg : Gl X "isinstance" := by rfl) (hgT : Gl X xT := by rfl)
    (hn : xT ≠ "__name__" := by decide) (hdb : (xT == ("__debug__" : Str)) = false := by decide)
    (he : starEach [a, .Name xT p2] X.env = (false, eval a X.env) :: starEach [.Name xT p2] X.env := by rfl) (he2 : starEach [.Name xT p2] X.env = (false, eval (.Name xT p2) X.env) :: starEach [] X.env := by rfl) (hpl : (backTo pos (starEach [.Name xT p2] X.env)).any (·.1) = false := by rfl) :
    QE C X (.Call (.Name "isinstance" p) [a, .Name xT p2] [] pos) (qUn (oIsi T) ta) :=
  PE.imp (pe_callB call_isi hg hm (by decide +kernel) (pa_cons ha (pa_cons (pe_bltn (v := .ty T) hgT hmT hvT rfl hn hdb) pa_nil he2) he) (by decide) (by decide) he hpl) fun σ H Q ⟨As, G, Γ, M, K, S, t, q⟩ => ⟨As, G, Γ, M, _, S, t, fun l M1 v As1 G1 H1 g1 rv t1 => by
    unfold oIsi at t1
    split at t1
    · rename_i n en
      rw [← hK]
      have ty := tyn_ok g1.sat rv en
      obtain ⟨h1, h2⟩ := t1
      refine ⟨v, .ty T, .type n, .type T, isiB n T, rfl, .ty T, ty, kit_ty ?_, q (.im (.bl _)) M1 _ As1 G1 H1 g1 (Rp.bl _) h2⟩
      unfold isiB
      cases e3 : kitB n T with
      | none => rw [e3] at h1; cases h1
      | some b => rfl
    · exact t1.elim⟩
/-- a datum that repr shows: it may be shown, and its text is short -/
def okr (d : D) : Bool := d.flat && d.pd.showable && decide (d.pd.depth ≤ 64) && decide (d.pd.shown.length ≤ sizeLine)
end Dl
set_option Elab.async false
set_option maxRecDepth 100000
set_option maxHeartbeats 1000000
namespace Dl
open PySem L2
section
variable {C : Fc} {X : Cx} {x : Str} {p pos tpos : Pos} {e e2 tg a b c : Expr} {es : List Expr} {te te2 : RE} {t : RA} {kk : Nat}
def rIList (te : RE) : RI := fun Γ M K => te Γ M fun l M1 => match l with
  | .im (.lst ds) => K ds M1
  | _ => False
def rITup (te : RE) : RI := fun Γ M K => te Γ M fun l M1 => match l with
  | .im (.tup ds) => K ds M1
  | _ => False
theorem q_ilist (hK : C.K = X.K) (he : QE C X e te) : QI C X tg e (rIList te) := PI.imp (pi_list he) fun σ H R ⟨As, G, Γ, M, K, S, t, q⟩ => ⟨As, G, Γ, M, _, S, t, fun l M1 v As1 G1 H1 g1 rv t1 => by
  split at t1
  · rename_i ds
    cases rv with
    | lst h r =>
      refine ⟨_, rfl, ⟨_, SqL.of (g1.sat.le _ _ h)⟩, q ds M1 As1 G1 H1 _ g1 (fun i As2 G2 H2 Γ2 M2 σ2 S2 sg => ⟨fun d hd => ?_, fun hi => ?_⟩) t1⟩
      · have h2 := S2.le _ _ (sg _ _ h)
        obtain ⟨w, hw, rw'⟩ := (r.mono sg).get hd
        refine ⟨⟨_, w, SqL.of h2, hw⟩, fun y H' hy => ?_⟩
        obtain ⟨rfl, hy⟩ := hy
        have := hy _ (SqL.of h2)
        rw [hw] at this
        cases this
        exact ⟨G2, Gr.refl S2, rw'⟩
      · exact ⟨_, SqL.of (S2.le _ _ (sg _ _ h)), by rw [r.length]; exact hi⟩
  · exact t1.elim⟩
theorem q_itup (hK : C.K = X.K) (he : QE C X e te) : QI C X tg e (rITup te) := PI.imp (pi_tup he) fun σ H R ⟨As, G, Γ, M, K, S, t, q⟩ => ⟨As, G, Γ, M, _, S, t, fun l M1 v As1 G1 H1 g1 rv t1 => by
  split at t1
  · rename_i ds
    cases rv with
    | tup h r =>
      refine ⟨_, rfl, ⟨_, SqT.of (g1.sat.le _ _ h)⟩, q ds M1 As1 G1 H1 _ g1 (fun i As2 G2 H2 Γ2 M2 σ2 S2 sg => ⟨fun d hd => ?_, fun hi => ?_⟩) t1⟩
      · have h2 := S2.le _ _ (sg _ _ h)
        obtain ⟨w, hw, rw'⟩ := (r.mono sg).get hd
        refine ⟨⟨_, w, SqT.of h2, hw⟩, fun y H' hy => ?_⟩
        obtain ⟨rfl, hy⟩ := hy
        have := hy _ (SqT.of h2)
        rw [hw] at this
        cases this
        exact ⟨G2, Gr.refl S2, rw'⟩
      · exact ⟨_, SqT.of (S2.le _ _ (sg _ _ h)), by rw [r.length]; exact hi⟩
  · exact t1.elim⟩
/-- lo, lo + 1, .. -/
def rangeD (lo : Int) (n : Nat) : List D := (List.range n).map fun (i : Nat) => D.int (lo + i)
theorem rangeD_get {lo : Int} {n i : Nat} {d : D} : (rangeD lo n)[i]? = some d ↔ i < n ∧ d = .int (lo + i) := by
  unfold rangeD
  rw [List.getElem?_map]
  by_cases h : i < n
  · rw [List.getElem?_range h]
    simp [h, eq_comm]
  · rw [List.getElem?_eq_none (by rw [List.length_range]; omega)]
    simp [h]
theorem rangeD_len {lo : Int} {n : Nat} : (rangeD lo n).length = n := by simp [rangeD]
theorem range_it {As1 : List Addr} {G1 : Hp} {lo : Int} {n : Nat} : ItD C As1 G1 (Itr lo n) (rangeD lo n) := fun i As2 G2 H2 Γ2 M2 σ2 S2 sg => ⟨fun d hd => by
  obtain ⟨h1, rfl⟩ := rangeD_get.mp hd
  refine ⟨h1, fun y H' hy => ?_⟩
  obtain ⟨rfl, rfl⟩ := hy
  exact ⟨G2, Gr.refl S2, .int _⟩, fun hi => by rw [rangeD_len] at hi; exact hi⟩
def rIRan1 (t : RA) : RI := fun Γ M K => t Γ M fun ls M1 => match ls with
  | [.im (.int j)] => -4611686018427387904 ≤ j ∧ j < 4611686018427387904 ∧ K (rangeD 0 j.toNat) M1
  | _ => False
theorem q_iran1 (hm : X.mg "range" = none) (ha : QA C X [a] t) (hg : Gl X "range" := by rfl) (hs : starEach [a] X.env = [(false, eval a X.env)] := by rfl) : QI C X tg (.Call (.Name "range" p) [a] [] pos) (rIRan1 t) :=
  PI.imp (pi_range1 hg hm ha hs) fun σ H R ⟨As, G, Γ, M, K, S, t, q⟩ => ⟨As, G, Γ, M, _, S, t, fun ls M1 vs As1 G1 H1 g1 rv t1 => by
    split at t1
    · obtain ⟨v, rfl, r⟩ := rv.one
      exact ⟨_, by rw [int_of r], by omega, by omega, q _ M1 As1 G1 H1 _ g1 range_it t1.2.2⟩
    · exact t1.elim⟩
/-- enumerate, zip -/
def enumD (ds : List D) : List D := ds.zipIdx.map fun p => .tup [.int (p.2 : Nat), p.1]
theorem enumD_get {ds : List D} {i : Nat} {d : D} : (enumD ds)[i]? = some d ↔ ∃ y, ds[i]? = some y ∧ d = .tup [.int (i : Nat), y] := by
  unfold enumD
  rw [List.getElem?_map, List.getElem?_zipIdx]
  cases e : ds[i]? with
  | none => simp
  | some y => simp [eq_comm]
theorem enumD_len {ds : List D} : (enumD ds).length = ds.length := by simp [enumD]
def rIEnum (t : RA) : RI := fun Γ M K => t Γ M fun ls M1 => match ls with
  | [.im (.lst ds)] => K (enumD ds) M1
  | _ => False
theorem q_ienum (hK : C.K = X.K) (hm : X.mg "enumerate" = none) (ha : QA C X [e] t) (hg : Gl X "enumerate" := by rfl) (hs : starEach [e] X.env = [(false, eval e X.env)] := by rfl) : QI C X (.Tuple es kk tpos) (.Call (.Name "enumerate" p) [e] [] pos) (rIEnum t) :=
  PI.imp (pi_enum hg hm ha hs) fun σ H R ⟨As, G, Γ, M, K, S, t, q⟩ => ⟨As, G, Γ, M, _, S, t, fun ls M1 vs As1 G1 H1 g1 rv t1 => by
    split at t1
    · rename_i ds
      obtain ⟨v, rfl, r⟩ := rv.one
      cases r with
      | lst h r =>
        refine ⟨_, _, rfl, SqL.of (g1.sat.le _ _ h), q _ M1 As1 G1 H1 _ g1 (fun i As2 G2 H2 Γ2 M2 σ2 S2 sg => ⟨fun d hd => ?_, fun hi => ?_⟩) t1⟩
        · obtain ⟨y, hy, rfl⟩ := enumD_get.mp hd
          have h2 := S2.le _ _ (sg _ _ h)
          obtain ⟨w, hw, rw'⟩ := (r.mono sg).get hy
          refine ⟨⟨_, w, SqL.of h2, hw⟩, fun z H' hz => ?_⟩
          obtain ⟨T, x, rfl, hT, rfl, hx⟩ := hz
          have := hx _ (SqL.of h2)
          rw [hw] at this
          cases this
          exact ⟨_, Gr.frz S2 hT, rp_new_t S2 hT (.cons (.int _) (.one rw'))⟩
        · rw [enumD_len] at hi
          exact ⟨_, SqL.of (S2.le _ _ (sg _ _ h)), by rw [r.length]; exact hi⟩
    · exact t1.elim⟩
def zipD (ds es : List D) : List D := (ds.zip es).map fun p => .tup [p.1, p.2]
end
section
variable {C : Fc} {X : Cx} {o e : Expr} {es : List Expr} {to : RE} {t : RA} {name : Str} {apos cpos : Pos} {T id : String} {r : V → List V → Hp → VK → Prop}
/-- o.m(e, ..) by values -/
abbrev RmL := Lo → List Lo → Led → (Lo → Led → Prop) → Prop
def MeL (C : Fc) (T : String) (r : V → List V → Hp → VK → Prop) (ρ : RmL) : Prop := ∀ {As : List Addr} {G H : Hp} {Γ : Gam} {M : Led} {σ : L2.St} {x : V} {xs : List V} {l : Lo} {ls : List Lo} {K : Lo → Led → Prop} {Q : VK}, Sat C As G H Γ M σ → LRp C.K As G x l → LRpL C.K As G xs ls → ρ l ls M K →
  (∀ (l : Lo) (M' : Led) (v : V) (As' : List Addr) (G' H' : Hp), Gr C As G As' G' H' Γ M' σ → LRp C.K As' G' v l → K l M' → Q v H') → r x xs H Q
/-- is the value of the type T, whatever it holds -/
def isTy (T : String) (M : Led) (l : Lo) : Bool := match T, tyL M l with
  | "list", some "list" => true
  | "dict", some "dict" => true
  | "str", some "str" => true
  | "int", some "int" => true
  | _, _ => false
theorem ty_list {As : List Addr} {G H : Hp} {Γ : Gam} {M : Led} {σ : L2.St} {v : V} {l : Lo} (S : Sat C As G H Γ M σ) (r : LRp C.K As G v l) (h : tyL M l = some "list") : ∃ a xs, v = .ref a ∧ H a = some (.lst xs) := by
  cases l with
  | im d =>
    replace h : d.tyn = some "list" := h
    cases r <;> first | (rename_i a xs ds e rr; exact ⟨a, xs, rfl, S.le _ _ e⟩) | (exact absurd h (by simp [D.tyn]))
  | tp ls => exact absurd h (by simp [tyL])
  | ow k =>
    obtain ⟨a, ha, rfl⟩ := r
    simp only [tyL] at h
    split at h
    · rename_i es e1
      obtain ⟨_, o, h0, xs, rfl, rx⟩ := S.own _ _ _ ha e1 (by intro z; cases z)
      exact ⟨a, xs, rfl, h0⟩
    · rename_i es e1
      obtain ⟨_, o, h0, xs, rfl, rx⟩ := S.own _ _ _ ha e1 (by intro z; cases z)
      exact ⟨a, xs, rfl, h0⟩
    · simp at h
    · simp at h
    · cases h
theorem ty_dict {As : List Addr} {G H : Hp} {Γ : Gam} {M : Led} {σ : L2.St} {v : V} {l : Lo} (S : Sat C As G H Γ M σ) (r : LRp C.K As G v l) (h : tyL M l = some "dict") : ∃ a xs, v = .ref a ∧ H a = some (.dK xs) := by
  cases l with
  | im d =>
    replace h : d.tyn = some "dict" := h
    cases r <;> first | (rename_i a kvs ks e rr rk; exact ⟨a, _, rfl, S.le _ _ e⟩) | (exact absurd h (by simp [D.tyn]))
  | tp ls => exact absurd h (by simp [tyL])
  | ow k =>
    obtain ⟨a, ha, rfl⟩ := r
    simp only [tyL] at h
    split at h
    · simp at h
    · simp at h
    · rename_i es e1
      obtain ⟨_, o, h0, xs, rfl, rx⟩ := S.own _ _ _ ha e1 (by intro z; cases z)
      exact ⟨a, xs, rfl, h0⟩
    · rename_i es e1
      obtain ⟨_, o, h0, xs, rfl, rx⟩ := S.own _ _ _ ha e1 (by intro z; cases z)
      exact ⟨a, xs, rfl, h0⟩
    · cases h
theorem ty_im {M : Led} {l : Lo} {n : String} (h : tyL M l = some n) (h1 : n ≠ "list") (h2 : n ≠ "dict") (h3 : n ≠ "tuple") : ∃ d, l = .im d ∧ d.tyn = some n := by
  cases l with
  | im d => exact ⟨d, rfl, h⟩
  | tp ls => exact absurd (Option.some.inj h).symm h3
  | ow k =>
    simp only [tyL] at h
    split at h
    · exact absurd (Option.some.inj h).symm h1
    · exact absurd (Option.some.inj h).symm h1
    · exact absurd (Option.some.inj h).symm h2
    · exact absurd (Option.some.inj h).symm h2
    · cases h
theorem isTy_ok {As : List Addr} {G H : Hp} {Γ : Gam} {M : Led} {σ : L2.St} {v : V} {l : Lo} (S : Sat C As G H Γ M σ) (r : LRp C.K As G v l) (h : isTy T M l = true) : tyV C.K T v H := by
  unfold isTy at h
  split at h
  · rename_i e
    obtain ⟨a, xs, rfl, h1⟩ := ty_list S r e
    exact .inl ⟨rfl, xs, SqL.of h1⟩
  · rename_i e
    obtain ⟨a, xs, rfl, h1⟩ := ty_dict S r e
    exact .inr (.inr (.inl ⟨rfl, .inl ⟨_, h1⟩⟩))
  · rename_i e
    obtain ⟨d, rfl, e2⟩ := ty_im e (by decide) (by decide) (by decide)
    cases r <;> first | rfl | exact absurd e2 (by simp [D.tyn])
  · rename_i e
    obtain ⟨d, rfl, e2⟩ := ty_im e (by decide) (by decide) (by decide)
    cases r <;> first | rfl | exact absurd e2 (by simp [D.tyn])
  · cases h
def rMe (T : String) (ρ : RmL) (to : RE) (t : RA) : RE := fun Γ M K => to Γ M fun l M1 => isTy T M1 l = true ∧ t Γ M1 fun ls M2 => ρ l ls M2 K
theorem q_me {ρ : RmL} (hl : MeL C T r ρ) (hK : C.K = X.K) (pa : PlainAttrs T) (slot : Slot T name id) (hty : typeOf (.builtin id) = pure (.type "method_descriptor")) (hm : MtR X id r) (ho : QE C X o to) (ha : QA C X (e :: es) t)
    (hbase : attributeBase o name X.env (eval o X.env) = eval o X.env := by rfl)
    (hfew : ((backTo cpos (starEach (e :: es) X.env)).all (fun x => !x.1) && (backToKw cpos (keywordEach [] X.env)).all (fun x => x.1.isSome)
      && decide ((e :: es).length + ([] : List Keyword).length + (if ([] : List Keyword).isEmpty then 0 else 1) < 30)) = true := by rfl)
    (hline : (apos.endLine == cpos.line) = true := by rfl) (hs : starEach (e :: es) X.env = (false, eval e X.env) :: starEach es X.env := by rfl) (hplain : (backTo cpos (starEach es X.env)).any (·.1) = false := by rfl) :
    QE C X (.Call (.Attribute o name apos) (e :: es) [] cpos) (rMe T ρ to t) :=
  PE.imp (pe_bm pa slot hty hm ho ha hbase hfew hline hs hplain) fun σ H Q ⟨As, G, Γ, M, K, S, t, q⟩ => ⟨As, G, Γ, M, _, S, t, fun l M1 v As1 G1 H1 g1 rv t1 => ⟨hK ▸ isTy_ok g1.sat rv t1.1, As1, G1, Γ, M1, _, g1.sat, t1.2, fun ls M2 vs As2 G2 H2 g2 rl t2 =>
    hl g2.sat (rv.mono g2.g g2.p) rl t2 fun l M' v As' G' H' g rv k => q l M' v As' G' H' (g1.trans (g2.trans g)) rv k⟩⟩
def rMe0 (T : String) (ρ : RmL) (to : RE) : RE := fun Γ M K => to Γ M fun l M1 => isTy T M1 l = true ∧ ρ l [] M1 K
theorem q_me0 {ρ : RmL} (hl : MeL C T r ρ) (hK : C.K = X.K) (pa : PlainAttrs T) (slot : Slot T name id) (hty : typeOf (.builtin id) = pure (.type "method_descriptor")) (hm : MtR X id r) (ho : QE C X o to)
    (hbase : attributeBase o name X.env (eval o X.env) = eval o X.env := by rfl) (hline : (apos.endLine == cpos.line) = true := by rfl) : QE C X (.Call (.Attribute o name apos) [] [] cpos) (rMe0 T ρ to) :=
  PE.imp (pe_bm0 pa slot hty hm ho hbase hline) fun σ H Q ⟨As, G, Γ, M, K, S, t, q⟩ => ⟨As, G, Γ, M, _, S, t, fun l M1 v As1 G1 H1 g1 rv t1 => ⟨hK ▸ isTy_ok g1.sat rv t1.1,
    hl g1.sat rv .nil t1.2 fun l M' v As' G' H' g rv k => q l M' v As' G' H' (g1.trans g) rv k⟩⟩
end
section
variable {C : Fc}
/-- xs.append(x), a list of one's own -/
def oAppend : RmL := fun l ls M K => match l with
  | .ow k => match M[k]? with
    | some (.li ds) => match ls with
      | [.im d] => ds.length < sizeLine ∧ K (.im .non) (M.set k (.li (ds ++ [d])))
      | [y] => ds.length < sizeLine ∧ K (.im .non) (M.set k (.ls (ds.map Lo.im ++ [y])))
      | _ => False
    | some (.ls xs) => match ls with
      | [y] => xs.length < sizeLine ∧ K (.im .non) (M.set k (.ls (xs ++ [y])))
      | _ => False
    | _ => False
  | _ => False
theorem appendL : MeL C "list" rAppend oAppend := fun {As G H Γ M σ x xs l ls K Q} S r rl t q => by
  unfold oAppend at t
  split at t
  · obtain ⟨a, ha, rfl⟩ := r
    split at t
    · rename_i ds e
      split at t
      · obtain ⟨v, rfl, rv⟩ := rl.one
        obtain ⟨_, o, h0, xs, rfl, rx⟩ := S.own _ _ _ ha e (by intro z; cases z)
        exact ⟨a, xs, v, rfl, rfl, h0, by rw [rx.length]; exact t.1, q (.im .non) _ _ As G _ ⟨S.write (m' := .li _) ha e (by intro z; cases z) ⟨_, rfl, rx.app (.one rv)⟩, Same.refl _, List.prefix_refl _⟩ Rp.non t.2⟩
      · obtain ⟨v, rfl, rv⟩ := rl.one
        obtain ⟨_, o, h0, xs, rfl, rx⟩ := S.own _ _ _ ha e (by intro z; cases z)
        exact ⟨a, xs, v, rfl, rfl, h0, by rw [rx.length]; exact t.1, q (.im .non) _ _ As G _ ⟨S.write (m' := .ls _) ha e (by intro z; cases z) ⟨_, rfl, (LRpL.of_data rx).app (.cons rv .nil)⟩, Same.refl _, List.prefix_refl _⟩ Rp.non t.2⟩
      · exact t.elim
    · rename_i ds e
      split at t
      · obtain ⟨v, rfl, rv⟩ := rl.one
        obtain ⟨_, o, h0, xs, rfl, rx⟩ := S.own _ _ _ ha e (by intro z; cases z)
        exact ⟨a, xs, v, rfl, rfl, h0, by rw [rx.length]; exact t.1, q (.im .non) _ _ As G _ ⟨S.write (m' := .ls _) ha e (by intro z; cases z) ⟨_, rfl, rx.app (.cons rv .nil)⟩, Same.refl _, List.prefix_refl _⟩ Rp.non t.2⟩
      · exact t.elim
    · exact t.elim
  · exact t.elim
/-- xs.extend(ys) -/
def oExtend : RmL := fun l ls M K => match l with
  | .ow k => match M[k]? with
    | some (.li ds) => match ls with
      | [y] => match snap M y with
        | some (.lst es) => ds.length + es.length ≤ sizeLine ∧ K (.im .non) (M.set k (.li (ds ++ es)))
        | _ => False
      | _ => False
    | _ => False
  | _ => False
theorem extendL : MeL C "list" rExtend oExtend := fun {As G H Γ M σ x xs l ls K Q} S r rl t q => by
  unfold oExtend at t
  split at t
  · obtain ⟨a, ha, rfl⟩ := r
    split at t
    · rename_i ds e
      split at t
      · obtain ⟨v, rfl, rv⟩ := rl.one
        split at t
        · rename_i es e2
          obtain ⟨b, ys, rfl, hb, ry⟩ := S.snapL rv e2
          obtain ⟨_, o, h0, xs, rfl, rx⟩ := S.own _ _ _ ha e (by intro z; cases z)
          exact ⟨a, b, xs, ys, rfl, rfl, h0, hb, by rw [rx.length, ry.length]; exact t.1, q (.im .non) _ _ As G _ ⟨S.write (m' := .li _) ha e (by intro z; cases z) ⟨_, rfl, rx.app ry⟩, Same.refl _, List.prefix_refl _⟩ Rp.non t.2⟩
        · exact t.elim
      · exact t.elim
    · exact t.elim
  · exact t.elim
/-- xs.pop(i) -/
def oPopAt : RmL := fun l ls M K => match l with
  | .ow k => match M[k]? with
    | some (.li ds) => match ls with
      | [.im (.int i)] => ∃ j d, -9223372036854775808 ≤ i ∧ i < 9223372036854775808 ∧ seqIndex? i ds.length = some j ∧ ds[j]? = some d ∧ K (.im d) (M.set k (.li (ds.eraseIdx j)))
      | _ => False
    | _ => False
  | _ => False
theorem popAtL : MeL C "list" rPopAt oPopAt := fun {As G H Γ M σ x xs l ls K Q} S r rl t q => by
  unfold oPopAt at t
  split at t
  · obtain ⟨a, ha, rfl⟩ := r
    split at t
    · rename_i ds e
      split at t
      · obtain ⟨v, rfl, rv⟩ := rl.one
        obtain ⟨j, d, h1, h2, h3, h4, h5⟩ := t
        obtain ⟨_, o, h0, xs, rfl, rx⟩ := S.own _ _ _ ha e (by intro z; cases z)
        obtain ⟨y, hy, ry⟩ := rx.get h4
        exact ⟨a, xs, _, j, y, rfl, by rw [int_of rv], h0, by omega, by omega, by rw [rx.length]; exact h3, hy, q (.im d) _ _ As G _ ⟨S.write (m' := .li _) ha e (by intro z; cases z) ⟨_, rfl, rx.erase j⟩, Same.refl _, List.prefix_refl _⟩ ry h5⟩
      · exact t.elim
    · exact t.elim
  · exact t.elim
end
end Dl
set_option Elab.async false
set_option maxRecDepth 100000
set_option maxHeartbeats 1000000
namespace Dl
open PySem L2
def exF : EX := fun _ _ _ => False
theorem tkF {X : Cx} {C : Fc} : Takes X (UW C exF) := takes0.imp fun _ _ _ _ ⟨_, _, _, _, _, _, _, h⟩ => h
/-- a def of the text, as the top has left it -/
structure Df (K : PySem.W.Frag) (mg : Str → Option Value) (x qual : Str) (st : Stmt) (ps : List Str) where
  f : Addr
  fd : FuncData
  F : Fun K x qual st f fd
  m : mg x = some (.ref f)
  b : Binds K fd ps []
section
variable {X : Cx}
theorem op_eqU {k : Nat} (hr : Room k X.A) : OpR X (compareOp .Eq) (rEqU X.K) := op_eq.or (op_eqD hr.units)
theorem op_neU {k : Nat} (hr : Room k X.A) : OpR X (compareOp .NotEq) (rNeU X.K) := op_ne.or (op_neD hr.units)
theorem cr_minU (hc : X.calm = true) : CallR X (.builtin "min") (fun xs H Q => (∃ i j, xs = [.int i, .int j] ∧ Q (.int (if j < i then j else i)) H) ∨ rMin X.K xs H Q) := (call_min2 hc).or (cr_min hc)
theorem cr_maxU (hc : X.calm = true) : CallR X (.builtin "max") (fun xs H Q => (∃ i j, xs = [.int i, .int j] ∧ Q (.int (if j > i then j else i)) H) ∨ rMax X.K xs H Q) := (call_max2 hc).or (cr_max hc)
theorem cr_srtU : CallR X (.builtin "sorted") (rSrtU X.K) := cr_sortedI.or cr_sortedPO
theorem room70 {k : Nat} (hr : Room k X.A) : X.A.units + 70 < cLine := by have := hr.un; omega
end
end Dl
set_option Elab.async false
set_option maxRecDepth 100000
set_option maxHeartbeats 1000000
namespace Dl
open PySem L2
theorem pickN (M : Led) : PickOk [] M := ⟨List.nodup_nil, fun k h => by simp at h, trivial⟩
theorem pick1 {M : Led} {k : Nat} {ds : List D} (h : M[k]? = some (.li ds)) : PickOk [k] M ∧ pick [k] M = [.li ds] := by
  have hd : M.getD k .gone = .li ds := by rw [List.getD_eq_getElem?_getD, h]; rfl
  refine ⟨⟨by simp, fun j hj => ?_, ?_⟩, ?_⟩
  · obtain rfl : j = k := by simpa using hj
    exact (List.getElem?_eq_some_iff.mp h).1
  · show refM _ (M.getD k .gone) ∧ True
    rw [hd]
    exact ⟨trivial, trivial⟩
  · show [renM _ (M.getD k .gone)] = _
    rw [hd]
    rfl
theorem back0 {Kd : Lo → Led → Prop} {d : D} {M : Led} (h : Kd (.im d) []) : Back 0 Kd (.im d) M := ⟨[], rfl, pickN M, trivial, h⟩
theorem back0o {Kd : Lo → Led → Prop} {k : Nat} {ds : List D} {M : Led} (e : M[k]? = some (.li ds)) (h : Kd (.ow 0) [.li ds]) : Back 0 Kd (.ow k) M :=
  ⟨[k], rfl, (pick1 e).1, by show k ∈ [k]; simp, by rw [(pick1 e).2]; show Kd (.ow (loc [k] k)) _; simpa [loc] using h⟩
theorem back1 {Kd : Lo → Led → Prop} {d : D} {ds : List D} {M : Led} (e : M[0]? = some (.li ds)) (h : Kd (.im d) [.li ds]) : Back 1 Kd (.im d) M :=
  ⟨[0], rfl, (pick1 e).1, trivial, by rw [(pick1 e).2]; exact h⟩
theorem cutD_to {ds : List D} {n : Nat} : cutD ds none (some (n : Int)) = ds.take n := by
  unfold cutD
  rw [show HT.sIx ds.length 0 none = 0 from rfl, HT.sIx_nat, List.drop_zero, Nat.sub_zero]
  by_cases h : n ≤ ds.length
  · rw [Nat.min_eq_left h]
  · rw [Nat.min_eq_right (by omega), List.take_of_length_le (Nat.le_refl _), List.take_of_length_le (by omega)]
theorem atI_nat {α : Type} {ds : List α} {i : Int} (h0 : 0 ≤ i) : atI ds i = ds[i.toNat]? := by
  unfold atI ixN
  rw [if_pos h0]
  by_cases h : i < ds.length
  · rw [if_pos h]
    rfl
  · rw [if_neg h]
    rw [List.getElem?_eq_none (by omega)]
    rfl
theorem ft {P : Prop} (h : false = true) : P := nomatch h
theorem sz0 : 0 ≤ sizeLine := Nat.zero_le _
theorem sz3 : 3 ≤ sizeLine := by decide
end Dl
set_option Elab.async false
set_option maxRecDepth 100000
set_option maxHeartbeats 1000000
namespace Dl
open PySem L2
mutual
def D.fit : D → Bool
  | .non => true
  | .bl _ => true
  | .int i => decide (i.natAbs < 10 ^ 40)
  | .str x => PyData.strOk x
  | .lst ds => D.fitL ds
  | .tup ds => D.fitL ds
  | _ => false
def D.fitL : List D → Bool
  | [] => true
  | d :: ds => d.fit && D.fitL ds
end
mutual
def D.wt : D → Nat
  | .int _ => 41
  | .str x => 10 * x.length + 2
  | .lst ds => 4 + D.wtL ds
  | .tup ds => 4 + D.wtL ds
  | _ => 6
def D.wtL : List D → Nat
  | [] => 0
  | d :: ds => (d.wt + 2) + D.wtL ds
end
mutual
def D.dep : D → Nat
  | .lst ds => D.depL ds + 1
  | .tup ds => D.depL ds + 1
  | _ => 0
def D.depL : List D → Nat
  | [] => 0
  | d :: ds => max d.dep (D.depL ds)
end
theorem listText_le : ∀ ts : List Str, (PySem.listText ts).length ≤ 4 + piled ts
  | [] => by decide
  | t :: r => by
    have h := textFrom_length_pos r 1 (("[" : Str) ++ (if (0 : Nat) > 0 then ", " else "" : String) ++ t) (Nat.succ_pos 0)
    have e : ((("[" : Str) ++ (if (0 : Nat) > 0 then ", " else "" : String) ++ t)).length = 1 + t.length := by
      rw [strLen_append, strLen_append]; rfl
    have hX : (PySem.listText (t :: r)).length = (textFrom 0 "[" (t :: r)).length + 1 := by
      show (textFrom 0 "[" (t :: r) ++ "]").length = _
      rw [strLen_append]; rfl
    have hY : (textFrom 0 "[" (t :: r)).length = (textFrom 1 (("[" : Str) ++ (if (0 : Nat) > 0 then ", " else "" : String) ++ t) r).length := rfl
    rw [hX, hY, h, e, piled_cons]; omega
theorem tupleText_le (ts : List Str) : (PySem.tupleText ts).length ≤ 4 + piled ts := by
  unfold PySem.tupleText
  rw [strLen_append, strLen_append]
  have e1 : ((("(" : String) : Str)).length = 1 := rfl
  have e3 : (((if ts.length == 1 then ",)" else ")" : String) : Str)).length ≤ 2 := by split <;> decide
  rw [e1]
  by_cases h : ts = []
  · subst h
    have : (Str.join ", " []).length = 0 := rfl
    rw [this]
    omega
  · have := join_length_add ts h
    omega
theorem strOk_lt {x : Str} (h : PyData.strOk x = true) : ∀ c ∈ x.cps.toList, c < 16 ^ 8 := fun c hc => by
  have h' : x.cps.all (· < 0x110000) = true := h
  rw [← Array.all_toList] at h'
  have := of_decide_eq_true (List.all_eq_true.mp h' c hc)
  omega
mutual
theorem fit_ok : ∀ d : D, d.fit = true → d.pd.shown.length ≤ d.wt ∧ d.pd.showable = true ∧ d.flat = true ∧ d.pd.canLay0 = true ∧ d.pd.depth = d.dep
  | .non, _ => ⟨by decide, rfl, rfl, rfl, rfl⟩
  | .bl b, _ => ⟨by cases b <;> decide, rfl, rfl, rfl, rfl⟩
  | .int i, h => by
    have h' : i.natAbs < 10 ^ 40 := of_decide_eq_true h
    refine ⟨?_, ?_, rfl, rfl, rfl⟩
    · show (Str.ofString (toString i)).length ≤ 41
      rw [PySem.ofString_length]
      exact int_text_length_le10 (k := 40) (by decide) h'
    · show decide (i.natAbs.log2 < 1920) = true
      refine decide_eq_true ?_
      by_cases z : i.natAbs = 0
      · rw [z]; decide
      · exact (Nat.log2_lt z).mpr (Nat.lt_of_lt_of_le h' (by decide))
  | .str x, h => by
    have h' : PyData.strOk x = true := h
    exact ⟨PySem.StrLaws.reprText_len x (strOk_lt h'), rfl, rfl, h', rfl⟩
  | .lst ds, h => by
    obtain ⟨h1, h2, h3, h4, h5⟩ := fitL_ok ds h
    refine ⟨?_, h2, h3, h4, ?_⟩
    · show (PySem.listText (PyData.shownAll (D.pdL ds))).length ≤ 4 + D.wtL ds
      have := listText_le (PyData.shownAll (D.pdL ds))
      omega
    · show PyData.depthAll (D.pdL ds) + 1 = D.depL ds + 1
      rw [h5]
  | .tup ds, h => by
    obtain ⟨h1, h2, h3, h4, h5⟩ := fitL_ok ds h
    refine ⟨?_, h2, h3, h4, ?_⟩
    · show (PySem.tupleText (PyData.shownAll (D.pdL ds))).length ≤ 4 + D.wtL ds
      have := tupleText_le (PyData.shownAll (D.pdL ds))
      omega
    · show PyData.depthAll (D.pdL ds) + 1 = D.depL ds + 1
      rw [h5]
  | .ty _, h => by cases h
  | .cl _, h => by cases h
  | .kls _, h => by cases h
  | .scr _, h => by cases h
  | .dct _, h => by cases h
  | .ins _ _, h => by cases h
  | .exc _ _, h => by cases h
theorem fitL_ok : ∀ ds : List D, D.fitL ds = true → piled (PyData.shownAll (D.pdL ds)) ≤ D.wtL ds ∧ PyData.showableAll (D.pdL ds) = true ∧ D.flatL ds = true ∧ PyData.canLayAll0 (D.pdL ds) = true ∧ PyData.depthAll (D.pdL ds) = D.depL ds
  | [], _ => ⟨Nat.zero_le _, rfl, rfl, rfl, rfl⟩
  | d :: ds, h => by
    have h' := Bool.and_eq_true_iff.mp (show (d.fit && D.fitL ds) = true from h)
    obtain ⟨a1, a2, a3, a4, a5⟩ := fit_ok d h'.1
    obtain ⟨b1, b2, b3, b4, b5⟩ := fitL_ok ds h'.2
    refine ⟨?_, ?_, ?_, ?_, ?_⟩
    · show piled (d.pd.shown :: PyData.shownAll (D.pdL ds)) ≤ (d.wt + 2) + D.wtL ds
      rw [piled_cons]
      omega
    · show (PyData.showable d.pd && PyData.showableAll (D.pdL ds)) = true
      rw [a2, b2]; rfl
    · show (d.flat && D.flatL ds) = true
      rw [a3, b3]; rfl
    · show (PyData.canLay0 d.pd && PyData.canLayAll0 (D.pdL ds)) = true
      rw [a4, b4]; rfl
    · show max (PyData.depth d.pd) (PyData.depthAll (D.pdL ds)) = max d.dep (D.depL ds)
      rw [a5, b5]
end
theorem okd_fit {d : D} (h : d.fit = true) (h2 : d.dep ≤ 64) : okd d = true := by
  obtain ⟨a1, a2, a3, a4, a5⟩ := fit_ok d h
  unfold okd SeqAt.shaped
  rw [a3, a4, decide_eq_true (by rw [a5]; exact h2)]
  rfl
theorem eqv_self {d : D} (h : d.fit = true) : PyData.eqv d.pd d.pd = true := PySem.SeqAt.eqv_refl _ (fit_ok d h).2.2.2.1
theorem fitL_all {ds : List D} (h : ∀ d ∈ ds, d.fit = true) : D.fitL ds = true := by
  induction ds with
  | nil => rfl
  | cons d r ih =>
    show (d.fit && D.fitL r) = true
    rw [h d List.mem_cons_self, ih fun x hx => h x (List.mem_cons_of_mem _ hx)]
    rfl
theorem wtL_le {ds : List D} {n : Nat} (h : ∀ d ∈ ds, d.wt ≤ n) : D.wtL ds ≤ (n + 2) * ds.length := by
  induction ds with
  | nil => exact Nat.zero_le _
  | cons d r ih =>
    show (d.wt + 2) + D.wtL r ≤ (n + 2) * (r.length + 1)
    have := h d List.mem_cons_self
    have := ih fun x hx => h x (List.mem_cons_of_mem _ hx)
    rw [Nat.mul_add]
    omega
theorem depL_le {ds : List D} {n : Nat} (h : ∀ d ∈ ds, d.dep ≤ n) : D.depL ds ≤ n := by
  induction ds with
  | nil => exact Nat.zero_le _
  | cons d r ih =>
    show max d.dep (D.depL r) ≤ n
    exact Nat.max_le.mpr ⟨h d List.mem_cons_self, ih fun x hx => h x (List.mem_cons_of_mem _ hx)⟩
theorem fit_int {i : Int} (h : i.natAbs < 10 ^ 40) : (D.int i).fit = true ∧ (D.int i).dep ≤ 0 ∧ (D.int i).wt ≤ 41 := ⟨decide_eq_true h, Nat.le_refl _, Nat.le_refl _⟩
theorem okd_ints (ns : List Int) : okd (.lst (ns.map D.int)) = true := by
  have h1 : ∀ ns : List Int, D.flatL (ns.map D.int) = true ∧ PyData.canLayAll0 (D.pdL (ns.map D.int)) = true ∧ PyData.depthAll (D.pdL (ns.map D.int)) = 0 := fun ns => by
    induction ns with
    | nil => exact ⟨rfl, rfl, rfl⟩
    | cons n r ih =>
      obtain ⟨a, b, c⟩ := ih
      refine ⟨a, b, ?_⟩
      show max 0 (PyData.depthAll (D.pdL (r.map D.int))) = 0
      rw [c]
      rfl
  obtain ⟨a, b, c⟩ := h1 ns
  have e1 : (D.lst (ns.map D.int)).flat = true := a
  have e2 : (D.lst (ns.map D.int)).pd.canLay0 = true := b
  have e3 : (D.lst (ns.map D.int)).pd.depth = 0 + 1 := congrArg (· + 1) c
  unfold okd SeqAt.shaped
  rw [e1, e2, e3]
  rfl
theorem pdL_ints : ∀ ns : List Int, D.pdL (ns.map D.int) = ns.map PyData.int
  | [] => rfl
  | n :: r => congrArg (PyData.int n :: ·) (pdL_ints r)
theorem evInts : ∀ xs ys : List Int, PyData.eqvAll (xs.map PyData.int) (ys.map PyData.int) = decide (xs = ys)
  | [], [] => by simp only [List.map_nil, PyData.eqvAll, decide_true]
  | [], _ :: _ => by simp [PyData.eqvAll]
  | _ :: _, [] => by simp [PyData.eqvAll]
  | x :: xs, y :: ys => by
    have e : PyData.eqv (.int x) (.int y) = decide (x = y) := by
      simp only [PyData.eqv]
      by_cases h : x = y
      · subst h; simp
      · rw [decide_eq_false h]; simpa using h
    rw [List.map_cons, List.map_cons, PyData.eqvAll, e, evInts xs ys, ← Bool.decide_and]
    exact decide_eq_decide.mpr (by rw [List.cons.injEq])
theorem eqv_ints (ns ms : List Int) : PyData.eqv (D.lst (ns.map D.int)).pd (D.lst (ms.map D.int)).pd = decide (ns = ms) := by
  show PyData.eqvAll (D.pdL (ns.map D.int)) (D.pdL (ms.map D.int)) = _
  rw [pdL_ints, pdL_ints]
  exact evInts ns ms
end Dl
set_option Elab.async false
set_option maxRecDepth 100000
set_option maxHeartbeats 1000000
namespace Dl
open PySem L2
section
variable {C : Fc} {X : Cx} {x : Str} {p pos tpos : Pos} {e e2 tg a b c : Expr} {es : List Expr} {te te2 : RE} {t : RA} {kk : Nat}
theorem rgV_rp {K : PySem.W.Frag} {G : Hp} (n : Int) : RpL K G (rgV 0 n) (rangeD 0 n.toNat) := by
  unfold rgV rangeD
  rw [Int.sub_zero]
  generalize n.toNat = m
  have go : ∀ l : List Nat, RpL K G (l.map fun i : Nat => V.int (0 + (i : Nat))) (l.map fun i : Nat => D.int (0 + (i : Nat))) := fun l => by
    induction l with
    | nil => exact .nil
    | cons h r ih => exact .cons (.int _) ih
  exact go _
def rLstRg (out : Hand) (te : RE) : RE := fun Γ M K => te Γ M fun l M1 => match l with
  | .im (.int n) => n ≤ 16777216 ∧ 0 ≤ n ∧ out (rangeD 0 n.toNat) M1 K
  | _ => False
theorem q_listRg {out : Hand} (hout : OutN out) (hc : X.calm = true) (hm : X.mg "list" = none) (hmr : X.mg "range" = none) (ha : QE C X a te) (hg : Gl X "list" := by rfl) (hgr : Gl X "range" := by rfl)
    (n1 : starEach [a] X.env = (false, eval a X.env) :: starEach [] X.env := by rfl) (n2 : starEach [.Call (.Name "range" p) [a] [] pos] X.env = (false, eval (.Call (.Name "range" p) [a] [] pos) X.env) :: starEach [] X.env := by rfl) {p2 pos2 : Pos} :
    QE C X (.Call (.Name "list" p2) [.Call (.Name "range" p) [a] [] pos] [] pos2) (rLstRg out te) :=
  PE.imp (pe_listRg hc hg hm (prg_1 hgr hmr ha n1) n2) fun σ H Q ⟨As, G, Γ, M, K, S, t, q⟩ => ⟨As, G, Γ, M, _, S, t, fun l M1 v As1 G1 H1 g1 rv t1 => by
    split at t1
    · rename_i n
      exact ⟨n, int_of rv, RgOk.of_le (Int.le_refl _) t1.1 (by decide) t1.2.1, fun q0 hq => hout g1.sat hq (rgV_rp n) t1.2.2 fun l2 M2 v2 As2 G2 H2 g2 r2 k2 => q l2 M2 v2 As2 G2 H2 (g1.trans g2) r2 k2⟩
    · exact t1.elim⟩
theorem RpL.lo {K : PySem.W.Frag} {As : List Addr} {G : Hp} : ∀ {vs : List V} {ds : List D}, RpL K G vs ds → LRpL K As G vs (ds.map Lo.im)
  | _, _, .nil => .nil
  | _, _, .cons h r => .cons h (RpL.lo r)
def rStar (te : RE) (t : RA) : RA := fun Γ M K => te Γ M fun x M1 => match seqOf M1 x with
  | some ds => t Γ M1 fun ys M2 => K (ds.map Lo.im ++ ys) M2
  | none => False
theorem q_star (hK : C.K = X.K) (he : QE C X e te) (hr : QA C X es t) (hs : starEach (.Starred e p :: es) X.env = (true, eval e X.env) :: starEach es X.env := by rfl) : QA C X (.Starred e p :: es) (rStar te t) :=
  PA.imp (StX.pa_star he hr hs) fun σ H Q ⟨As, G, Γ, M, K, S, t, q⟩ => ⟨As, G, Γ, M, _, S, t, fun l M1 v As1 G1 H1 g1 rv t1 => by
    split at t1
    · rename_i ds ed
      obtain ⟨a, xs, rfl, h1, h2⟩ := g1.sat.seq rv ed
      rw [hK] at h1
      exact ⟨a, xs, rfl, h1.symm, As1, G1, Γ, M1, _, g1.sat, t1, fun ls M2 vs As2 G2 H2 g2 rl k => q _ M2 _ As2 G2 H2 (g1.trans g2) ((h2.mono g2.g).lo.app rl) k⟩
    · exact t1.elim⟩
end
end Dl
set_option Elab.async false
set_option maxRecDepth 100000
set_option maxHeartbeats 1000000
namespace Dl
open PySem L2
def Wk (b : Nat) (Γ : Gam) (M : Led) (Γ' : Gam) (M' : Led) : Prop := ∀ {C : Fc} {As : List Addr} {G H : Hp} {σ : L2.St}, C.S.length ≤ b → C.Ab.length ≤ b → Sat C As G H Γ M σ → ∃ As' G' H', H' = H ∧ Sat C As' G' H' Γ' M' σ ∧ Same G G'
theorem Wk.refl {b : Nat} {Γ : Gam} {M : Led} : Wk b Γ M Γ M := fun {C As G H σ} _ _ S => ⟨As, G, H, rfl, S, Same.refl _⟩
theorem Wk.trans {b : Nat} {Γ Γ1 Γ2 : Gam} {M M1 M2 : Led} (h : Wk b Γ M Γ1 M1) (k : Wk b Γ1 M1 Γ2 M2) : Wk b Γ M Γ2 M2 := fun {C As G H σ} h1 h2 S => by
  obtain ⟨A1, G1, H1, rfl, S1, s1⟩ := h h1 h2 S
  obtain ⟨A2, G2, H2, rfl, S2, s2⟩ := k h1 h2 S1
  exact ⟨A2, G2, _, rfl, S2, s1.trans s2⟩
/-- what an owned object of data holds -/
def datM : MO → Option D
  | .li ds => some (.lst ds)
  | .ls ls => match allIm ls with
    | some ds => some (.lst ds)
    | none => none
  | .dc ks => some (.dct ks)
  | .dm ks => match allIm (ks.map (·.2)) with
    | some ds => some (.dct ((ks.map (·.1)).zip ds))
    | none => none
  | .ob C fs => match allIm (fs.map (·.2)) with
    | some ds => some (.ins C ((fs.map (·.1)).zip ds))
    | none => none
  | .gone => none
  | .dl _ _ _ => none
theorem zip_fst {α β : Type} : ∀ {xs : List α} {ys : List β}, xs.length = ys.length → (xs.zip ys).map (·.1) = xs
  | [], [], _ => rfl
  | x :: xs, y :: ys, h => by
    have := zip_fst (xs := xs) (ys := ys) (by simpa using h)
    simp [this]
theorem zip_snd {α β : Type} : ∀ {xs : List α} {ys : List β}, xs.length = ys.length → (xs.zip ys).map (·.2) = ys
  | [], [], _ => rfl
  | x :: xs, y :: ys, h => by
    have := zip_snd (xs := xs) (ys := ys) (by simpa using h)
    simp [this]
theorem datM_rp {K : PySem.W.Frag} {As : List Addr} {G : Hp} {o : HO} {m : MO} {d : D} {a : Addr} (r : MOis K As G o m) (h : datM m = some d) (hg : G a = some o) : Rp K G (.ref a) d := by
  cases m with
  | li ds =>
    obtain ⟨xs, rfl, rx⟩ := r
    cases h
    exact .lst hg rx
  | ls ls =>
    obtain ⟨xs, rfl, rx⟩ := r
    simp only [datM] at h
    split at h
    · rename_i ds e
      cases h
      exact .lst hg (allIm_rp rx e)
    · cases h
  | dc ks =>
    obtain ⟨kvs, rfl, h1, h2⟩ := r
    cases h
    exact .dct hg h1 h2
  | dm ks =>
    obtain ⟨kvs, rfl, h1, h2⟩ := r
    simp only [datM] at h
    split at h
    · rename_i ds e
      cases h
      have r2 := allIm_rp h2 e
      have hl : (ks.map (·.1)).length = ds.length := by
        have e2 := congrArg List.length (allIm_map e)
        simpa using e2
      exact .dct hg (by rw [zip_fst hl]; exact h1) (by rw [zip_snd hl]; exact r2)
    · cases h
  | ob C fs =>
    obtain ⟨dx, fvs, rfl, h1, h2⟩ := r
    simp only [datM] at h
    split at h
    · rename_i ds e
      cases h
      have r2 := allIm_rp h2 e
      have hl : (fs.map (·.1)).length = ds.length := by
        have e2 := congrArg List.length (allIm_map e)
        simpa using e2
      exact .ins hg (by rw [zip_fst hl]; exact h1) (by rw [zip_snd hl]; exact r2)
    · cases h
  | gone => cases h
  | dl _ _ _ => cases h
def mkTp (ls : List Lo) : Lo := match allIm ls with
  | some ds => .im (.tup ds)
  | none => .tp ls
mutual
/-- the k-th object seen as a datum -/
def frL (k : Nat) (d : D) : Lo → Lo
  | .im e => .im e
  | .ow j => if j = k then .im d else .ow j
  | .tp ls => mkTp (frLs k d ls)
def frLs (k : Nat) (d : D) : List Lo → List Lo
  | [] => []
  | l :: r => frL k d l :: frLs k d r
end
def frM (k : Nat) (d : D) : MO → MO
  | .ls ls => .ls (frLs k d ls)
  | .dm ks => .dm ((ks.map (·.1)).zip (frLs k d (ks.map (·.2))))
  | .ob C fs => .ob C ((fs.map (·.1)).zip (frLs k d (fs.map (·.2))))
  | m => m
theorem LRpS.of_tp {K : PySem.W.Frag} {As : List Addr} {G : Hp} {a : Addr} {xs : List V} {ls : List Lo} (h : G a = some (.tup xs)) (r : LRpS K As G xs ls) : LRp K As G (.ref a) (mkTp ls) := by
  unfold mkTp
  split
  · rename_i ds e
    exact Rp.tup h (allIm_rp r.l e)
  · exact ⟨a, xs, rfl, h, r⟩
theorem frLs_len (k : Nat) (d : D) : ∀ ls : List Lo, (frLs k d ls).length = ls.length
  | [] => rfl
  | _ :: r => congrArg (· + 1) (frLs_len k d r)
section
variable {K : PySem.W.Frag} {As : List Addr} {G G' : Hp} {k : Nat} {d : D} {b : Addr}
mutual
theorem LRp.fr (sg : Same G G') (ha : As[k]? = some b) (hd : Rp K G' (.ref b) d) : ∀ {v : V} {l : Lo}, LRp K As G v l → LRp K As G' v (frL k d l)
  | _, .im e, r => Rp.mono sg r
  | _, .ow j, r => by
    obtain ⟨a, h1, rfl⟩ := r
    unfold frL
    by_cases hj : j = k
    · rw [if_pos hj]
      subst hj
      rw [ha] at h1
      cases h1
      exact hd
    · rw [if_neg hj]
      exact ⟨a, h1, rfl⟩
  | _, .tp ls, r => by
    obtain ⟨a, xs, rfl, h2, h3⟩ := r
    unfold frL
    exact LRpS.of_tp (sg _ _ h2) (LRpS.fr sg ha hd h3)
theorem LRpS.fr (sg : Same G G') (ha : As[k]? = some b) (hd : Rp K G' (.ref b) d) : ∀ {xs : List V} {ls : List Lo}, LRpS K As G xs ls → LRpS K As G' xs (frLs k d ls)
  | _, [], r => r
  | _, l :: ls, r => by
    obtain ⟨v, vs, h1, h2, h3⟩ := r
    exact ⟨v, vs, h1, LRp.fr sg ha hd h2, LRpS.fr sg ha hd h3⟩
end
theorem MOis.fr (sg : Same G G') (ha : As[k]? = some b) (hd : Rp K G' (.ref b) d) {o : HO} {m : MO} (r : MOis K As G o m) : MOis K As G' o (frM k d m) := by
  cases m with
  | li ds => obtain ⟨xs, h1, h2⟩ := r; exact ⟨xs, h1, h2.mono sg⟩
  | ls ls => obtain ⟨xs, h1, h2⟩ := r; exact ⟨xs, h1, (LRpS.fr sg ha hd h2.s).l⟩
  | dc ks => obtain ⟨xs, h1, h2, h3⟩ := r; exact ⟨xs, h1, h2, h3.mono sg⟩
  | dm ks =>
    obtain ⟨xs, h1, h2, h3⟩ := r
    have hl : (ks.map (·.1)).length = (frLs k d (ks.map (·.2))).length := by rw [frLs_len]; simp
    exact ⟨xs, h1, by rw [zip_fst hl]; exact h2, by rw [zip_snd hl]; exact (LRpS.fr sg ha hd h3.s).l⟩
  | ob C fs =>
    obtain ⟨dx, xs, h1, h2, h3⟩ := r
    have hl : (fs.map (·.1)).length = (frLs k d (fs.map (·.2))).length := by rw [frLs_len]; simp
    exact ⟨dx, xs, h1, by rw [zip_fst hl]; exact h2, by rw [zip_snd hl]; exact (LRpS.fr sg ha hd h3.s).l⟩
  | gone => trivial
  | dl _ _ _ => obtain ⟨h1, h2, h3⟩ := r; exact ⟨h1, h2, h3.mono sg⟩
end
def frG (k : Nat) (d : D) : Option Lo → Option Lo
  | some l => some (frL k d l)
  | none => none
theorem frM_gone {k : Nat} {d : D} {m : MO} (h : frM k d m ≠ .gone) : m ≠ .gone := fun z => h (by rw [z]; rfl)
/-- an owned object of data frozen -/
theorem wk_frz (k : Nat) {d : D} {m : MO} {b : Nat} {Γ : Gam} {M : Led} (hk : M[k]? = some m) (hd : datM m = some d) : Wk b Γ M (Γ.map (frG k d)) ((M.map (frM k d)).set k .gone) := fun {C As G H σ} _ _ S => by
  have hm : m ≠ .gone := fun z => by rw [z] at hd; cases hd
  have hl : k < As.length := by rw [S.al]; exact (List.getElem?_eq_some_iff.mp hk).1
  have ha : As[k]? = some As[k] := List.getElem?_eq_getElem hl
  obtain ⟨g0, o, h0, rx⟩ := S.own _ _ _ ha hk hm
  have F := S.freeze ha hk hm h0
  have sg : Same G (upd G As[k] o) := Same.new g0
  have rd : Rp C.K (upd G As[k] o) (.ref As[k]) d := datM_rp (rx.mono sg (List.prefix_refl _)) hd upd_same
  refine ⟨As, upd G As[k] o, H, rfl, ⟨F.le, F.stp, fun j a m2 e1 e2 e3 => ?_, F.fr, F.inj, by rw [List.length_set, List.length_map]; exact S.al, F.asS, F.there, fun i l e => ?_, by rw [List.length_map]; exact F.len, F.bg, F.ba, F.tb⟩, sg⟩
  · by_cases hj : j = k
    · subst hj
      rw [List.getElem?_set_self (by rw [List.length_map, ← S.al]; exact hl)] at e2
      cases e2
      exact absurd rfl e3
    · rw [List.getElem?_set_ne (Ne.symm hj), List.getElem?_map] at e2
      cases e4 : M[j]? with
      | none => rw [e4] at e2; cases e2
      | some m1 =>
        rw [e4] at e2
        cases e2
        have hm1 := frM_gone e3
        obtain ⟨p1, u, p2, p3⟩ := S.own j a m1 e1 e4 hm1
        have hne : a ≠ As[k] := fun z => by
          subst z
          exact hj (nodup_ix2 S.inj e1 ha)
        rw [upd_ne hne]
        exact ⟨p1, u, p2, p3.fr sg ha rd⟩
  · rw [List.getElem?_map] at e
    cases e1 : Γ[i]? with
    | none => rw [e1] at e; cases e
    | some q =>
      rw [e1] at e
      have e' : frG k d q = some l := Option.some.inj e
      cases q with
      | none => cases e'
      | some l0 =>
        cases e'
        obtain ⟨v, q1, q2⟩ := S.slot i l0 e1
        exact ⟨v, q1, q2.fr sg ha rd⟩
/-- ahead of a statement -/
def rWk (b : Nat) (t : RS) : RS := fun N Γ M => ∃ Γ' M', Wk b Γ M Γ' M' ∧ t N Γ' M'
section
variable {C : Fc} {X : Cx} {st : Stmt} {t : RS} {b : Nat}
theorem q_wk (h1 : C.S.length ≤ b) (h2 : C.Ab.length ≤ b) (h : QS C X st t) : QS C X st (rWk b t) := PS.imp h fun D σ H ⟨As, G, Γ, M, N, S, ⟨Γ', M', w, q⟩, f⟩ => by
  obtain ⟨A1, G1, H1, rfl, S1, s1⟩ := w h1 h2 S
  exact ⟨A1, G1, Γ', M', N, S1, q, f.mono ⟨S1, s1⟩⟩
end
/-- the datum of a value whose objects are all from the n-th on -/
def frzL (n : Nat) (M : Led) : Nat → Lo → Option D
  | _, .im d => some d
  | 0, _ => none
  | f + 1, .ow k => if n ≤ k then match M[k]? with
      | some (.li ds) => some (.lst ds)
      | some (.ls ls) => (ls.mapM (frzL n M f)).map D.lst
      | some (.dc ks) => some (.dct ks)
      | some (.dm ks) => ((ks.map (·.2)).mapM (frzL n M f)).map fun ds => .dct ((ks.map (·.1)).zip ds)
      | some (.ob C fs) => ((fs.map (·.2)).mapM (frzL n M f)).map fun ds => .ins C ((fs.map (·.1)).zip ds)
      | _ => none
    else none
  | f + 1, .tp ls => (ls.mapM (frzL n M f)).map D.tup
theorem mapM_rp {K : PySem.W.Frag} {As : List Addr} {G G' : Hp} {g : Lo → Option D} (hg : ∀ v l d, LRp K As G v l → g l = some d → Rp K G' v d) : ∀ {xs : List V} {ls : List Lo} {ds : List D}, LRpL K As G xs ls → ls.mapM g = some ds → RpL K G' xs ds
  | _, [], ds, .nil, h => by
    cases h
    exact .nil
  | _, l :: ls, ds, .cons r rr, h => by
    rw [List.mapM_cons] at h
    cases e1 : g l with
    | none => rw [e1] at h; cases h
    | some d =>
      rw [e1] at h
      cases e2 : ls.mapM g with
      | none => rw [e2] at h; cases h
      | some es =>
        rw [e2] at h
        cases h
        exact .cons (hg _ _ _ r e1) (mapM_rp hg rr e2)
theorem mapM_len {g : Lo → Option D} : ∀ {ls : List Lo} {ds : List D}, ls.mapM g = some ds → ls.length = ds.length
  | [], ds, h => by cases h; rfl
  | l :: ls, ds, h => by
    rw [List.mapM_cons] at h
    cases e1 : g l with
    | none => rw [e1] at h; cases h
    | some d =>
      rw [e1] at h
      cases e2 : ls.mapM g with
      | none => rw [e2] at h; cases h
      | some es =>
        rw [e2] at h
        cases h
        exact congrArg (· + 1) (mapM_len e2)
theorem frzL_rp {K : PySem.W.Frag} {As : List Addr} {G G' : Hp} {M : Led} {n : Nat} (sg : Same G G') (hM : ∀ (k : Nat) (a : Addr) (m : MO), n ≤ k → As[k]? = some a → M[k]? = some m → m ≠ .gone → ∃ o, G' a = some o ∧ MOis K As G o m)
    (al : As.length = M.length) : ∀ (f : Nat) {v : V} {l : Lo} {d : D}, LRp K As G v l → frzL n M f l = some d → Rp K G' v d
  | 0, v, l, d, r, h => by
    cases l with
    | im e => cases h; exact Rp.mono sg r
    | ow k => cases h
    | tp ls => cases h
  | f + 1, v, l, d, r, h => by
    have ih := fun (v : V) (l : Lo) (d : D) (r : LRp K As G v l) (h : frzL n M f l = some d) => frzL_rp sg hM al f r h
    cases l with
    | im e => cases h; exact Rp.mono sg r
    | tp ls =>
      obtain ⟨a, xs, rfl, h2, h3⟩ := r
      unfold frzL at h
      cases e : ls.mapM (frzL n M f) with
      | none => rw [e] at h; cases h
      | some ds =>
        rw [e] at h
        cases h
        exact .tup (sg _ _ h2) (mapM_rp ih h3.l e)
    | ow k =>
      obtain ⟨a, ha, rfl⟩ := r
      unfold frzL at h
      split at h
      · rename_i hn
        split at h
        · rename_i ds e
          cases h
          obtain ⟨o, q1, xs, rfl, q2⟩ := hM k a _ hn ha e (by intro z; cases z)
          exact .lst q1 (q2.mono sg)
        · rename_i ls e
          obtain ⟨o, q1, xs, rfl, q2⟩ := hM k a _ hn ha e (by intro z; cases z)
          cases e2 : ls.mapM (frzL n M f) with
          | none => rw [e2] at h; cases h
          | some ds =>
            rw [e2] at h
            cases h
            exact .lst q1 (mapM_rp ih q2 e2)
        · rename_i ks e
          cases h
          obtain ⟨o, q1, xs, rfl, q2, q3⟩ := hM k a _ hn ha e (by intro z; cases z)
          exact .dct q1 q2 (q3.mono sg)
        · rename_i ks e
          obtain ⟨o, q1, xs, rfl, q2, q3⟩ := hM k a _ hn ha e (by intro z; cases z)
          cases e2 : (ks.map (·.2)).mapM (frzL n M f) with
          | none => rw [e2] at h; cases h
          | some ds =>
            rw [e2] at h
            cases h
            have hl : (ks.map (·.1)).length = ds.length := by have := mapM_len e2; simpa using this
            exact .dct q1 (by rw [zip_fst hl]; exact q2) (by rw [zip_snd hl]; exact mapM_rp ih q3 e2)
        · rename_i C fs e
          obtain ⟨o, q1, dx, xs, rfl, q2, q3⟩ := hM k a _ hn ha e (by intro z; cases z)
          cases e2 : (fs.map (·.2)).mapM (frzL n M f) with
          | none => rw [e2] at h; cases h
          | some ds =>
            rw [e2] at h
            cases h
            have hl : (fs.map (·.1)).length = ds.length := by have := mapM_len e2; simpa using this
            exact .ins q1 (by rw [zip_fst hl]; exact q2) (by rw [zip_snd hl]; exact mapM_rp ih q3 e2)
        · cases h
      · cases h
/-- everything from the n-th object on is frozen and let go -/
theorem Sat.freezeFrom {C : Fc} {As : List Addr} {G H : Hp} {Γ Γ' : Gam} {M : Led} {σ σ' : L2.St} (S : Sat C As G H Γ M σ) (n : Nat) (hc : closed n (M.take n)) (hS : C.S <+: As.take n) (hb : C.Ab <+: As.take n) :
    ∃ G', Same G G' ∧ (∀ (k : Nat) (a : Addr) (m : MO), n ≤ k → As[k]? = some a → M[k]? = some m → m ≠ .gone → ∃ o, G' a = some o ∧ MOis C.K As G o m) ∧
      ((∀ (i : Nat) (l : Lo), Γ'[i]? = some (some l) → ∃ v, σ'[i]? = some (some v) ∧ LRp C.K (As.take n) G v l) → Γ'.length = σ'.length → Sat C (As.take n) G' H Γ' (M.take n) σ') := by
  refine ⟨fun b => if b ∈ As.drop n then H b else G b, fun b o e => ?_, fun k a m hn e1 e2 e3 => ?_, fun hs hl => ?_⟩
  · show (if b ∈ As.drop n then H b else G b) = some o
    split
    · exact S.le b o e
    · exact e
  · obtain ⟨q1, o, q2, q3⟩ := S.own k a m e1 e2 e3
    refine ⟨o, ?_, q3⟩
    show (if a ∈ As.drop n then H a else G a) = some o
    rw [if_pos]
    · exact q2
    · refine List.mem_of_getElem? (i := k - n) ?_
      rw [List.getElem?_drop, show n + (k - n) = k by omega]
      exact e1
  · have nd : ∀ a ∈ As.take n, a ∉ As.drop n := fun a h1 h2 => by
      have := S.inj
      rw [← List.take_append_drop n As, List.nodup_append] at this
      exact this.2.2 a h1 a h2 rfl
    have sg : Same G (fun b => if b ∈ As.drop n then H b else G b) := fun b o e => by
      show (if b ∈ As.drop n then H b else G b) = some o
      split
      · exact S.le b o e
      · exact e
    have Z := S.cut (n := n) (Γ' := Γ') (σ' := σ') hc hS hb hs hl
    refine ⟨fun b o e => ?_, ⟨Z.stp.g.trans sg, fun a o h1 hT h2 h3 => ?_, Z.stp.d⟩, fun k a m e1 e2 e3 => ?_, Z.fr, Z.inj, Z.al, Z.asS, Z.there, fun i l e => ?_, Z.len, Z.bg.trans sg, Z.ba, fun P q e => ⟨(Z.tb P q e).1, (Z.tb P q e).2.keep sg (by
      show (if P ∈ As.drop n then H P else G P) = none
      rw [if_neg fun hm => (S.tb P q e).1 (List.mem_of_mem_drop hm)]
      exact (Z.tb P q e).2.1) rfl⟩⟩
    · have e' : (if b ∈ As.drop n then H b else G b) = some o := e
      split at e'
      · exact e'
      · exact S.le b o e'
    · obtain ⟨q1, q2⟩ := S.stp.k a o h1 hT h2 h3
      refine ⟨q1, ?_⟩
      show (if a ∈ As.drop n then H a else G a) = none
      rw [if_neg]
      · exact q2
      · intro hm
        rcases S.fr a (List.mem_of_mem_drop hm) with z | z
        · exact h1 z
        · rw [z] at h3; cases h3
    · obtain ⟨q1, o, q2, q3⟩ := Z.own k a m e1 e2 e3
      refine ⟨?_, o, q2, q3.mono sg (List.prefix_refl _)⟩
      show (if a ∈ As.drop n then H a else G a) = none
      rw [if_neg (nd a (List.mem_of_getElem? e1))]
      exact q1
    · obtain ⟨v, q1, q2⟩ := hs i l e
      exact ⟨v, q1, q2.mono sg (List.prefix_refl _)⟩
/-- e, whatever is new in it frozen -/
def rFz (te : RE) : RE := fun Γ M K => te Γ M fun l M1 => ∃ d, frzL M.length M1 8 l = some d ∧ closed M.length (M1.take M.length) ∧ K (.im d) (M1.take M.length)
section
variable {C : Fc} {X : Cx} {e : Expr} {te : RE}
theorem q_fz (h : QE C X e te) : QE C X e (rFz te) := PE.imp h fun σ H Q ⟨As, G, Γ, M, K, S, t, q⟩ => ⟨As, G, Γ, M, _, S, t, fun l M1 v As1 G1 H1 g rv ⟨d, hd, hc, k⟩ => by
  obtain ⟨tl, htl⟩ := g.p
  have eA : As1.take M.length = As := by rw [← htl, ← S.al]; simp
  obtain ⟨G2, sg, hM, fin⟩ := g.sat.freezeFrom (Γ' := Γ) (σ' := σ) M.length hc (by rw [eA]; exact S.asS) (by rw [eA]; exact S.ba)
  have Z := fin (fun i l e => by
    obtain ⟨w, q1, q2⟩ := S.slot i l e
    exact ⟨w, q1, by rw [eA]; exact q2.mono g.g (List.prefix_refl _)⟩) S.len
  rw [eA] at Z
  exact q (.im d) _ v As G2 H1 ⟨Z, g.g.trans sg, List.prefix_refl _⟩ (frzL_rp sg hM g.sat.al 8 rv hd) k⟩
end
end Dl
set_option Elab.async false
set_option maxRecDepth 100000
set_option maxHeartbeats 1000000
set_option Elab.async false
set_option maxRecDepth 100000
set_option maxHeartbeats 1000000
namespace PySem
open F
end PySem
namespace PySem
open PyProof.Rows
end PySem
set_option Elab.async false
set_option maxRecDepth 100000
set_option maxHeartbeats 1000000
namespace Dl
open PySem L2
def rCallD (sp : DSp) (ex : EX) (t : RA) : RE := fun Γ M K => t Γ M fun ls M1 => match allIm ls with
  | some ds => sp (ds.map Lo.im) [] (fun l Mu => match l, Mu with
      | .im d, [] => K (.im d) M1
      | l, Mu => ∀ l' M', l' = renL (fun j => M1.length + j) l → M' = M1 ++ Mu.map (renM fun j => M1.length + j) → K l' M')
      fun x Mu => match Mu with
      | [] => ex x Γ M1
      | _ => ∀ M', M' = M1 ++ Mu.map (renM fun j => M1.length + j) → ex x Γ M'
  | none => False
/-- what holds no reference -/
def flatM : MO → Bool
  | .li _ => true
  | .dc _ => true
  | _ => false
def rCallP (sp : DSp) (t : RA) : RE := fun Γ M K => t Γ M fun ls M1 => match ls with
  | .ow 0 :: r => match allIm r, M1[0]? with
    | some ds, some m => flatM m = true ∧ sp (.ow 0 :: ds.map Lo.im) [m] (fun l Mu => match l, Mu with
      | .im d, [.li x] => K (.im d) (M1.set 0 (.li x))
      | _, _ => False) fun _ _ => False
    | _, _ => False
  | _ => False
theorem flat_pick {M : Led} {k : Nat} {m : MO} (h : M[k]? = some m) (hf : flatM m = true) : PickOk [k] M ∧ pick [k] M = [m] := by
  have hd : M.getD k .gone = m := by rw [List.getD_eq_getElem?_getD, h]; rfl
  refine ⟨⟨by simp, fun j hj => ?_, ?_⟩, ?_⟩
  · obtain rfl : j = k := by simpa using hj
    exact (List.getElem?_eq_some_iff.mp h).1
  · show refM _ (M.getD k .gone) ∧ True
    rw [hd]
    cases m <;> first | exact ⟨trivial, trivial⟩ | cases hf
  · show [renM _ (M.getD k .gone)] = _
    rw [hd]
    cases m <;> first | rfl | cases hf
section
variable {C : Fc} {X : Cx} {k : Nat} {f : Addr} {fd : FuncData} {ps : List Str} {sp : DSp} {ex : EX} {x : Str} {p pos : Pos} {e : Expr} {es : List Expr} {t : RA}
theorem map_ren0 (ds : List D) (f : Nat → Nat) : (ds.map Lo.im).map (renL f) = ds.map Lo.im := by
  rw [List.map_map]
  rfl
/-- how a call of data goes on, put into run_gn's form -/
theorem callD_ok {Γ : Gam} {M1 : Led} {K : Lo → Led → Prop} {ls : List Lo} (h : match allIm ls with
    | some ds => sp (ds.map Lo.im) [] (fun l Mu => match l, Mu with
      | .im d, [] => K (.im d) M1
      | l, Mu => ∀ l' M', l' = renL (fun j => M1.length + j) l → M' = M1 ++ Mu.map (renM fun j => M1.length + j) → K l' M')
      fun x Mu => match Mu with
      | [] => ex x Γ M1
      | _ => ∀ M', M' = M1 ++ Mu.map (renM fun j => M1.length + j) → ex x Γ M'
    | none => False) : PickOk [] M1 ∧ refLs (· ∈ ([] : List Nat)) ls ∧ ∃ (Kd : Lo → Led → Prop) (Ed : Exn → Led → Prop), sp (ls.map (renL (loc []))) (pick [] M1) Kd Ed ∧ (∀ l Mu, Kd l Mu → K (renL (ren [] M1.length) l) (put [] Mu M1)) ∧ ∀ x Mu, Ed x Mu → ex x Γ (put [] Mu M1) := by
  split at h
  · rename_i ds e
    rw [allIm_map e]
    refine ⟨pick0, refLs_im ds, _, _, by rw [ims_loc]; exact h, fun l Mu k => ?_, fun x Mu k => ?_⟩
    · rw [put0, ren0]
      split at k
      · show K (.im _) (M1 ++ [])
        rw [List.append_nil]
        exact k
      · exact k _ _ rfl rfl
    · rw [put0]
      split at k
      · show ex x Γ (M1 ++ [])
        rw [List.append_nil]
        exact k
      · exact k _ rfl
  · exact h.elim
theorem callP_ok {Γ : Gam} {M1 : Led} {K : Lo → Led → Prop} {ls : List Lo} (h : match ls with
  | .ow 0 :: r => match allIm r, M1[0]? with
    | some ds, some m => flatM m = true ∧ sp (.ow 0 :: ds.map Lo.im) [m] (fun l Mu => match l, Mu with
      | .im d, [.li x] => K (.im d) (M1.set 0 (.li x))
      | _, _ => False) fun _ _ => False
    | _, _ => False
  | _ => False) : PickOk [0] M1 ∧ refLs (· ∈ ([0] : List Nat)) ls ∧ ∃ (Kd : Lo → Led → Prop) (Ed : Exn → Led → Prop), sp (ls.map (renL (loc [0]))) (pick [0] M1) Kd Ed ∧ (∀ l Mu, Kd l Mu → K (renL (ren [0] M1.length) l) (put [0] Mu M1)) ∧ ∀ x Mu, Ed x Mu → False := by
  split at h
  · rename_i r
    split at h
    · rename_i ds m e1 e2
      obtain ⟨hf, h⟩ := h
      obtain ⟨h1, h2⟩ := flat_pick e2 hf
      rw [allIm_map e1]
      refine ⟨h1, ⟨by show (0 : Nat) ∈ [0]; simp, refLs_im ds⟩, (fun l Mu => match l, Mu with
        | .im d, [.li x] => K (.im d) (M1.set 0 (.li x))
        | _, _ => False), (fun _ _ => False), ?_, fun l Mu k => ?_, fun x Mu k => k⟩
      · rw [h2]
        show sp (.ow 0 :: (ds.map Lo.im).map (renL (loc [0]))) [m] _ _
        rw [map_ren0]
        exact h
      · dsimp only at k
        split at k
        · rename_i d x
          show K (.im d) (M1.set 0 (.li x) ++ [])
          rw [List.append_nil]
          exact k
        · exact k.elim
    · exact h.elim
  · exact h.elim
theorem q_callD (F : Gn C.T X.prog X.w X.K X.mg X.base k f fd ps sp) (hm : X.mg x = some (.ref f)) (hb : Binds X.K fd ps []) (hk : PySem.W.keepIn X.K (.ref f) = true) (hr : Room k X.A) (hg : X.A.guards = some []) (hK : C.K = X.K) (tk : Takes X (UW C ex)) (ha : QA C X (e :: es) t)
    (hgl : Gl X x := by rfl) (hdb : (x == ("__debug__" : Str)) = false := by decide) (he : starEach (e :: es) X.env = (false, eval e X.env) :: starEach es X.env := by rfl) (hpl : (backTo pos (starEach es X.env)).any (·.1) = false := by rfl) :
    QE C X (.Call (.Name x p) (e :: es) [] pos) (rCallD sp ex t) := ⟨fun pins s σ H Q I ⟨As, G, Γ, M, K, S, h, q⟩ => by
  refine wpAny_Call_Name_kw (ld_glob I hgl hm ?_ hdb)
  have hA := ha.run pos pins s σ H (fun vs H1 => ∃ (As1 : List Addr) (G1 : Hp) (M1 : Led) (ls : List Lo), Gr C As G As1 G1 H1 Γ M1 σ ∧ LRpL C.K As1 G1 vs ls ∧ _) I ⟨As, G, Γ, M, _, S, h, fun ls M1 vs As1 G1 H1 g1 rl k1 => ⟨As1, G1, M1, ls, g1, rl, k1⟩⟩
  refine PySem.W.callWith_K (h₀ := X.base) I.ok.mod.kin hk (thn hA fun us s1 ⟨vs, H1, I1, r, As1, G1, M1, ls, g1, rl, h1⟩ => ⟨I1.kIn, ?_⟩) he hpl
  obtain ⟨ok, hls, Kd, Ed, h2, h3, h4⟩ := callD_ok h1
  exact run_gn F hr hg hb hK tk I1 r g1.sat rl ok hls h2 (fun l Mu v As' G' H' g rv k => q _ _ v As' G' H' (g1.trans g) rv (h3 l Mu k)) h4⟩
theorem q_callP (F : Gn C.T X.prog X.w X.K X.mg X.base k f fd ps sp) (hm : X.mg x = some (.ref f)) (hb : Binds X.K fd ps []) (hk : PySem.W.keepIn X.K (.ref f) = true) (hr : Room k X.A) (hg : X.A.guards = some []) (hK : C.K = X.K) (ha : QA C X (e :: es) t)
    (hgl : Gl X x := by rfl) (hdb : (x == ("__debug__" : Str)) = false := by decide) (he : starEach (e :: es) X.env = (false, eval e X.env) :: starEach es X.env := by rfl) (hpl : (backTo pos (starEach es X.env)).any (·.1) = false := by rfl) :
    QE C X (.Call (.Name x p) (e :: es) [] pos) (rCallP sp t) := ⟨fun pins s σ H Q I ⟨As, G, Γ, M, K, S, h, q⟩ => by
  refine wpAny_Call_Name_kw (ld_glob I hgl hm ?_ hdb)
  have hA := ha.run pos pins s σ H (fun vs H1 => ∃ (As1 : List Addr) (G1 : Hp) (M1 : Led) (ls : List Lo), Gr C As G As1 G1 H1 Γ M1 σ ∧ LRpL C.K As1 G1 vs ls ∧ _) I ⟨As, G, Γ, M, _, S, h, fun ls M1 vs As1 G1 H1 g1 rl k1 => ⟨As1, G1, M1, ls, g1, rl, k1⟩⟩
  refine PySem.W.callWith_K (h₀ := X.base) I.ok.mod.kin hk (thn hA fun us s1 ⟨vs, H1, I1, r, As1, G1, M1, ls, g1, rl, h1⟩ => ⟨I1.kIn, ?_⟩) he hpl
  obtain ⟨ok, hls, Kd, Ed, h2, h3, h4⟩ := callP_ok (Γ := Γ) h1
  exact run_gn F hr hg hb hK (tkF (C := C)) I1 r g1.sat rl ok hls h2 (fun l Mu v As' G' H' g rv k => q _ _ v As' G' H' (g1.trans g) rv (h3 l Mu k)) fun x Mu z => (h4 x Mu z).elim⟩
end
/-- what is to be shown of a def, the program out of sight -/
abbrev MtX (sp : DSp) (rd : EX → RS) (N : List Str) : Prop := ∀ {ls : List Lo} {M : Led} {Kd : Lo → Led → Prop} {Ed : Exn → Led → Prop}, sp ls M Kd Ed → rd (fun x _ M' => BackX M.length Ed x M') { nx := fun _ M' => Back M.length Kd (.im .non) M', rt := Back M.length Kd } (gam0 N ls) M
end Dl
set_option Elab.async false
set_option maxRecDepth 100000
set_option maxHeartbeats 1000000
namespace L2
open PySem PySem.Spec PyProof.Rows
end L2
namespace Dl
open PySem PySem.Spec PyProof.Rows L2
/-- a class by its name: a built-in one, an exception of the program's own, another own one -/
inductive Tn where
  | b (n : String) | e (n : String) | o (n : String)
  deriving DecidableEq
def Tn.val (K : PySem.W.Frag) : Tn → Value
  | .b n => .type n
  | .e n => .ref (cn K n)
  | .o n => .ref (cn K n)
def Tn.d : Tn → D
  | .b n => .ty n
  | .e n => .kls n
  | .o n => .kls n
structure InsC (K : PySem.W.Frag) (C : Addr) : Prop where
  cl : Cls K C
  ha : PySem.W.findIn K (.ref C) "__class__" = some (some (.builtin "object.__class__"))
  hn : PySem.W.specialIn K (.builtin "object.__class__") "__get__" = some (some (.builtin "getset_descriptor.__get__"))
  ht : PySem.W.takesIn K (.builtin "object.__class__") = some true
  hm : PySem.W.mroIn K C (.type "object") = some true
abbrev Tb := List (Tn × Tn × Bool)
def isT : Tb → Tn → Tn → Option Bool
  | [], _, _ => none
  | (a, c, r) :: t, m, n => if a = m ∧ c = n then some r else isT t m n
def isAny (tb : Tb) (m : Tn) : List Tn → Option Bool
  | [] => some false
  | n :: r => match isT tb m n with
    | some true => some true
    | some false => isAny tb m r
    | none => none
def MOk (K : PySem.W.Frag) : Tn → Prop
  | .b _ => True
  | .e n => ExcC K (cn K n)
  | .o n => InsC K (cn K n)
def TbOk (K : PySem.W.Frag) : Tb → Prop
  | [] => True
  | (m, n, r) :: t => (PySem.W.kitOne K (m.val K) (n.val K) = some r ∧ MOk K m) ∧ TbOk K t
theorem isT_ok {K : PySem.W.Frag} {m n : Tn} {r : Bool} : ∀ {tb : Tb}, TbOk K tb → isT tb m n = some r → PySem.W.kitOne K (m.val K) (n.val K) = some r ∧ MOk K m
  | [], _, h => by cases h
  | (a, c, q) :: t, ok, h => by
    unfold isT at h
    by_cases e : a = m ∧ c = n
    · rw [if_pos e] at h
      cases h
      obtain ⟨rfl, rfl⟩ := e
      exact ok.1
    · rw [if_neg e] at h
      exact isT_ok ok.2 h
theorem isAny_ok {K : PySem.W.Frag} {m : Tn} {tb : Tb} (ok : TbOk K tb) : ∀ {ns : List Tn} {r : Bool}, isAny tb m ns = some r → PySem.W.kitAny K (m.val K) (ns.map (Tn.val K)) = some r ∧ (ns ≠ [] → MOk K m)
  | [], r, h => by
    cases h
    exact ⟨rfl, fun z => absurd rfl z⟩
  | n :: ns, r, h => by
    unfold isAny at h
    split at h
    · rename_i e
      cases h
      obtain ⟨h1, h2⟩ := isT_ok ok e
      exact ⟨kitAny_cons h1 (fun z => nomatch z) fun _ => rfl, fun _ => h2⟩
    · rename_i e
      obtain ⟨h1, h2⟩ := isT_ok ok e
      exact ⟨kitAny_cons h1 (fun _ => (isAny_ok ok h).1) (fun z => nomatch z), fun _ => h2⟩
    · cases h
/-- the class of what stands there -/
def tyT (M : Led) : Lo → Option Tn
  | .im (.exc C _) => some (.e C)
  | .im (.ins C _) => some (.o C)
  | .im d => d.tyn.map Tn.b
  | .tp _ => some (.b "tuple")
  | .ow k => match M[k]? with
    | some (.ob C _) => some (.o C)
    | _ => (tyL M (.ow k)).map Tn.b
/-- what the library's rules ask of such a value -/
def KitP (X : Cx) (s : Shared) (u t : Value) : Prop := ∃ P : Heap → Prop, PySem.W.KitX X.K u t P ∧ P s.heap ∧ u ≠ .builtin "__main__.__loader__#opaque"
theorem exc_inst {X : Cx} {pins : List (Addr × Obj)} {σ : L2.St} {H : Hp} {s : Shared} {a C : Addr} {d : Option Addr} (I : Inv X pins σ H s) (h : H a = some (ExT (.ref C) d a)) (hd : ∀ dd, d = some dd → ∃ fs, H dd = some (.xd fs)) :
    ∃ oe od, PySem.W.InstAt s.heap a oe C od ∧ ∀ dd, d = some dd → ∃ o, od = some o ∧ s.heap.get? dd = some o := by
  obtain ⟨⟨oe, vs, e, hz, hv⟩, _⟩ := (show ObjOk X.prog X.w H s.heap a (ExT (.ref C) d a) from I.hok a _ h)
  obtain ⟨oc, od, oda, osl⟩ := oe
  obtain ⟨h1, h2⟩ := hz
  dsimp only at h1 h2 hv
  subst h1 h2 hv
  cases od with
  | none => exact ⟨_, none, ⟨e, rfl, rfl, trivial⟩, fun dd z => nomatch z⟩
  | some dd =>
    obtain ⟨fs, q⟩ := hd dd rfl
    obtain ⟨mA, hn, _⟩ := (show ObjOk X.prog X.w H s.heap dd (.xd fs) from I.hok dd _ q)
    obtain ⟨o, _, _, eo, _⟩ := hn
    exact ⟨_, some o, ⟨e, rfl, rfl, eo⟩, fun d' z => by cases z; exact ⟨o, rfl, eo⟩⟩
theorem kit_lo {C : Fc} {X : Cx} {pins : List (Addr × Obj)} {σ σ' : L2.St} {H : Hp} {s : Shared} {As : List Addr} {G : Hp} {Γ : Gam} {M : Led} {v : V} {u : Value} {l : Lo} {m : Tn} (hK : C.K = X.K) (I : Inv X pins σ' H s) (S : Sat C As G H Γ M σ) (r : LRp C.K As G v l) (ru : RelV v u) (e : tyT M l = some m) (ok : MOk C.K m) :
    KitP X s u (m.val C.K) := by
  have base : ∀ {n : String}, tyL M l = some n → m = .b n → KitP X s u (m.val C.K) := fun {n} h1 h2 => by
    subst h2
    have ty := tyn_ok S r h1
    rw [hK] at ty
    exact kit_of I ru ty
  have exc : ∀ {a : Addr} {n : String} {d : Option Addr}, u = .ref a → G a = some (ExT (.ref (cn C.K n)) d a) → (∀ dd, d = some dd → ∃ fs, G dd = some (.xd fs)) → m = .e n → KitP X s u (m.val C.K) := fun {a n d} eu hg hd em => by
    subst em eu
    obtain ⟨oe, od, J, _⟩ := exc_inst I (S.le _ _ hg) fun dd z => by
      obtain ⟨fs, q⟩ := hd dd z
      exact ⟨fs, S.le _ _ q⟩
    have E : ExcC C.K (cn C.K n) := ok
    have hcl : (PySem.W.clsIn C.K (cn C.K n)).isSome = true := by
      obtain ⟨cd, hc, _⟩ := PySem.W.any_some E.hd
      rw [hc]; rfl
    rw [hK] at E hcl J ⊢
    exact ⟨_, PySem.W.kitx_exc hcl E.hg E.hk E.hs E.ha E.hn E.ht E.hm, J, fun z => nomatch z⟩
  have ins : ∀ {a dx : Addr} {n : String} {fs : List (Str × V)}, v = .ref a → H a = some (.ins (cn C.K n) dx fs) → m = .o n → KitP X s u (m.val C.K) := fun {a dx n fs} ev hh em => by
    subst em ev
    have E : InsC C.K (cn C.K n) := ok
    rw [hK] at E hh ⊢
    exact kit_of I ru (.base (.ins hh E.cl E.ha E.hn E.ht E.hm))
  cases l with
  | tp ls =>
    cases e
    exact base (n := "tuple") rfl rfl
  | ow k =>
    obtain ⟨a, ha, rfl⟩ := r
    simp only [tyT] at e
    split at e
    · rename_i C' fs e1
      cases e
      obtain ⟨_, o, h0, dx, fvs, rfl, _⟩ := S.own _ _ _ ha e1 (by intro z; cases z)
      exact ins rfl h0 rfl
    · cases e2 : tyL M (.ow k) with
      | none => rw [e2] at e; cases e
      | some n => rw [e2] at e; cases e; exact base e2 rfl
  | im d =>
    cases d with
    | exc n fs =>
      cases e
      cases r with
      | exc0 h => exact exc ru h (fun dd z => nomatch z) rfl
      | excD h h2 _ _ => exact exc ru h (fun dd z => by cases z; exact ⟨_, h2⟩) rfl
    | ins n fs =>
      cases e
      cases r with
      | ins h _ _ => exact ins rfl (S.le _ _ h) rfl
    | non => cases e; exact base (n := "NoneType") rfl rfl
    | bl b => cases e; exact base (n := "bool") rfl rfl
    | int b => cases e; exact base (n := "int") rfl rfl
    | str b => cases e; exact base (n := "str") rfl rfl
    | lst b => cases e; exact base (n := "list") rfl rfl
    | tup b => cases e; exact base (n := "tuple") rfl rfl
    | dct b => cases e; exact base (n := "dict") rfl rfl
    | _ => cases e
theorem clsv_of {K : PySem.W.Frag} {G : Hp} {v : V} {n : Tn} (r : Rp K G v n.d) : ClsV v (n.val K) := by
  cases n with
  | b n => cases r; exact .ty n
  | e n => cases r; exact .own _
  | o n => cases r; exact .own _
/-- isinstance(e, c), (c1, ..) -/
def rIs (tb : Tb) (ns : List Tn) (te : RE) : RE := fun Γ M K => te Γ M fun l M1 => match tyT M1 l with
  | some m => match isAny tb m ns with
    | some b => K (.im (.bl b)) M1
    | none => False
  | none => False
section
variable {C : Fc} {X : Cx} {a : Expr} {ta : RE} {p pos : Pos} {c : Expr} {tc : RE}
theorem call_isX {C : Fc} {As : List Addr} {G : Hp} {Γ : Gam} {M : Led} {tb : Tb} {m : Tn} {ns : List Tn} {b : Bool} {l lc : Lo} {pins : List (Addr × Obj)} {σ σ' : L2.St} {H : Hp} {s : Shared} {us : List Value} {v vc : V} {Q : VK} (hK : C.K = X.K) (tok : TbOk C.K tb) (hne : ns ≠ []) (S : Sat C As G H Γ M σ) (r : LRp C.K As G v l)
    (rc : LRp C.K As G vc lc) (hc : (∃ n, ns = [n] ∧ lc = .im n.d) ∨ lc = .im (.tup (ns.map Tn.d))) (e : tyT M l = some m) (hb : isAny tb m ns = some b) (I : Inv X pins σ' H s) (rv : Vals [v, vc] us) (q : Q (.bl b) H) :
    wpAny (model X.prog X.w) X.A (call (.builtin "isinstance") us) (EP X pins σ' Q) X.xe s := by
  obtain ⟨h1, h2⟩ := isAny_ok tok hb
  obtain ⟨u1, u2, rfl, r1, r2⟩ := vals2 rv
  obtain ⟨P, Z, p, hx⟩ := kit_lo hK I S r r1 e (h2 hne)
  rcases hc with ⟨n, rfl, rfl⟩ | rfl
  · have e2 := (clsv_of rc).eq r2
    subst e2
    have h1' : PySem.W.kitOne C.K (m.val C.K) (n.val C.K) = some b := by
      unfold isAny at hb
      split at hb
      · rename_i e3; cases hb; exact (isT_ok tok e3).1
      · rename_i e3; cases hb; exact (isT_ok tok e3).1
      · cases hb
    rw [hK] at h1' Z ⊢
    exact PySem.W.kia_one Z I.kIn p h1' hx fun tk => ⟨.bl b, H, I.tok tk, rfl, q⟩
  · obtain ⟨tp, cs, rfl, hT, rr⟩ := S.imT rc
    cases (show u2 = Value.ref tp from r2)
    obtain ⟨_, its, rw', o, g1, g2, n, g3⟩ := (show ObjOk X.prog X.w H s.heap tp (.tup cs) from I.hok tp _ hT)
    have k : ∀ {cs : List V} {ns : List Tn}, RpL C.K G cs (ns.map Tn.d) → Paired ClsV cs (ns.map (Tn.val C.K)) := fun {cs ns} rr => by
      induction ns generalizing cs with
      | nil => cases rr; exact .nil
      | cons n ns ih =>
        cases rr with
        | cons r1 r2 => exact .cons (clsv_of r1) (ih r2)
    have e3 := ClsV.all (k rr) rw'
    subst e3
    obtain ⟨oc, od, dt, sl⟩ := o
    simp only at g2 g3
    subst g2 g3
    rw [hK] at h1 Z
    rw [hK] at g1
    exact PySem.W.kia_tup Z I.kIn p g1 h1 hx fun tk => ⟨.bl b, H, I.tok tk, rfl, q⟩
/-- the class as a value -/
theorem q_kls (n : String) {x : Str} {pos : Pos} (hK : C.K = X.K) (hm : X.mg x = some (.ref (cn X.K n))) (hg : Gl X x := by rfl) (hd : (x == ("__debug__" : Str)) = false := by decide) : QE C X (.Name x pos) (rCon (.kls n)) :=
  PE.imp (pe_glob (v := .ref (cn X.K n)) hg hm rfl hd) (up_con fun _ => by rw [hK]; exact .kls n)
/-- a call asked as it stands -/
def rRaw (X : Cx) (f : Value) : List V → Hp → VK → Prop := fun xs H Q => ∀ (pins : List (Addr × Obj)) (σ : L2.St) (s : Shared) (us : List Value), Inv X pins σ H s → Vals xs us → wpAny (model X.prog X.w) X.A (call f us) (EP X pins σ Q) X.xe s
theorem raw_ok {f : Value} : CallR X f (rRaw X f) := fun pins s σ H xs us Q I r h => h pins σ s us I r
theorem q_isX {tb : Tb} (ns : List Tn) (hK : C.K = X.K) (tok : TbOk C.K tb) (hm : X.mg "isinstance" = none) (hne : ns ≠ []) (hc : QE C X c tc) (dc : D) (hdc : (∃ n, ns = [n] ∧ dc = n.d) ∨ dc = .tup (ns.map Tn.d)) (hcv : ∀ Γ M K, K (.im dc) M → tc Γ M K) (ha : QE C X a ta) (hg : Gl X "isinstance" := by rfl)
    (he : starEach [a, c] X.env = (false, eval a X.env) :: starEach [c] X.env := by rfl) (he2 : starEach [c] X.env = (false, eval c X.env) :: starEach [] X.env := by rfl) (hpl : (backTo pos (starEach [c] X.env)).any (·.1) = false := by rfl) :
    QE C X (.Call (.Name "isinstance" p) [a, c] [] pos) (rIs tb ns ta) :=
  PE.imp (pe_callB (id := "isinstance") raw_ok hg hm (by decide +kernel) (pa_cons ha (pa_cons hc pa_nil he2) he) (by decide) (by decide) he hpl) fun σ H Q ⟨As, G, Γ, M, K, S, h, q⟩ => by
    refine ⟨As, G, Γ, M, _, S, h, fun l M1 v As1 G1 H1 g1 rv t1 => ?_⟩
    split at t1
    · rename_i m e1
      split at t1
      · rename_i b e2
        refine ⟨As1, G1, Γ, M1, fun l M2 => l = .im dc ∧ M2 = M1, g1.sat, hcv _ _ _ ⟨rfl, rfl⟩, fun lc M2 vc As2 G2 H2 g2 rc e => ?_⟩
        obtain ⟨rfl, rfl⟩ := e
        have rv2 := rv.mono g2.g g2.p
        intro pins σ' s us I rvs
        refine call_isX hK tok hne g2.sat rv2 rc ?_ e1 e2 I rvs (q (.im (.bl b)) _ _ As2 G2 H2 (g1.trans g2) (Rp.bl b) t1)
        rcases hdc with ⟨n, h1, h2⟩ | h1
        · exact .inl ⟨n, h1, by rw [h2]⟩
        · exact .inr (by rw [h1])
      · exact t1.elim
    · exact t1.elim
end
end Dl
namespace Dl
open PySem PySem.Spec PyProof.Rows L2
theorem Fc_try {C : Fc} {As As' : List Addr} {G G' H' : Hp} {Γ' : Gam} {M' : Led} {σ' : L2.St} (ha : C.Ab <+: As) (hg : Same C.Gb G) (S : Sat { C with Ab := As, Gb := G } As' G' H' Γ' M' σ') : Sat C As' G' H' Γ' M' σ' :=
  ⟨S.le, S.stp, S.own, S.fr, S.inj, S.al, S.asS, S.there, S.slot, S.len, hg.trans S.bg, ha.trans S.ba, S.tb⟩
theorem Fc_in {C : Fc} {As : List Addr} {G H : Hp} {Γ : Gam} {M : Led} {σ : L2.St} (S : Sat C As G H Γ M σ) : Sat { C with Ab := As, Gb := G } As G H Γ M σ :=
  ⟨S.le, S.stp, S.own, S.fr, S.inj, S.al, S.asS, S.there, S.slot, S.len, Same.refl _, List.prefix_refl _, S.tb⟩
theorem Fin_try {C : Fc} {As : List Addr} {G : Hp} {N : Nd} {D : Ends} (ha : C.Ab <+: As) (hg : Same C.Gb G) (f : Fin C G N D) : Fin { C with Ab := As, Gb := G } G N D :=
  ⟨fun Γ' M' σ' As' G' H' g k => f.nx Γ' M' σ' As' G' H' ⟨Fc_try ha hg g.sat, g.g⟩ k, fun l v Γ' M' σ' As' G' H' g rv k => f.rt l v Γ' M' σ' As' G' H' ⟨Fc_try ha hg g.sat, g.g⟩ rv k,
    fun Γ' M' σ' As' G' H' g k => f.bk Γ' M' σ' As' G' H' ⟨Fc_try ha hg g.sat, g.g⟩ k, fun Γ' M' σ' As' G' H' g k => f.ct Γ' M' σ' As' G' H' ⟨Fc_try ha hg g.sat, g.g⟩ k⟩
def excOf (x : Exn) : D := .exc x.C (x.pl.getD [])
end Dl
namespace Dl
open PySem PySem.Spec PyProof.Rows L2
theorem cls_some {K : PySem.W.Frag} {C : Addr} (h : PySem.W.hasDictIn K C = true) : (PySem.W.clsIn K C).isSome = true := by
  obtain ⟨cd, hc, _⟩ := PySem.W.any_some h
  rw [hc]
  rfl
theorem kit_own {K : PySem.W.Frag} {m C : Addr} {r : Bool} (hd : (PySem.W.clsIn K C).isSome = true) (ht : PySem.W.typeIn K (.ref C) = some (.type "type")) (hs : PySem.W.subIn K (.ref m) (.ref m) = some true) (h : PySem.W.subIn K (.ref m) (.ref C) = some r) : PySem.W.kitOne K (.ref m) (.ref C) = some r := by
  unfold PySem.W.kitOne
  by_cases e : m = C
  · subst e
    rw [hs] at h
    cases h
    rw [if_pos (by simp)]
  · rw [if_neg (by simp [e])]
    unfold PySem.W.kitCls
    dsimp only
    rw [if_pos (by rw [hd, ht]; rfl)]
    exact h
theorem kit_bo {K : PySem.W.Frag} {T : String} {C : Addr} {r : Bool} (hd : (PySem.W.clsIn K C).isSome = true) (ht : PySem.W.typeIn K (.ref C) = some (.type "type")) (h : PySem.W.subIn K (.type T) (.ref C) = some r) : PySem.W.kitOne K (.type T) (.ref C) = some r := by
  unfold PySem.W.kitOne
  rw [if_neg (by simp)]
  unfold PySem.W.kitCls
  dsimp only
  rw [if_pos (by rw [hd, ht]; rfl)]
  exact h
end Dl
set_option Elab.async false
set_option maxRecDepth 100000
set_option maxHeartbeats 1000000
namespace L2
open PySem PySem.Spec PyProof.Rows
end L2
set_option Elab.async false
set_option maxRecDepth 100000
set_option maxHeartbeats 1000000
namespace PySem
end PySem
namespace PySem
end PySem
namespace PySem
end PySem
namespace PySem
end PySem
namespace PySem
end PySem
set_option Elab.async false
set_option maxRecDepth 100000
set_option maxHeartbeats 1000000
namespace Dl
open PySem PySem.Spec PyProof.Rows L2
def unow (M : Led) : Lo → Option D
  | .im d => some d
  | .ow k => match M[k]? with
    | some m => datM m
    | none => none
  | .tp _ => none
def unows (M : Led) : List Lo → Option (List D)
  | [] => some []
  | l :: r => match unow M l, unows M r with
    | some d, some ds => some (d :: ds)
    | _, _ => none
theorem q_thru {C : Fc} {X : Cx} {body : List Stmt} {h₀ : ExceptHandler} {hs : List ExceptHandler} {t : RS} {pos : Pos} (hb : QSs C X.nox body t) : QS C X (.Try body (h₀ :: hs) [] [] pos) t := ps_try_thru0 hb
end Dl
namespace L2
open PySem PySem.Spec PyProof.Rows
end L2
namespace Dl
open PySem PySem.Spec PyProof.Rows L2
def ow1 : List Lo → Option Nat
  | [] => none
  | .ow k :: r => match allIm r with
    | some _ => some k
    | none => none
  | .im _ :: r => ow1 r
  | .tp _ :: _ => none
def lo0 : Lo → Lo
  | .ow _ => .ow 0
  | l => l
end Dl
set_option Elab.async false
set_option maxRecDepth 100000
set_option maxHeartbeats 1000000
namespace Dl
open PySem PySem.Spec PyProof.Rows L2
def kPd : Key → PyData
  | .inl i => .int i
  | .inr x => .str x
mutual
def D.pr : D → PyData
  | .non => .none
  | .bl b => .bool b
  | .int i => .int i
  | .str x => .str x
  | .lst ds => .list (D.prL ds)
  | .tup ds => .tuple (D.prL ds)
  | .dct ks => .dict (D.prK ks)
  | .ty _ => .none
  | .cl _ => .none
  | .kls _ => .none
  | .scr _ => .none
  | .ins _ _ => .none
  | .exc _ _ => .none
def D.prL : List D → List PyData
  | [] => []
  | d :: ds => d.pr :: D.prL ds
def D.prK : List (Key × D) → List (PyData × PyData)
  | [] => []
  | p :: r => D.prP p :: D.prK r
def D.prP : Key × D → PyData × PyData
  | (k, d) => (kPd k, d.pr)
end
mutual
def D.flr : D → Bool
  | .non => true
  | .bl _ => true
  | .int _ => true
  | .str _ => true
  | .lst ds => D.flrL ds
  | .tup ds => D.flrL ds
  | .dct ks => D.flrK ks
  | .ty _ => false
  | .cl _ => false
  | .kls _ => false
  | .scr _ => false
  | .ins _ _ => false
  | .exc _ _ => false
def D.flrL : List D → Bool
  | [] => true
  | d :: ds => d.flr && D.flrL ds
def D.flrK : List (Key × D) → Bool
  | [] => true
  | p :: r => D.flrP p && D.flrK r
def D.flrP : Key × D → Bool
  | (_, d) => d.flr
end
mutual
theorem pr_pd : ∀ d : D, d.flat = true → d.pr = d.pd ∧ d.flr = true
  | .non, _ => ⟨rfl, rfl⟩
  | .bl _, _ => ⟨rfl, rfl⟩
  | .int _, _ => ⟨rfl, rfl⟩
  | .str _, _ => ⟨rfl, rfl⟩
  | .lst ds, h => by
    obtain ⟨h1, h2⟩ := pr_pdL ds h
    exact ⟨congrArg PyData.list h1, h2⟩
  | .tup ds, h => by
    obtain ⟨h1, h2⟩ := pr_pdL ds h
    exact ⟨congrArg PyData.tuple h1, h2⟩
  | .dct _, h => by cases h
  | .ty _, h => by cases h
  | .cl _, h => by cases h
  | .kls _, h => by cases h
  | .scr _, h => by cases h
  | .ins _ _, h => by cases h
  | .exc _ _, h => by cases h
theorem pr_pdL : ∀ ds : List D, D.flatL ds = true → D.prL ds = D.pdL ds ∧ D.flrL ds = true
  | [], _ => ⟨rfl, rfl⟩
  | d :: ds, h => by
    have h' := Bool.and_eq_true_iff.mp (show (d.flat && D.flatL ds) = true from h)
    obtain ⟨h1, h2⟩ := pr_pd d h'.1
    obtain ⟨h3, h4⟩ := pr_pdL ds h'.2
    refine ⟨?_, ?_⟩
    · show d.pr :: D.prL ds = d.pd :: D.pdL ds
      rw [h1, h3]
    · show (d.flr && D.flrL ds) = true
      rw [h2, h4]
      rfl
end
def okrr (d : D) : Bool := d.flr && d.pr.showable && decide (d.pr.depth ≤ 64) && decide (d.pr.shown.length ≤ sizeLine)
/-- what a value shows -/
def Sh (P : Program) (w : World) (h : Heap) (u : Value) (p : PyData) : Prop := (∃ as, Reads h u p as) ∧ ∃ bs, ReadAtMost h p.depth bs ∧ ReprK P w bs h p.depth u p.shown
def ShL (P : Program) (w : World) (h : Heap) (us : List Value) (ps : List PyData) : Prop := (∃ as, ReadsAll h us ps as) ∧ ∃ bs, ReadAtMost h (PyData.depthAll ps) bs ∧ ReprAllK P w bs h (PyData.depthAll ps) us (PyData.shownAll ps)
section
variable {P : Program} {w : World} {h : Heap} {a : Addr}
theorem shL_nil : ShL P w h [] [] := ⟨⟨_, .nil⟩, [], (fun _ h => nomatch h), by simp only [PyData.shownAll]; exact .nil⟩
theorem shL_cons {u : Value} {p : PyData} {us : List Value} {ps : List PyData} (h1 : Sh P w h u p) (h2 : ShL P w h us ps) : ShL P w h (u :: us) (p :: ps) := by
  obtain ⟨⟨as, r⟩, b1, hb1, k1⟩ := h1
  obtain ⟨⟨as2, r2⟩, b2, hb2, k2⟩ := h2
  refine ⟨⟨_, .cons r r2⟩, b1 ++ b2, (hb1.mono ?_).append (hb2.mono ?_), ?_⟩
  · simp only [PyData.depthAll]
    exact Nat.le_max_left _ _
  · simp only [PyData.depthAll]
    exact Nat.le_max_right _ _
  · simp only [PyData.depthAll, PyData.shownAll]
    exact .cons ((k1.more fun b hb => List.mem_append_left _ hb).level_le (Nat.le_max_left _ _)) (k2.more_le (fun b hb => List.mem_append_right _ hb) (Nat.le_max_right _ _))
theorem sh_list {o : Obj} {its : List Value} {n : Nat} {ps : List PyData} (h1 : h.get? a = some o) (h2 : o.cls = .type "list") (h3 : o.data = .seq its.toArray n) (k : ShL P w h its ps) : Sh P w h (.ref a) (.list ps) := by
  obtain ⟨⟨as, r⟩, bs, hb, hk⟩ := k
  have rr : Reads h (.ref a) (.list ps) _ := .list h1 h2 h3 r
  have hna : a ∉ bs := not_mem_of_deeper rr (by simp only [PyData.depth]; omega) hb
  refine ⟨⟨_, rr⟩, a :: bs, ReadAtMost.cons rr (by simp only [PyData.depth]; omega) hb, ?_⟩
  simp only [PyData.depth, PyData.shown]
  cases its with
  | nil =>
    cases r
    simp only [PyData.shownAll, listText_nil]
    exact ReprK.listEmpty h1 h2 h3
  | cons x l => exact ReprK.list h1 h2 h3 hna (by simpa using hk.length_eq) (fun i y e => hk.item i y (by simpa using e))
theorem sh_tuple {o : Obj} {its : List Value} {n : Nat} {ps : List PyData} (h1 : h.get? a = some o) (h2 : o.cls = .type "tuple") (h3 : o.data = .seq its.toArray n) (k : ShL P w h its ps) : Sh P w h (.ref a) (.tuple ps) := by
  obtain ⟨⟨as, r⟩, bs, hb, hk⟩ := k
  have rr : Reads h (.ref a) (.tuple ps) _ := .tuple h1 h2 h3 r
  have hna : a ∉ bs := not_mem_of_deeper rr (by simp only [PyData.depth]; omega) hb
  refine ⟨⟨_, rr⟩, a :: bs, ReadAtMost.cons rr (by simp only [PyData.depth]; omega) hb, ?_⟩
  simp only [PyData.depth, PyData.shown]
  exact ReprK.tuple h1 h2 h3 hna hk
theorem sh_dict {o : Obj} {es : Array DictEntry} {n : Nat} {kvs : List (PyData × PyData)} (h1 : h.get? a = some o) (h2 : o.cls = .type "dict") (h3 : o.data = .dict es n) (hs : (a == sysModules) = false)
    (k : ShL P w h (es.toList.map (·.key)) (kvs.map (·.1))) (k2 : ShL P w h (es.toList.map (·.val)) (kvs.map (·.2))) : Sh P w h (.ref a) (.dict kvs) := by
  obtain ⟨⟨as, r⟩, b1, hb1, hk1⟩ := k
  obtain ⟨⟨as2, r2⟩, b2, hb2, hk2⟩ := k2
  have rr : Reads h (.ref a) (.dict kvs) _ := .dict h1 h2 h3 r r2
  have hb : ReadAtMost h (PyData.depthKv kvs) (b1 ++ b2) := (hb1.mono (PyData.depthAll_keys_le kvs)).append (hb2.mono (PyData.depthAll_vals_le kvs))
  have hna : a ∉ b1 ++ b2 := not_mem_of_deeper rr (by simp only [PyData.depth]; omega) hb
  refine ⟨⟨_, rr⟩, a :: (b1 ++ b2), ReadAtMost.cons rr (by simp only [PyData.depth]; omega) hb, ?_⟩
  simp only [PyData.depth, PyData.shown, PyData.shownKv_eq]
  exact ReprK.dict h1 h2 h3 hs hna (ReprEntriesK.of_two es.toList _ _ (hk1.more_le (fun b hb => List.mem_append_left _ hb) (PyData.depthAll_keys_le kvs)) (hk2.more_le (fun b hb => List.mem_append_right _ hb) (PyData.depthAll_vals_le kvs)))
end
theorem shown_list_le {ps : List PyData} (h : (PyData.list ps).shown.length ≤ sizeLine) : ∀ t ∈ PyData.shownAll ps, t.length ≤ sizeLine := fun t ht => by
  simp only [PyData.shown] at h
  exact Nat.le_trans (listText_mem_le ht) h
theorem shown_tup_le {ps : List PyData} (h : (PyData.tuple ps).shown.length ≤ sizeLine) : ∀ t ∈ PyData.shownAll ps, t.length ≤ sizeLine := fun t ht => by
  simp only [PyData.shown] at h
  exact Nat.le_trans (tupleText_mem_le ht) h
theorem shown_dict_le {kvs : List (PyData × PyData)} (h : (PyData.dict kvs).shown.length ≤ sizeLine) : (∀ t ∈ PyData.shownAll (kvs.map (·.1)), t.length ≤ sizeLine) ∧ ∀ t ∈ PyData.shownAll (kvs.map (·.2)), t.length ≤ sizeLine := by
  simp only [PyData.shown] at h
  refine ⟨fun t ht => ?_, fun t ht => ?_⟩
  · obtain ⟨p, hp, hl⟩ := PyData.shownKv_key_le kvs t ht
    exact Nat.le_trans hl (Nat.le_trans (dictText_mem_le hp) h)
  · obtain ⟨p, hp, hl⟩ := PyData.shownKv_val_le kvs t ht
    exact Nat.le_trans hl (Nat.le_trans (dictText_mem_le hp) h)
theorem kv_cons {p : Key × V} {l : List (Key × V)} {vs : List (Key × Value)} (h : KV (p :: l) vs) : ∃ q r, vs = q :: r ∧ p.1 = q.1 ∧ RelV p.2 q.2 ∧ KV l r := by
  cases h with
  | cons h1 h2 => exact ⟨_, _, rfl, h1.1, h1.2, h2⟩
theorem key_sh {P : Program} {w : World} {h : Heap} {k : Key} {u : Value} (hk : keyIs k u = true) (hs : (kPd k).showable = true) (hz : (kPd k).shown.length ≤ sizeLine) : Sh P w h u (kPd k) := by
  rcases keyIs_shape hk with ⟨i, t, rfl, rfl⟩ | ⟨x, t, rfl, rfl⟩
  · exact ⟨⟨_, .int i t⟩, [], (fun _ h => nomatch h), by simp only [kPd, PyData.shown]; exact .of_is (ReprIs.int t (by simpa [kPd, PyData.showable] using hs)) _ _ _⟩
  · exact ⟨⟨_, .str x t⟩, [], (fun _ h => nomatch h), by simp only [kPd, PyData.shown]; exact .of_is (ReprIs.str x t (by simpa only [kPd, PyData.shown] using hz)) _ _ _⟩
section
variable {X : Cx} {pins : List (Addr × Obj)} {σ : L2.St} {H : Hp} {s : Shared}
mutual
theorem sh_rp (I : Inv X pins σ H s) : ∀ (d : D) (v : V) (u : Value), Rp X.K H v d → d.flr = true → RelV v u → d.pr.showable = true → d.pr.shown.length ≤ sizeLine → Sh X.prog X.w s.heap u d.pr
  | .non, _, _, r, _, ru, _, _ => by
    cases r
    cases ru
    exact ⟨⟨_, .none⟩, [], (fun _ h => nomatch h), by simp only [D.pr, PyData.shown]; exact .of_is ReprIs.none _ _ _⟩
  | .bl b, _, _, r, _, ru, _, _ => by
    cases r
    cases ru
    exact ⟨⟨_, .bool b⟩, [], (fun _ h => nomatch h), by simp only [D.pr, PyData.shown]; exact .of_is (ReprIs.bool b) _ _ _⟩
  | .int i, _, _, r, _, ru, hs, _ => by
    cases r
    obtain ⟨t, rfl⟩ := ru
    exact ⟨⟨_, .int i t⟩, [], (fun _ h => nomatch h), by simp only [D.pr, PyData.shown]; exact .of_is (ReprIs.int t (by simpa [D.pr, PyData.showable] using hs)) _ _ _⟩
  | .str x, _, _, r, _, ru, _, hz => by
    cases r
    obtain ⟨t, rfl⟩ := ru
    exact ⟨⟨_, .str x t⟩, [], (fun _ h => nomatch h), by simp only [D.pr, PyData.shown]; exact .of_is (ReprIs.str x t (by simpa only [D.pr, PyData.shown] using hz)) _ _ _⟩
  | .lst ds, _, u, r, f, ru, hs, hz => by
    cases r with
    | @lst a xs _ h1 h2 =>
      obtain rfl : u = .ref a := ru
      obtain ⟨its, rv, ⟨o, n, ho, hc, hdn, hd⟩, hlen⟩ := I.list (SqL.of h1)
      exact sh_list ho hc hd (sh_rpL I ds xs its h2 f rv (by simpa [D.pr, PyData.showable] using hs) (shown_list_le hz))
  | .tup ds, _, u, r, f, ru, hs, hz => by
    cases r with
    | @tup a xs _ h1 h2 =>
      obtain rfl : u = .ref a := ru
      obtain ⟨_, its, rv, o, ho, hc, n, hd⟩ : xs.length ≤ sizeLine ∧ ∃ its : List Value, Vals xs its ∧ IsTup s.heap a its.toArray := I.hok a _ h1
      exact sh_tuple ho hc hd (sh_rpL I ds xs its h2 f rv (by simpa [D.pr, PyData.showable] using hs) (shown_tup_le hz))
  | .dct ks, _, u, r, f, ru, hs, hz => by
    cases r with
    | @dct a kvs _ h1 h2 h3 =>
      obtain rfl : u = .ref a := ru
      obtain ⟨_, hsm, vs, kv, o, es, ep, ho, hx, hd, _, pr, _⟩ := dk_of I.hok h1
      have hs' := PyData.showableKv_split _ (show PyData.showableKv (D.prK ks) = true by simpa [D.pr, PyData.showable] using hs)
      have hz' := shown_dict_le (kvs := D.prK ks) hz
      have q := sh_rpK I ks kvs vs es.toList h2 h3 f kv pr hs'.1 hs'.2 hz'.1 hz'.2
      exact sh_dict ho hx.1 hd hsm q.1 q.2
  | .ty _, _, _, _, f, _, _, _ => by cases f
  | .cl _, _, _, _, f, _, _, _ => by cases f
  | .kls _, _, _, _, f, _, _, _ => by cases f
  | .scr _, _, _, _, f, _, _, _ => by cases f
  | .ins _ _, _, _, _, f, _, _, _ => by cases f
  | .exc _ _, _, _, _, f, _, _, _ => by cases f
theorem sh_rpL (I : Inv X pins σ H s) : ∀ (ds : List D) (vs : List V) (us : List Value), RpL X.K H vs ds → D.flrL ds = true → Vals vs us → PyData.showableAll (D.prL ds) = true → (∀ t ∈ PyData.shownAll (D.prL ds), t.length ≤ sizeLine) → ShL X.prog X.w s.heap us (D.prL ds)
  | [], _, _, r, _, rv, _, _ => by
    cases r
    cases rv
    exact shL_nil
  | d :: ds, _, _, r, f, rv, hs, hz => by
    cases r with
    | cons r1 r2 =>
      cases rv with
      | cons v1 v2 =>
        have f' := Bool.and_eq_true_iff.mp (show (d.flr && D.flrL ds) = true from f)
        have hs' : d.pr.showable = true ∧ PyData.showableAll (D.prL ds) = true := by simpa [D.prL, PyData.showableAll] using hs
        exact shL_cons (sh_rp I d _ _ r1 f'.1 v1 hs'.1 (hz _ (by simp only [D.prL, PyData.shownAll]; exact List.mem_cons_self))) (sh_rpL I ds _ _ r2 f'.2 v2 hs'.2 fun t ht => hz t (by simp only [D.prL, PyData.shownAll]; exact List.mem_cons_of_mem _ ht))
theorem sh_rpK (I : Inv X pins σ H s) : ∀ (ks : List (Key × D)) (kvs : List (Key × V)) (vs : List (Key × Value)) (es : List DictEntry), kvs.map (·.1) = ks.map (·.1) → RpL X.K H (kvs.map (·.2)) (ks.map (·.2)) → D.flrK ks = true → KV kvs vs → Pairs (mixKind X.prog X.w) es vs →
    PyData.showableAll ((D.prK ks).map (·.1)) = true → PyData.showableAll ((D.prK ks).map (·.2)) = true → (∀ t ∈ PyData.shownAll ((D.prK ks).map (·.1)), t.length ≤ sizeLine) → (∀ t ∈ PyData.shownAll ((D.prK ks).map (·.2)), t.length ≤ sizeLine) →
    ShL X.prog X.w s.heap (es.map (·.key)) ((D.prK ks).map (·.1)) ∧ ShL X.prog X.w s.heap (es.map (·.val)) ((D.prK ks).map (·.2))
  | [], kvs, vs, es, hk, r, _, kv, pr, _, _, _, _ => by
    cases kvs with
    | cons _ _ => cases hk
    | nil =>
      cases kv
      cases pr
      exact ⟨shL_nil, shL_nil⟩
  | (k, d) :: ks, kvs, vs, es, hk, r, f, kv, pr, hs1, hs2, hz1, hz2 => by
    cases kvs with
    | nil => cases hk
    | cons p kvs =>
      obtain ⟨k', v⟩ := p
      rw [List.map_cons, List.map_cons, List.cons.injEq] at hk
      obtain ⟨hk1, hk2⟩ := hk
      obtain rfl : k' = k := hk1
      obtain ⟨q, r', rfl, e1, e2, kv'⟩ := kv_cons kv
      obtain ⟨kq, vq⟩ := q
      obtain rfl : k' = kq := e1
      cases pr with
      | @cons e _ es' _ q1 q2 q3 =>
        cases r with
        | cons r1 r2 =>
          have f' := Bool.and_eq_true_iff.mp (show (d.flr && D.flrK ks) = true from f)
          have hs1' : (kPd k').showable = true ∧ PyData.showableAll ((D.prK ks).map (·.1)) = true := by simpa [D.prK, D.prP, PyData.showableAll] using hs1
          have hs2' : d.pr.showable = true ∧ PyData.showableAll ((D.prK ks).map (·.2)) = true := by simpa [D.prK, D.prP, PyData.showableAll] using hs2
          have m1 : ∀ t, t ∈ (kPd k').shown :: PyData.shownAll ((D.prK ks).map (·.1)) → t.length ≤ sizeLine := fun t ht => hz1 t (by simp only [D.prK, D.prP, List.map_cons, PyData.shownAll]; exact ht)
          have m2 : ∀ t, t ∈ d.pr.shown :: PyData.shownAll ((D.prK ks).map (·.2)) → t.length ≤ sizeLine := fun t ht => hz2 t (by simp only [D.prK, D.prP, List.map_cons, PyData.shownAll]; exact ht)
          have q2' : e.val = vq := q2
          obtain ⟨z1, z2⟩ := sh_rpK I ks kvs r' es' hk2 r2 f'.2 kv' q3 hs1'.2 hs2'.2 (fun t ht => m1 t (List.mem_cons_of_mem _ ht)) fun t ht => m2 t (List.mem_cons_of_mem _ ht)
          refine ⟨shL_cons (key_sh q1 hs1'.1 (m1 _ List.mem_cons_self)) z1, ?_⟩
          show ShL X.prog X.w s.heap (e.val :: es'.map (·.val)) (d.pr :: (D.prK ks).map (·.2))
          rw [q2']
          exact shL_cons (sh_rp I d _ _ r1 f'.1 e2 hs2'.1 (m2 _ List.mem_cons_self)) z2
end
end
/-- by the value: a scalar, or an object that reads as the datum -/
theorem call_reprR {X : Cx} (hg : X.A.guards = some []) (hu : X.A.units + 70 < cLine) : CallR X (.builtin "repr") (fun xs H Q => ∃ x d, xs = [x] ∧ Rp X.K H x d ∧ okrr d = true ∧ Q (.str d.pr.shown) H) := by
  intro pins s σ H xs us Q I r h
  obtain ⟨x, d, rfl, hd, ho, q⟩ := h
  obtain ⟨u, rfl, ru⟩ := vals1 r
  unfold okrr at ho
  simp only [Bool.and_eq_true, decide_eq_true_eq] at ho
  obtain ⟨⟨⟨hf, h1⟩, h3⟩, h4⟩ := ho
  have leaf : ∀ {t : Str} {tk tk' : Tok}, t = d.pr.shown → EP X pins σ Q (.str t tk) { s with toks := tk' } := fun {t tk tk'} e => by
    subst e
    exact ⟨.str d.pr.shown, H, I.tok _, ⟨_, rfl⟩, q⟩
  have last : ∀ (h' : Heap) (u : Tok) (tk : Nat), (∀ b o, s.heap.get? b = some o → h'.get? b = some o) → EP X pins σ Q (.str d.pr.shown u) { s with heap := h', toks := tk } := fun h' u tk hk => ⟨.str _, H, I.kept hk, ⟨_, rfl⟩, q⟩
  cases d with
  | non => cases hd; cases ru; exact PySem.P.repr_of_none (leaf (by simp [D.pr, PyData.shown]))
  | bl b => cases hd; cases ru; exact PySem.P.repr_of_bool (leaf (by simp [D.pr, PyData.shown]))
  | int i => cases hd; obtain ⟨t, rfl⟩ := ru; exact PySem.P.repr_of_int (by simpa [D.pr, PyData.showable] using h1) (leaf (by simp [D.pr, PyData.shown]))
  | str y => cases hd; obtain ⟨t, rfl⟩ := ru; exact PySem.P.repr_of_str (leaf (by simp [D.pr, PyData.shown])) (by simpa [D.pr, PyData.shown] using h4)
  | lst ds =>
    cases hd with
    | @lst a xs _ e1 e2 =>
      obtain rfl : u = .ref a := ru
      obtain ⟨its, rv, ⟨o, n, ho, hc, hdn, hd⟩, hlen⟩ := I.list (SqL.of e1)
      obtain ⟨⟨as, r⟩, bs, hb, hk⟩ := sh_rpL I ds xs its e2 hf rv (by simpa [D.pr, PyData.showable] using h1) (shown_list_le h4)
      have hna : a ∉ bs := not_mem_of_deeper (.list ho hc hd r) (by simp only [PyData.depth]; omega) hb
      have hz : (listText (PyData.shownAll (D.prL ds))).length ≤ sizeLine := by simpa only [D.pr, PyData.shown] using h4
      have hde : PyData.depthAll (D.prL ds) + 1 ≤ 64 := by simpa only [D.pr, PyData.depth] using h3
      simp only [D.pr, PyData.shown] at last
      refine call_repr_slot (by omega) ⟨o, ho, hc⟩ PySem.F.slot_list_repr.toG ?_
      cases its with
      | nil =>
        generalize D.prL ds = ps at r last
        cases r
        simp only [PyData.shownAll, listText_nil] at last
        exact call_list_repr_empty ⟨o, ho, hc⟩ ho hd ⟨_, _, rfl, last s.heap _ _ fun _ _ e => e⟩
      | cons x l =>
        exact call_list_reprK ho hc hd hna (by simpa using hk.length_eq) (fun i y e => hk.item i y (by simpa using e)) hg (fun b _ => Clear.nil b) (by show X.A.units + 1 + (PyData.depthAll (D.prL ds) + 1) < cLine; omega) (fun _ _ e => e) (fun h' u tk hk => ⟨_, _, rfl, last h' u tk hk⟩) hz
  | tup ds =>
    cases hd with
    | @tup a xs _ e1 e2 =>
      obtain rfl : u = .ref a := ru
      obtain ⟨_, its, rv, o, ho, hc, n, hd⟩ : xs.length ≤ sizeLine ∧ ∃ its : List Value, Vals xs its ∧ IsTup s.heap a its.toArray := I.hok a _ e1
      obtain ⟨⟨as, r⟩, bs, hb, hk⟩ := sh_rpL I ds xs its e2 hf rv (by simpa [D.pr, PyData.showable] using h1) (shown_tup_le h4)
      have hna : a ∉ bs := not_mem_of_deeper (.tuple ho hc hd r) (by simp only [PyData.depth]; omega) hb
      have hz : (tupleText (PyData.shownAll (D.prL ds))).length ≤ sizeLine := by simpa only [D.pr, PyData.shown] using h4
      have hde : PyData.depthAll (D.prL ds) + 1 ≤ 64 := by simpa only [D.pr, PyData.depth] using h3
      simp only [D.pr, PyData.shown] at last
      refine call_repr_slot (by omega) ⟨o, ho, hc⟩ PySem.F.slot_tuple_repr ?_
      exact call_tuple_reprK ho hc hd hna hk hg (fun b _ => Clear.nil b) (by show X.A.units + 1 + (PyData.depthAll (D.prL ds) + 1) < cLine; omega) (fun _ _ e => e) (fun h' u tk hk => ⟨_, _, rfl, last h' u tk hk⟩) hz
  | dct ks =>
    cases hd with
    | @dct a kvs _ e1 e2 e3 =>
      obtain rfl : u = .ref a := ru
      obtain ⟨_, hsm, vs, kv, o, es, ep, ho, hx, hd, _, pr, _⟩ := dk_of I.hok e1
      have hs' := PyData.showableKv_split _ (show PyData.showableKv (D.prK ks) = true by simpa [D.pr, PyData.showable] using h1)
      have hz' := shown_dict_le (kvs := D.prK ks) h4
      obtain ⟨⟨⟨as, r⟩, b1, hb1, hk1⟩, ⟨as2, r2⟩, b2, hb2, hk2⟩ := sh_rpK I ks kvs vs es.toList e2 e3 hf kv pr hs'.1 hs'.2 hz'.1 hz'.2
      have hb : ReadAtMost s.heap (PyData.depthKv (D.prK ks)) (b1 ++ b2) := (hb1.mono (PyData.depthAll_keys_le _)).append (hb2.mono (PyData.depthAll_vals_le _))
      have hna : a ∉ b1 ++ b2 := not_mem_of_deeper (.dict ho hx.1 hd r r2) (by simp only [PyData.depth]; omega) hb
      have hde : PyData.depthKv (D.prK ks) + 1 ≤ 64 := by simpa only [D.pr, PyData.depth] using h3
      have hz : (dictText (PyData.shownKv (D.prK ks))).length ≤ sizeLine := by simpa only [D.pr, PyData.shown] using h4
      simp only [D.pr, PyData.shown, PyData.shownKv_eq] at last
      refine call_repr_slot (by omega) ⟨o, ho, hx.1⟩ PySem.F.slot_dict_repr ?_
      exact call_dict_reprK ho hx.1 hd hsm hna (ReprEntriesK.of_two es.toList _ _ (hk1.more_le (fun b hb => List.mem_append_left _ hb) (PyData.depthAll_keys_le _)) (hk2.more_le (fun b hb => List.mem_append_right _ hb) (PyData.depthAll_vals_le _)))
        hg (fun b _ => Clear.nil b) (by show X.A.units + 1 + (PyData.depthKv (D.prK ks) + 1) < cLine; omega) (fun _ _ e => e) (fun h' u tk hk => ⟨_, _, rfl, last h' u tk hk⟩) (by rw [← PyData.shownKv_eq]; exact hz)
  | _ => cases hf
/-- what is owned, read as a datum in the heap itself -/
theorem Sat.rpH {C : Fc} {As : List Addr} {G H : Hp} {Γ : Gam} {M : Led} {σ : L2.St} {v : V} {l : Lo} {d : D} (S : Sat C As G H Γ M σ) (r : LRp C.K As G v l) (h : snap M l = some d) : Rp C.K H v d := by
  cases l with
  | tp _ => cases h
  | im e =>
    cases h
    exact Rp.mono S.le r
  | ow k =>
    obtain ⟨a, ha, rfl⟩ := r
    simp only [snap] at h
    split at h
    · rename_i es e
      cases h
      obtain ⟨_, o, h0, xs, rfl, rx⟩ := S.own _ _ _ ha e (by intro z; cases z)
      exact .lst h0 (rx.mono S.le)
    · rename_i ks e
      cases h
      obtain ⟨_, o, h0, kvs, rfl, rk, rx⟩ := S.own _ _ _ ha e (by intro z; cases z)
      exact .dct h0 rk (rx.mono S.le)
    · cases h
def oReprR : RnL := fun ls M K => match ls with
  | [x] => match snap M x with
    | some d => okrr d = true ∧ K (.im (.str d.pr.shown)) M
    | none => False
  | _ => False
theorem reprRL {C : Fc} : CaL C (fun xs H Q => ∃ x d, xs = [x] ∧ Rp C.K H x d ∧ okrr d = true ∧ Q (.str d.pr.shown) H) oReprR := fun {As G H Γ M σ xs ls K Q} S rl t q => by
  unfold oReprR at t
  split at t
  · obtain ⟨v, rfl, r⟩ := rl.one
    split at t
    · rename_i d e
      exact ⟨v, d, rfl, S.rpH r e, t.1, q (.im (.str _)) M _ As G H (Gr.refl S) (Rp.str _) t.2⟩
    · exact t.elim
  · exact t.elim
/-- a datum that repr shows, not deeper than k, its text not longer than m -/
structure Fr (k m : Nat) (d : D) : Prop where
  f : d.flr = true
  s : d.pr.showable = true
  p : d.pr.depth ≤ k
  l : d.pr.shown.length ≤ m
theorem Fr.ok {k m : Nat} {d : D} (h : Fr k m d) (hk : k ≤ 64 := by decide) (hm : m ≤ sizeLine := by decide) : okrr d = true := by
  unfold okrr
  rw [h.f, h.s, decide_eq_true (Nat.le_trans h.p hk), decide_eq_true (Nat.le_trans h.l hm)]
  rfl
theorem Fr.up {k m k' m' : Nat} {d : D} (h : Fr k m d) (hk : k ≤ k' := by decide) (hm : m ≤ m' := by decide) : Fr k' m' d := ⟨h.f, h.s, Nat.le_trans h.p hk, Nat.le_trans h.l hm⟩
theorem Fr.of {k m : Nat} {d : D} (h : d.fit = true ∧ d.dep ≤ k ∧ d.wt ≤ m) : Fr k m d := by
  obtain ⟨h1, h2, h3⟩ := h
  obtain ⟨a1, a2, a3, a4, a5⟩ := fit_ok d h1
  obtain ⟨e1, e2⟩ := pr_pd d a3
  exact ⟨e2, by rw [e1]; exact a2, by rw [e1, a5]; exact h2, by rw [e1]; exact Nat.le_trans a1 h3⟩
theorem fr_int {i : Int} (h : i.natAbs < 10 ^ 40) : Fr 0 41 (.int i) := .of (fit_int h)
theorem fr_str {x : Str} {m : Nat} (h : PyData.strOk x = true) (hm : (D.str x).wt ≤ m) : Fr 0 m (.str x) := .of ⟨h, Nat.le_refl _, hm⟩
theorem prL_all {k m : Nat} : ∀ {ds : List D}, (∀ d ∈ ds, Fr k m d) → D.flrL ds = true ∧ PyData.showableAll (D.prL ds) = true ∧ PyData.depthAll (D.prL ds) ≤ k ∧ piled (PyData.shownAll (D.prL ds)) ≤ (m + 2) * ds.length
  | [], _ => ⟨rfl, rfl, Nat.zero_le _, Nat.zero_le _⟩
  | d :: ds, h => by
    obtain ⟨h1, h2, h3, h4⟩ := prL_all (ds := ds) fun x hx => h x (List.mem_cons_of_mem _ hx)
    have hd := h d List.mem_cons_self
    refine ⟨?_, ?_, ?_, ?_⟩
    · show (d.flr && D.flrL ds) = true
      rw [hd.f, h1]; rfl
    · show (PyData.showable d.pr && PyData.showableAll (D.prL ds)) = true
      rw [hd.s, h2]; rfl
    · show max (PyData.depth d.pr) (PyData.depthAll (D.prL ds)) ≤ k
      exact Nat.max_le.mpr ⟨hd.p, h3⟩
    · show piled (d.pr.shown :: PyData.shownAll (D.prL ds)) ≤ (m + 2) * (ds.length + 1)
      rw [piled_cons, Nat.mul_add]
      have := hd.l
      omega
theorem fr_lst {ds : List D} {k m : Nat} (n : Nat) (h : ∀ d ∈ ds, Fr k m d) (hl : ds.length ≤ n) : Fr (k + 1) (4 + (m + 2) * n) (.lst ds) := by
  obtain ⟨h1, h2, h3, h4⟩ := prL_all h
  refine ⟨h1, h2, Nat.succ_le_succ h3, ?_⟩
  have := listText_le (PyData.shownAll (D.prL ds))
  have q := Nat.mul_le_mul_left (m + 2) hl
  show (PySem.listText (PyData.shownAll (D.prL ds))).length ≤ _
  omega
theorem fr_tup {ds : List D} {k m : Nat} (n : Nat) (h : ∀ d ∈ ds, Fr k m d) (hl : ds.length ≤ n) : Fr (k + 1) (4 + (m + 2) * n) (.tup ds) := by
  obtain ⟨h1, h2, h3, h4⟩ := prL_all h
  refine ⟨h1, h2, Nat.succ_le_succ h3, ?_⟩
  have := tupleText_le (PyData.shownAll (D.prL ds))
  have q := Nat.mul_le_mul_left (m + 2) hl
  show (PySem.tupleText (PyData.shownAll (D.prL ds))).length ≤ _
  omega
end Dl
set_option Elab.async false
set_option maxRecDepth 100000
set_option maxHeartbeats 1000000
namespace Dl
open PySem L2
/-- an int that is no bool -/
def D.isI : D → Bool
  | .int _ => true
  | _ => false
theorem isI_a {i : Int} : D.isI (.int i) = true := rfl
theorem isI_b : D.isI (.non) = false := rfl
theorem isI_c {b : Bool} : D.isI (.bl b) = false := rfl
theorem isI_d {s : Str} : D.isI (.str s) = false := rfl
theorem isI_e {ds : List D} : D.isI (.lst ds) = false := rfl
theorem isI_f {ds : List D} : D.isI (.tup ds) = false := rfl
theorem isI_g {ks : List (Key × D)} : D.isI (.dct ks) = false := rfl
theorem isI_h {n : String} {fs : List (Str × D)} : D.isI (.exc n fs) = false := rfl
theorem isI_i {n : String} {fs : List (Str × D)} : D.isI (.ins n fs) = false := rfl
/-- what simp is not to look into -/
class KW (α : Type) where
  K : α
theorem kw_K {α : Type} {x : α} : (KW.mk x).K = x := rfl
def CallI (sp : DSp) (ls : List Lo) (M : Led) [w : KW ((Lo → Led → Prop) × (Exn → Led → Prop))] : Prop := sp ls M w.K.1 w.K.2
def IfB (b : Bool) [w : KW (Prop × Prop)] : Prop := IfP b w.K.1 w.K.2
def IfC (c : Prop) [w : KW (Prop × Prop)] : Prop := (c → w.K.1) ∧ (¬ c → w.K.2)
theorem ifp_i {b : Bool} {A B : Prop} : IfP b A B = @IfB b ⟨(A, B)⟩ := rfl
theorem ifb_t {A B : Prop} : @IfB true ⟨(A, B)⟩ = A := propext ⟨fun h => h.1 rfl, fun h => ⟨fun _ => h, fun z => nomatch z⟩⟩
theorem ifb_f {A B : Prop} : @IfB false ⟨(A, B)⟩ = B := propext ⟨fun h => h.2 rfl, fun h => ⟨(fun z => nomatch z), fun _ => h⟩⟩
theorem ifb_d {c A B : Prop} [Decidable c] : @IfB (decide c) ⟨(A, B)⟩ = @IfC c ⟨(A, B)⟩ := propext ⟨fun h => ⟨fun z => h.1 (decide_eq_true z), fun z => h.2 (decide_eq_false z)⟩, fun h => ⟨fun z => h.1 (of_decide_eq_true z), fun z => h.2 (of_decide_eq_false z)⟩⟩
theorem ifb_n {b : Bool} {A B : Prop} : @IfB (!b) ⟨(A, B)⟩ = @IfB b ⟨(B, A)⟩ := by cases b <;> simp [ifb_t, ifb_f]
theorem ifc_t {A B : Prop} : @IfC True ⟨(A, B)⟩ = A := propext ⟨fun h => h.1 trivial, fun h => ⟨fun _ => h, fun z => absurd trivial z⟩⟩
theorem ifc_f {A B : Prop} : @IfC False ⟨(A, B)⟩ = B := propext ⟨fun h => h.2 (fun z => z), fun h => ⟨fun z => z.elim, fun _ => h⟩⟩
theorem ifc_n {c A B : Prop} : @IfC (¬ c) ⟨(A, B)⟩ = @IfC c ⟨(B, A)⟩ := propext ⟨fun h => ⟨fun z => h.2 (fun q => q z), fun z => h.1 z⟩, fun h => ⟨fun z => h.2 z, fun z => h.1 (Classical.byContradiction z)⟩⟩
theorem ifc {c A B : Prop} (h : c → A) (k : ¬ c → B) : @IfC c ⟨(A, B)⟩ := ⟨h, k⟩
theorem ifb {b : Bool} {A B : Prop} (h : b = true → A) (k : b = false → B) : @IfB b ⟨(A, B)⟩ := ⟨h, k⟩
/-- a value that may be there -/
def ExI {α : Type} (o : Option α) [w : KW (α → Prop)] : Prop := ∃ d, o = some d ∧ w.K d
theorem exI_s {α : Type} {d : α} {P : α → Prop} : @ExI α (some d) ⟨P⟩ = P d := propext ⟨fun ⟨_, h, k⟩ => by cases h; exact k, fun h => ⟨d, rfl, h⟩⟩
theorem exI_of {α : Type} {o : Option α} {d : α} {P : α → Prop} (e : o = some d) (h : P d) : @ExI α o ⟨P⟩ := ⟨d, e, h⟩
def MinI (o : Option D) [w : KW (Int → Prop)] : Prop := ∃ ns : List Int, o = some (.lst (ns.map D.int)) ∧ 0 < ns.length ∧ ∀ m, m ∈ ns → (∀ y, y ∈ ns → m ≤ y) → w.K m
def MaxI (o : Option D) [w : KW (Int → Prop)] : Prop := ∃ ns : List Int, o = some (.lst (ns.map D.int)) ∧ 0 < ns.length ∧ ∀ m, m ∈ ns → (∀ y, y ∈ ns → y ≤ m) → w.K m
def IntsI (o : Option D) [w : KW (List Int → Prop)] : Prop := ∃ ns : List Int, o = some (.lst (ns.map D.int)) ∧ w.K ns
def BlsI (o : Option D) [w : KW (List Bool → Prop)] : Prop := ∃ bs : List Bool, o = some (.lst (bs.map D.bl)) ∧ w.K bs
theorem rVar_e  (i : Nat) : ∀ Γ M K, rVar i Γ M K = (match Γ[i]? with
  | some (some l) => K l M
  | _ => False) := fun _ _ _ => rfl
theorem rCon_e  (d : D) : ∀ u0 M K, rCon d u0 M K = (K (.im d) M) := fun _ _ _ => rfl
theorem qOp_e  (ρ : R2L) (ta tb : RE) : ∀ Γ M K, qOp ρ ta tb Γ M K = (ta Γ M fun x M1 => tb Γ M1 fun y M2 => ρ x y M2 K) := fun _ _ _ => rfl
theorem qUn_e  (ρ : R1L) (ta : RE) : ∀ Γ M K, qUn ρ ta Γ M K = (ta Γ M fun x M1 => ρ x M1 K) := fun _ _ _ => rfl
theorem qCa_e  (ρ : RnL) (ta : RA) : ∀ Γ M K, qCa ρ ta Γ M K = (ta Γ M fun xs M1 => ρ xs M1 K) := fun _ _ _ => rfl
theorem rNil_e  : ∀ u0 M K, rNil  u0 M K = (K [] M) := fun _ _ _ => rfl
theorem rCons_e  (ta : RE) (tr : RA) : ∀ Γ M K, rCons ta tr Γ M K = (ta Γ M fun x M1 => tr Γ M1 fun xs M2 => K (x :: xs) M2) := fun _ _ _ => rfl
theorem rTup_e  (t : RA) : ∀ Γ M K, rTup t Γ M K = (t Γ M fun ls M1 => match allIm ls with
  | some ds => ds.length ≤ sizeLine ∧ K (.im (.tup ds)) M1
  | none => ls.length ≤ sizeLine ∧ K (.tp ls) M1) := fun _ _ _ => rfl
theorem rLst_e  (t : RA) : ∀ Γ M K, rLst t Γ M K = (t Γ M fun ls M1 => match allIm ls with
  | some ds => ds.length ≤ sizeLine ∧ K (.im (.lst ds)) M1
  | none => False) := fun _ _ _ => rfl
theorem rLstO_e  (t : RA) : ∀ Γ M K, rLstO t Γ M K = (t Γ M fun ls M1 => match allIm ls with
  | some ds => ds.length ≤ sizeLine ∧ K (.ow M1.length) (M1 ++ [.li ds])
  | none => False) := fun _ _ _ => rfl
theorem rB_e  (t : RE) : ∀ Γ M K, rB t Γ M K = (t Γ M fun l M1 => match l with
  | .im (.bl b) => K b M1
  | _ => False) := fun _ _ _ => rfl
theorem rNotT_e  (t : RT) : ∀ Γ M K, rNotT t Γ M K = (t Γ M fun b M1 => K (!b) M1) := fun _ _ _ => rfl
theorem rNotV_e  (ta : RE) : ∀ Γ M K, rNotV ta Γ M K = (ta Γ M fun l M1 => match l with
  | .im (.bl b) => K (.im (.bl (!b))) M1
  | _ => False) := fun _ _ _ => rfl
theorem rNext_e  : ∀ N Γ M, rNext  N Γ M = (N.nx Γ M) := fun _ _ _ => rfl
theorem rSeq_e  (t u : RS) : ∀ N Γ M, rSeq t u N Γ M = (t { N with nx := u N } Γ M) := fun _ _ _ => rfl
theorem rDrop_e  (te : RE) : ∀ N Γ M, rDrop te N Γ M = (te Γ M fun _ M1 => N.nx Γ M1) := fun _ _ _ => rfl
theorem rRet_e  (te : RE) : ∀ N Γ M, rRet te N Γ M = (te Γ M N.rt) := fun _ _ _ => rfl
theorem rIf_e  (c : RT) (t u : RS) : ∀ N Γ M, rIf c t u N Γ M = (c Γ M fun b M1 => IfP b (t N Γ M1) (u N Γ M1)) := fun _ _ _ => rfl
theorem rNever_e  : ∀ u0 u1 u2, rNever  u0 u1 u2 = (False) := fun _ _ _ => rfl
theorem rName_e  (i : Nat) : ∀ l Γ M K, rName i l Γ M K = (K (Γ.set i (some l)) M) := fun _ _ _ _ => rfl
theorem rGNil_e  : ∀ ds Γ M K, rGNil  ds Γ M K = (match ds with
  | [] => K Γ M
  | _ :: _ => False) := fun _ _ _ _ => rfl
theorem rGCons_e  (g : RG) (u : RGs) : ∀ ds Γ M K, rGCons g u ds Γ M K = (match ds with
  | [] => False
  | d :: r => g d Γ M fun Γ1 M1 => u r Γ1 M1 K) := fun _ _ _ _ => rfl
theorem rGTup_e  (n : Nat) (t : RGs) : ∀ l Γ M K, rGTup n t l Γ M K = (match l with
  | .im (.tup ds) => ds.length = n ∧ t (ds.map Lo.im) Γ M K
  | .tp ls => ls.length = n ∧ t ls Γ M K
  | _ => False) := fun _ _ _ _ => rfl
theorem rGSub_e  (to ti : RE) : ∀ l Γ M K, rGSub to ti l Γ M K = (to Γ M fun o M1 => ti Γ M1 fun i M2 => match o, i with
  | .ow k, .im (.int j) => match M2[k]? with
    | some (.li ds) => match l with
      | .im d => @ExI _ (ixN ds.length j) ⟨fun n => K Γ (M2.set k (.li (ds.set n d)))⟩
      | _ => False
    | some (.ls ls) => @ExI _ (ixN ls.length j) ⟨fun n => K Γ (M2.set k (.ls (ls.set n l)))⟩
    | _ => False
  | _, _ => False) := fun _ _ _ _ => rfl
theorem rAsg_e  (te : RE) (g : RG) : ∀ N Γ M, rAsg te g N Γ M = (te Γ M fun l M1 => g l Γ M1 N.nx) := fun _ _ _ => rfl
theorem rPar_e  (i j : Nat) (ta : RA) : ∀ N Γ M, rPar i j ta N Γ M = (ta Γ M fun ls M1 => match ls with
  | [x, y] => N.nx ((Γ.set i (some x)).set j (some y)) M1
  | _ => False) := fun _ _ _ => rfl
theorem rYes_e  : ∀ u0 M K, rYes  u0 M K = (K true M) := fun _ _ _ => rfl
theorem oEqG_e  (f : Bool → Bool) : ∀ x y M K, oEqG f x y M K = (match snap M x, snap M y with
  | some a, some b => eqk a b fun r => K (.im (.bl (f r))) M
  | _, _ => False) := fun _ _ _ _ => rfl
theorem oI_e  (C : Int → Int → Prop) (g : Int → Int → D) : ∀ x y M K, oI C g x y M K = (match x, y with
  | .im (.int i), .im (.int j) => C i j ∧ K (.im (g i j)) M
  | _, _ => False) := fun _ _ _ _ => rfl
theorem oI0_e  (g : Int → Int → D) : ∀ x y M K, oI0 g x y M K = (match x, y with
  | .im (.int i), .im (.int j) => K (.im (g i j)) M
  | _, _ => False) := fun _ _ _ _ => rfl
theorem oNeg_e  : ∀ x M K, oNeg  x M K = (match x with
  | .im (.int i) => K (.im (.int (-i))) M
  | _ => False) := fun _ _ _ => rfl
theorem oAdd_e  (out : Hand) : ∀ x y M K, oAdd out x y M K = (match x, y with
  | .im (.int i), .im (.int j) => K (.im (.int (i + j))) M
  | .im (.str a), .im (.str b) => a.length + b.length ≤ sizeLine ∧ K (.im (.str (a ++ b))) M
  | .im (.tup a), .im (.tup b) => a.length + b.length ≤ sizeLine ∧ K (.im (.tup (a ++ b))) M
  | x, y => match snap M x, snap M y with
    | some (.lst a), some (.lst b) => a.length + b.length ≤ sizeLine ∧ out (a ++ b) M K
    | _, _ => False) := fun _ _ _ _ => rfl
theorem oMul_e  (out : Hand) : ∀ x y M K, oMul out x y M K = (match x, y with
  | .im (.int i), .im (.int j) => MulC i j ∧ K (.im (.int (i * j))) M
  | .im (.tup a), .im (.int k) => a ≠ [] ∧ 1 ≤ k ∧ k ≤ 1000 ∧ a.length ≤ 1000 ∧ K (.im (.tup (List.replicate k.toNat a).flatten)) M
  | x, .im (.int k) => match snap M x with
    | some (.lst a) => -9223372036854775808 ≤ k ∧ k < 9223372036854775808 ∧ a.length * k.toNat ≤ sizeLine ∧ out (List.replicate k.toNat a).flatten M K
    | _ => False
  | _, _ => False) := fun _ _ _ _ => rfl
theorem oIn_e  (neg : Bool) : ∀ x y M K, oIn neg x y M K = (match x with
  | .im d => match seqOf M y with
    | some ds => d.flt = true ∧ ds.all D.flt = true ∧ K (.im (.bl (if neg then !inD d ds else inD d ds))) M
    | none => False
  | _ => False) := fun _ _ _ _ => rfl
theorem oIx_e  : ∀ x y M K, oIx  x y M K = (match x, y with
  | .im (.str a), .im (.int i) => ∃ c, a.length ≤ sizeLine ∧ atI a.cps.toList i = some c ∧ K (.im (.str ⟨#[c]⟩)) M
  | .im (.tup ds), .im (.int i) => @ExI _ (atI ds i) ⟨fun d => K (.im d) M⟩
  | .im (.lst ds), .im (.int i) => @ExI _ (atI ds i) ⟨fun d => K (.im d) M⟩
  | .im (.scr ns), .im (.int i) => @ExI _ (atI ns i) ⟨fun d => K (.im (.int d)) M⟩
  | .ow k, .im (.int i) => match M[k]? with
    | some (.li ds) => @ExI _ (atI ds i) ⟨fun d => K (.im d) M⟩
    | some (.ls ls) => @ExI _ (atI ls i) ⟨fun l => K l M⟩
    | _ => False
  | .tp ls, .im (.int i) => @ExI _ (atI ls i) ⟨fun l => K l M⟩
  | _, _ => False) := fun _ _ _ _ => rfl
theorem rONone_e  : ∀ u0 M K, rONone  u0 M K = (K none M) := fun _ _ _ => rfl
theorem rOSome_e  (te : RE) : ∀ Γ M K, rOSome te Γ M K = (te Γ M fun l M1 => match l with
  | .im (.int i) => K (some i) M1
  | _ => False) := fun _ _ _ => rfl
theorem rSl_e  (out : Hand) (te : RE) (tl th : RO) : ∀ Γ M K, rSl out te tl th Γ M K = (te Γ M fun x M1 => tl Γ M1 fun lo M2 => th Γ M2 fun hi M3 => match x with
  | .im (.tup ds) => K (.im (.tup (cutD ds lo hi))) M3
  | .im (.scr ns) => out (cutD (ns.map D.int) lo hi) M3 K
  | x => match snap M3 x with
    | some (.lst ds) => out (cutD ds lo hi) M3 K
    | _ => False) := fun _ _ _ => rfl
theorem oLen_e  : ∀ ls M K, oLen  ls M K = (match ls with
  | [.im (.str s)] => s.length ≤ sizeLine ∧ K (.im (.int s.length)) M
  | [.im (.scr ns)] => K (.im (.int ns.length)) M
  | [x] => match lenOf M x with
    | some n => K (.im (.int n)) M
    | none => False
  | _ => False) := fun _ _ _ => rfl
theorem oInt_e  : ∀ ls M K, oInt  ls M K = (match ls with
  | [.im (.int i)] => K (.im (.int i)) M
  | [.im (.bl b)] => K (.im (.int (if b then 1 else 0))) M
  | _ => False) := fun _ _ _ => rfl
theorem oMin_e  : ∀ ls M K, oMin  ls M K = (match ls with
  | [.im (.int i), .im (.int j)] => K (.im (.int (min i j))) M
  | [x] => @MinI (snap M x) ⟨(fun m => K (.im (.int m)) M)⟩
  | _ => False) := fun _ _ _ => rfl
theorem oMax_e  : ∀ ls M K, oMax  ls M K = (match ls with
  | [.im (.int i), .im (.int j)] => K (.im (.int (max i j))) M
  | [x] => @MaxI (snap M x) ⟨(fun m => K (.im (.int m)) M)⟩
  | _ => False) := fun _ _ _ => rfl
theorem oSum_e  : ∀ ls M K, oSum  ls M K = (match ls with
  | [x] => @IntsI (snap M x) ⟨fun ns => K (.im (.int ns.sum)) M⟩
  | _ => False) := fun _ _ _ => rfl
theorem oBls_e  (f : List Bool → Bool) : ∀ ls M K, oBls f ls M K = (match ls with
  | [x] => @BlsI (snap M x) ⟨fun bs => K (.im (.bl (f bs))) M⟩
  | _ => False) := fun _ _ _ => rfl
theorem oList_e  (out : Hand) : ∀ ls M K, oList out ls M K = (match ls with
  | [x] => match seqOf M x with
    | some ds => out ds M K
    | none => False
  | _ => False) := fun _ _ _ => rfl
theorem oTuple_e  : ∀ ls M K, oTuple  ls M K = (match ls with
  | [.im (.tup ds)] => K (.im (.tup ds)) M
  | [x] => match snap M x with
    | some (.lst ds) => K (.im (.tup ds)) M
    | _ => False
  | _ => False) := fun _ _ _ => rfl
theorem oStr_e  : ∀ ls M K, oStr  ls M K = (match ls with
  | [.im (.int i)] => i.natAbs.log2 < 1920 ∧ K (.im (.str (toString i))) M
  | _ => False) := fun _ _ _ => rfl
theorem oIsi_e  (T : String) : ∀ x M K, oIsi T x M K = (match tyL M x with
  | some n => (kitB n T).isSome = true ∧ K (.im (.bl (isiB n T))) M
  | none => False) := fun _ _ _ => rfl
theorem rIList_e  (te : RE) : ∀ Γ M K, rIList te Γ M K = (te Γ M fun l M1 => match l with
  | .im (.lst ds) => K ds M1
  | _ => False) := fun _ _ _ => rfl
theorem rITup_e  (te : RE) : ∀ Γ M K, rITup te Γ M K = (te Γ M fun l M1 => match l with
  | .im (.tup ds) => K ds M1
  | _ => False) := fun _ _ _ => rfl
theorem rIRan1_e  (t : RA) : ∀ Γ M K, rIRan1 t Γ M K = (t Γ M fun ls M1 => match ls with
  | [.im (.int j)] => -4611686018427387904 ≤ j ∧ j < 4611686018427387904 ∧ K (rangeD 0 j.toNat) M1
  | _ => False) := fun _ _ _ => rfl
theorem rIEnum_e  (t : RA) : ∀ Γ M K, rIEnum t Γ M K = (t Γ M fun ls M1 => match ls with
  | [.im (.lst ds)] => K (enumD ds) M1
  | _ => False) := fun _ _ _ => rfl
theorem rMe_e  (T : String) (ρ : RmL) (to : RE) (t : RA) : ∀ Γ M K, rMe T ρ to t Γ M K = (to Γ M fun l M1 => isTy T M1 l = true ∧ t Γ M1 fun ls M2 => ρ l ls M2 K) := fun _ _ _ => rfl
theorem rMe0_e  (T : String) (ρ : RmL) (to : RE) : ∀ Γ M K, rMe0 T ρ to Γ M K = (to Γ M fun l M1 => isTy T M1 l = true ∧ ρ l [] M1 K) := fun _ _ _ => rfl
theorem oAppend_e  : ∀ l ls M K, oAppend  l ls M K = (match l with
  | .ow k => match M[k]? with
    | some (.li ds) => match ls with
      | [.im d] => ds.length < sizeLine ∧ K (.im .non) (M.set k (.li (ds ++ [d])))
      | [y] => ds.length < sizeLine ∧ K (.im .non) (M.set k (.ls (ds.map Lo.im ++ [y])))
      | _ => False
    | some (.ls xs) => match ls with
      | [y] => xs.length < sizeLine ∧ K (.im .non) (M.set k (.ls (xs ++ [y])))
      | _ => False
    | _ => False
  | _ => False) := fun _ _ _ _ => rfl
theorem oExtend_e  : ∀ l ls M K, oExtend  l ls M K = (match l with
  | .ow k => match M[k]? with
    | some (.li ds) => match ls with
      | [y] => match snap M y with
        | some (.lst es) => ds.length + es.length ≤ sizeLine ∧ K (.im .non) (M.set k (.li (ds ++ es)))
        | _ => False
      | _ => False
    | _ => False
  | _ => False) := fun _ _ _ _ => rfl
theorem oPopAt_e  : ∀ l ls M K, oPopAt  l ls M K = (match l with
  | .ow k => match M[k]? with
    | some (.li ds) => match ls with
      | [.im (.int i)] => ∃ j d, -9223372036854775808 ≤ i ∧ i < 9223372036854775808 ∧ seqIndex? i ds.length = some j ∧ ds[j]? = some d ∧ K (.im d) (M.set k (.li (ds.eraseIdx j)))
      | _ => False
    | _ => False
  | _ => False) := fun _ _ _ _ => rfl
theorem rLstRg_e  (out : Hand) (te : RE) : ∀ Γ M K, rLstRg out te Γ M K = (te Γ M fun l M1 => match l with
  | .im (.int n) => n ≤ 16777216 ∧ 0 ≤ n ∧ out (rangeD 0 n.toNat) M1 K
  | _ => False) := fun _ _ _ => rfl
theorem rStar_e  (te : RE) (t : RA) : ∀ Γ M K, rStar te t Γ M K = (te Γ M fun x M1 => match seqOf M1 x with
  | some ds => t Γ M1 fun ys M2 => K (ds.map Lo.im ++ ys) M2
  | none => False) := fun _ _ _ => rfl
theorem rFz_e  (te : RE) : ∀ Γ M K, rFz te Γ M K = (te Γ M fun l M1 => @ExI _ (frzL M.length M1 8 l) ⟨fun d => closed M.length (M1.take M.length) ∧ K (.im d) (M1.take M.length)⟩) := fun _ _ _ => rfl
def kD (M1 : Led) (K : Lo → Led → Prop) : Lo → Led → Prop := fun l Mu => match l, Mu with
      | .im d, [] => K (.im d) M1
      | l, Mu => ∀ l' M', l' = renL (fun j => M1.length + j) l → M' = M1 ++ Mu.map (renM fun j => M1.length + j) → K l' M'
def kDX (M1 : Led) (K : Exn → Led → Prop) : Exn → Led → Prop := fun x Mu => match Mu with
      | [] => K x M1
      | _ => ∀ M', M' = M1 ++ Mu.map (renM fun j => M1.length + j) → K x M'
def kP (M1 : Led) (K : Lo → Led → Prop) : Lo → Led → Prop := fun l Mu => match l, Mu with
      | .im d, [.li x] => K (.im d) (M1.set 0 (.li x))
      | _, _ => False
def kF (M1 : Led) (K : Lo → Led → Prop) : Lo → Led → Prop := fun l Mu => match l with
      | .im d => d.flt = true ∧ K (.im d) M1
      | _ => False
theorem kD_im {M1 : Led} {K : Lo → Led → Prop} {d : D} : kD M1 K (.im d) [] = K (.im d) M1 := rfl
theorem kD_ow {M1 : Led} {K : Lo → Led → Prop} {k : Nat} {Mu : Led} : kD M1 K (.ow k) Mu = K (.ow (M1.length + k)) (M1 ++ Mu.map (renM fun j => M1.length + j)) := propext ⟨fun h => h _ _ rfl rfl, fun h _ _ e1 e2 => by subst e1 e2; exact h⟩
theorem kD_im2 {M1 : Led} {K : Lo → Led → Prop} {d : D} {m : MO} {Mu : Led} : kD M1 K (.im d) (m :: Mu) = K (.im d) (M1 ++ (m :: Mu).map (renM fun j => M1.length + j)) := propext ⟨fun h => h _ _ rfl rfl, fun h _ _ e1 e2 => by subst e1 e2; exact h⟩
theorem kD_tp {M1 : Led} {K : Lo → Led → Prop} {ls : List Lo} {Mu : Led} : kD M1 K (.tp ls) Mu = K (renL (fun j => M1.length + j) (.tp ls)) (M1 ++ Mu.map (renM fun j => M1.length + j)) := propext ⟨fun h => h _ _ rfl rfl, fun h _ _ e1 e2 => by subst e1 e2; exact h⟩
theorem kDX_e {M1 : Led} {K : Exn → Led → Prop} {x : Exn} : kDX M1 K x [] = K x M1 := rfl
theorem kP_e {M1 : Led} {K : Lo → Led → Prop} {d : D} {x : List D} : kP M1 K (.im d) [.li x] = K (.im d) (M1.set 0 (.li x)) := rfl
theorem kF_e {M1 : Led} {K : Lo → Led → Prop} {d : D} {Mu : Led} : kF M1 K (.im d) Mu = (d.flt = true ∧ K (.im d) M1) := rfl
theorem rCallD_e  (sp : DSp) (ex : EX) (t : RA) : ∀ Γ M K, rCallD sp ex t Γ M K = (t Γ M fun ls M1 => match allIm ls with
  | some ds => @CallI sp (ds.map Lo.im) [] ⟨(kD M1 K, kDX M1 fun x M' => ex x Γ M')⟩
  | none => False) := fun _ _ _ => rfl
theorem rCallP_e  (sp : DSp) (t : RA) : ∀ Γ M K, rCallP sp t Γ M K = (t Γ M fun ls M1 => match ls with
  | .ow 0 :: r => match allIm r, M1[0]? with
    | some ds, some m => flatM m = true ∧ @CallI sp (.ow 0 :: ds.map Lo.im) [m] ⟨(kP M1 K, fun _ _ => False)⟩
    | _, _ => False
  | _ => False) := fun _ _ _ => rfl
theorem rIs_e  (tb : Tb) (ns : List Tn) (te : RE) : ∀ Γ M K, rIs tb ns te Γ M K = (te Γ M fun l M1 => match tyT M1 l with
  | some m => match isAny tb m ns with
    | some b => K (.im (.bl b)) M1
    | none => False
  | none => False) := fun _ _ _ => rfl
theorem outF_e : ∀ acc M K, outF acc M K = K (.im (.lst acc)) M := fun _ _ _ => rfl
theorem outO_e : ∀ acc M K, outO acc M K = K (.ow M.length) (M ++ [.li acc]) := fun _ _ _ => rfl
theorem all_map {α : Type} (p : α → Bool) (l : List α) : (l.map p).all _root_.id = l.all p := by simp [List.all_map]
theorem any_map {α : Type} (p : α → Bool) (l : List α) : (l.map p).any _root_.id = l.any p := by simp [List.any_map]
def Flats (L : Led) : Prop := ∀ m ∈ L, flatM m = true
theorem closed_flat {n : Nat} : ∀ {L : Led}, Flats L → closed n L
  | [], _ => trivial
  | m :: r, h => by
    have h1 := h m List.mem_cons_self
    have h2 := closed_flat (n := n) fun m hm => h m (List.mem_cons_of_mem _ hm)
    cases m <;> first | exact h2 | cases h1
theorem set_concat {L : Led} {x y : MO} : (L ++ [x]).set L.length y = L ++ [y] := by simp
theorem isTy_l {M : Led} {l : Lo} : isTy "list" M l = decide (tyL M l = some "list") := by
  cases h : decide (tyL M l = some "list") with
  | true => simp [isTy, of_decide_eq_true h]
  | false =>
    have h' := of_decide_eq_false h
    unfold isTy
    split <;> first | rfl | (rename_i e; exact absurd e h') | simp_all
theorem atI_last {α : Type} {xs : List α} (h : xs ≠ []) : ∃ x, x ∈ xs ∧ atI xs (-1) = some x := by
  have hl : 0 < xs.length := List.length_pos_iff.mpr h
  refine ⟨xs[xs.length - 1], List.getElem_mem _, ?_⟩
  unfold atI ixN
  rw [if_neg (by decide), if_pos (by omega)]
  show xs[((-1 : Int) + (xs.length : Int)).toNat]? = _
  rw [show ((-1 : Int) + (xs.length : Int)).toNat = xs.length - 1 from by omega, List.getElem?_eq_getElem (by omega)]
def lowG (n : Nat) : Gam → Prop
  | [] => True
  | some l :: r => refL (· < n) l ∧ lowG n r
  | none :: r => lowG n r
theorem allIm_ims : ∀ {ds : List D}, allIm (ds.map Lo.im) = some ds
  | [] => rfl
  | d :: r => by
    show (match allIm (r.map Lo.im) with | some ds => some (d :: ds) | none => none) = _
    rw [allIm_ims]
/-- a loop over known items -/
def FrI (ds : List D) (Γ : Gam) (M : Led) [w : KW (RG × RS × Nd)] : Prop := ∃ Iv : Nat → Gam → Led → Prop, Iv 0 Γ M ∧
  (∀ i d Γ' M', ds[i]? = some d → Iv i Γ' M' → w.K.1 (.im d) Γ' M' fun Γ2 M2 => w.K.2.1 ⟨Iv (i + 1), w.K.2.2.rt, w.K.2.2.nx, Iv (i + 1)⟩ Γ2 M2) ∧ ∀ Γ' M', Iv ds.length Γ' M' → w.K.2.2.nx Γ' M'
theorem rFor_e (ti : RI) (g : RG) (tb : RS) : ∀ N Γ M, rFor ti g tb N Γ M = (ti Γ M fun ds M1 => @FrI ds Γ M1 ⟨(g, tb, N)⟩) := fun _ _ _ => rfl
abbrev LcW := (List D → Led → (Lo → Led → Prop) → Prop) × RG × RT × RE × (Lo → Led → Prop)
def LcI (ds : List D) (vs : List Nat) (Γ : Gam) (M : Led) [w : KW LcW] : Prop := ∃ Iv : Nat → List D → Led → Prop, Iv 0 [] M ∧
  (∀ i d acc M', ds[i]? = some d → Iv i acc M' → M'.length = M.length ∧ w.K.2.1 (.im d) (wipeG Γ vs) (M' ++ [.li acc]) fun Γ2 M2 => w.K.2.2.1 Γ2 M2 fun b M3 =>
    IfP b (w.K.2.2.2.1 Γ2 M3 fun l M4 => match l with
      | .im x => acc.length < sizeLine ∧ M4 = M4.take M.length ++ [.li acc] ∧ Iv (i + 1) (acc ++ [x]) (M4.take M.length)
      | _ => False) (M3 = M3.take M.length ++ [.li acc] ∧ Iv (i + 1) acc (M3.take M.length))) ∧
  ∀ acc M', Iv ds.length acc M' → M'.length = M.length ∧ closed M.length M' ∧ w.K.1 acc M' w.K.2.2.2.2
theorem rLcB_e (out : List D → Led → (Lo → Led → Prop) → Prop) (ti : RI) (g : RG) (tt : RT) (te : RE) (vs : List Nat) : ∀ Γ M K, rLcB out ti g tt te vs Γ M K = (ti Γ M fun ds M1 => @LcI ds vs Γ M1 ⟨(out, g, tt, te, K)⟩) := fun _ _ _ => rfl
theorem oReprR_e : ∀ ls M K, oReprR ls M K = (match ls with
  | [x] => match snap M x with
    | some d => okrr d = true ∧ K (.im (.str d.pr.shown)) M
    | none => False
  | _ => False) := fun _ _ _ => rfl
def k1 (k : Nat) (M1 : Led) (K : Lo → Led → Prop) : Lo → Led → Prop := fun l Mu => match l, Mu with
        | .im d, [m'] => flatM m' = true ∧ K (.im d) (M1.set k m')
        | _, _ => False
def k1X (k : Nat) (M1 : Led) (K : Exn → Led → Prop) : Exn → Led → Prop := fun x Mu => match Mu with
        | [m'] => flatM m' = true ∧ K x (M1.set k m')
        | _ => False
theorem k1_e {k : Nat} {M1 : Led} {K : Lo → Led → Prop} {d : D} {m : MO} : k1 k M1 K (.im d) [m] = (flatM m = true ∧ K (.im d) (M1.set k m)) := rfl
theorem k1X_e {k : Nat} {M1 : Led} {K : Exn → Led → Prop} {x : Exn} {m : MO} : k1X k M1 K x [m] = (flatM m = true ∧ K x (M1.set k m)) := rfl
theorem isi_int_int : isiB "int" "int" = true := by decide +kernel
theorem kb_int_int : (kitB "int" "int").isSome = true := by decide +kernel
theorem isi_int_bool : isiB "int" "bool" = false := by decide +kernel
theorem kb_int_bool : (kitB "int" "bool").isSome = true := by decide +kernel
theorem isi_int_list : isiB "int" "list" = false := by decide +kernel
theorem kb_int_list : (kitB "int" "list").isSome = true := by decide +kernel
theorem isi_int_tuple : isiB "int" "tuple" = false := by decide +kernel
theorem kb_int_tuple : (kitB "int" "tuple").isSome = true := by decide +kernel
theorem isi_int_str : isiB "int" "str" = false := by decide +kernel
theorem kb_int_str : (kitB "int" "str").isSome = true := by decide +kernel
theorem isi_int_dict : isiB "int" "dict" = false := by decide +kernel
theorem kb_int_dict : (kitB "int" "dict").isSome = true := by decide +kernel
theorem isi_bool_int : isiB "bool" "int" = true := by decide +kernel
theorem kb_bool_int : (kitB "bool" "int").isSome = true := by decide +kernel
theorem isi_bool_bool : isiB "bool" "bool" = true := by decide +kernel
theorem kb_bool_bool : (kitB "bool" "bool").isSome = true := by decide +kernel
theorem isi_bool_list : isiB "bool" "list" = false := by decide +kernel
theorem kb_bool_list : (kitB "bool" "list").isSome = true := by decide +kernel
theorem isi_bool_tuple : isiB "bool" "tuple" = false := by decide +kernel
theorem kb_bool_tuple : (kitB "bool" "tuple").isSome = true := by decide +kernel
theorem isi_bool_str : isiB "bool" "str" = false := by decide +kernel
theorem kb_bool_str : (kitB "bool" "str").isSome = true := by decide +kernel
theorem isi_bool_dict : isiB "bool" "dict" = false := by decide +kernel
theorem kb_bool_dict : (kitB "bool" "dict").isSome = true := by decide +kernel
theorem isi_list_int : isiB "list" "int" = false := by decide +kernel
theorem kb_list_int : (kitB "list" "int").isSome = true := by decide +kernel
theorem isi_list_bool : isiB "list" "bool" = false := by decide +kernel
theorem kb_list_bool : (kitB "list" "bool").isSome = true := by decide +kernel
theorem isi_list_list : isiB "list" "list" = true := by decide +kernel
theorem kb_list_list : (kitB "list" "list").isSome = true := by decide +kernel
theorem isi_list_tuple : isiB "list" "tuple" = false := by decide +kernel
theorem kb_list_tuple : (kitB "list" "tuple").isSome = true := by decide +kernel
theorem isi_list_str : isiB "list" "str" = false := by decide +kernel
theorem kb_list_str : (kitB "list" "str").isSome = true := by decide +kernel
theorem isi_list_dict : isiB "list" "dict" = false := by decide +kernel
theorem kb_list_dict : (kitB "list" "dict").isSome = true := by decide +kernel
theorem isi_tuple_int : isiB "tuple" "int" = false := by decide +kernel
theorem kb_tuple_int : (kitB "tuple" "int").isSome = true := by decide +kernel
theorem isi_tuple_bool : isiB "tuple" "bool" = false := by decide +kernel
theorem kb_tuple_bool : (kitB "tuple" "bool").isSome = true := by decide +kernel
theorem isi_tuple_list : isiB "tuple" "list" = false := by decide +kernel
theorem kb_tuple_list : (kitB "tuple" "list").isSome = true := by decide +kernel
theorem isi_tuple_tuple : isiB "tuple" "tuple" = true := by decide +kernel
theorem kb_tuple_tuple : (kitB "tuple" "tuple").isSome = true := by decide +kernel
theorem isi_tuple_str : isiB "tuple" "str" = false := by decide +kernel
theorem kb_tuple_str : (kitB "tuple" "str").isSome = true := by decide +kernel
theorem isi_tuple_dict : isiB "tuple" "dict" = false := by decide +kernel
theorem kb_tuple_dict : (kitB "tuple" "dict").isSome = true := by decide +kernel
theorem isi_str_int : isiB "str" "int" = false := by decide +kernel
theorem kb_str_int : (kitB "str" "int").isSome = true := by decide +kernel
theorem isi_str_bool : isiB "str" "bool" = false := by decide +kernel
theorem kb_str_bool : (kitB "str" "bool").isSome = true := by decide +kernel
theorem isi_str_list : isiB "str" "list" = false := by decide +kernel
theorem kb_str_list : (kitB "str" "list").isSome = true := by decide +kernel
theorem isi_str_tuple : isiB "str" "tuple" = false := by decide +kernel
theorem kb_str_tuple : (kitB "str" "tuple").isSome = true := by decide +kernel
theorem isi_str_str : isiB "str" "str" = true := by decide +kernel
theorem kb_str_str : (kitB "str" "str").isSome = true := by decide +kernel
theorem isi_str_dict : isiB "str" "dict" = false := by decide +kernel
theorem kb_str_dict : (kitB "str" "dict").isSome = true := by decide +kernel
theorem isi_dict_int : isiB "dict" "int" = false := by decide +kernel
theorem kb_dict_int : (kitB "dict" "int").isSome = true := by decide +kernel
theorem isi_dict_bool : isiB "dict" "bool" = false := by decide +kernel
theorem kb_dict_bool : (kitB "dict" "bool").isSome = true := by decide +kernel
theorem isi_dict_list : isiB "dict" "list" = false := by decide +kernel
theorem kb_dict_list : (kitB "dict" "list").isSome = true := by decide +kernel
theorem isi_dict_tuple : isiB "dict" "tuple" = false := by decide +kernel
theorem kb_dict_tuple : (kitB "dict" "tuple").isSome = true := by decide +kernel
theorem isi_dict_str : isiB "dict" "str" = false := by decide +kernel
theorem kb_dict_str : (kitB "dict" "str").isSome = true := by decide +kernel
theorem isi_dict_dict : isiB "dict" "dict" = true := by decide +kernel
theorem kb_dict_dict : (kitB "dict" "dict").isSome = true := by decide +kernel
theorem isi_NoneType_int : isiB "NoneType" "int" = false := by decide +kernel
theorem kb_NoneType_int : (kitB "NoneType" "int").isSome = true := by decide +kernel
theorem isi_NoneType_bool : isiB "NoneType" "bool" = false := by decide +kernel
theorem kb_NoneType_bool : (kitB "NoneType" "bool").isSome = true := by decide +kernel
theorem isi_NoneType_list : isiB "NoneType" "list" = false := by decide +kernel
theorem kb_NoneType_list : (kitB "NoneType" "list").isSome = true := by decide +kernel
theorem isi_NoneType_tuple : isiB "NoneType" "tuple" = false := by decide +kernel
theorem kb_NoneType_tuple : (kitB "NoneType" "tuple").isSome = true := by decide +kernel
theorem isi_NoneType_str : isiB "NoneType" "str" = false := by decide +kernel
theorem kb_NoneType_str : (kitB "NoneType" "str").isSome = true := by decide +kernel
theorem isi_NoneType_dict : isiB "NoneType" "dict" = false := by decide +kernel
theorem kb_NoneType_dict : (kitB "NoneType" "dict").isSome = true := by decide +kernel
theorem sl_0 : (0 ≤ sizeLine) = True := eq_true (by decide)
theorem st_0 : (0 < sizeLine) = True := eq_true (by decide)
theorem sl_1 : (1 ≤ sizeLine) = True := eq_true (by decide)
theorem st_1 : (1 < sizeLine) = True := eq_true (by decide)
theorem sl_2 : (2 ≤ sizeLine) = True := eq_true (by decide)
theorem st_2 : (2 < sizeLine) = True := eq_true (by decide)
theorem sl_3 : (3 ≤ sizeLine) = True := eq_true (by decide)
theorem st_3 : (3 < sizeLine) = True := eq_true (by decide)
theorem sl_4 : (4 ≤ sizeLine) = True := eq_true (by decide)
theorem st_4 : (4 < sizeLine) = True := eq_true (by decide)
theorem sl_5 : (5 ≤ sizeLine) = True := eq_true (by decide)
theorem st_5 : (5 < sizeLine) = True := eq_true (by decide)
theorem sl_6 : (6 ≤ sizeLine) = True := eq_true (by decide)
theorem st_6 : (6 < sizeLine) = True := eq_true (by decide)
theorem sl_7 : (7 ≤ sizeLine) = True := eq_true (by decide)
theorem st_7 : (7 < sizeLine) = True := eq_true (by decide)
theorem sl_8 : (8 ≤ sizeLine) = True := eq_true (by decide)
theorem st_8 : (8 < sizeLine) = True := eq_true (by decide)
theorem sl_9 : (9 ≤ sizeLine) = True := eq_true (by decide)
theorem st_9 : (9 < sizeLine) = True := eq_true (by decide)
theorem sl_10 : (10 ≤ sizeLine) = True := eq_true (by decide)
theorem st_10 : (10 < sizeLine) = True := eq_true (by decide)
theorem sl_11 : (11 ≤ sizeLine) = True := eq_true (by decide)
theorem st_11 : (11 < sizeLine) = True := eq_true (by decide)
theorem sl_12 : (12 ≤ sizeLine) = True := eq_true (by decide)
theorem st_12 : (12 < sizeLine) = True := eq_true (by decide)
theorem sl_13 : (13 ≤ sizeLine) = True := eq_true (by decide)
theorem st_13 : (13 < sizeLine) = True := eq_true (by decide)
theorem sl_14 : (14 ≤ sizeLine) = True := eq_true (by decide)
theorem st_14 : (14 < sizeLine) = True := eq_true (by decide)
theorem sl_15 : (15 ≤ sizeLine) = True := eq_true (by decide)
theorem st_15 : (15 < sizeLine) = True := eq_true (by decide)
theorem sl_16 : (16 ≤ sizeLine) = True := eq_true (by decide)
theorem st_16 : (16 < sizeLine) = True := eq_true (by decide)
theorem gam0_e (N : List Str) (ls : List Lo) : gam0 N ls = ls.map some ++ List.replicate (N.length - ls.length) none := rfl
end Dl
set_option Elab.async false
set_option maxRecDepth 100000
set_option maxHeartbeats 1000000
namespace Dl
open PySem L2
def IfE (b : Bool) (A B : Prop) : Prop := IfP b A B
def ImR (l : Lo) (R : D → Prop) : Prop := match l with
  | .im d => R d
  | _ => False
def LcR {α : Type} (xs : List α) (body : α → List D → (D → Prop) → Prop → Prop) (k : List D → Prop) : Prop :=
  xs.length < sizeLine ∧ ∃ rs : List (Option D), rs.length = xs.length ∧ (∀ (i : Nat) (x : α) (r : Option D), xs[i]? = some x → rs[i]? = some r → ∀ (acc : List D) (R : D → Prop) (R2 : Prop), (match r with
    | some d => R d
    | none => R2) → body x acc R R2) ∧ k (rs.filterMap id)
def LcQ {α : Type} (xs : List α) (body : α → List D → (D → Prop) → Prop → Prop) [w : KW (List D → Prop)] : Prop := LcR xs body w.K
def rLcG (out : Hand) (ti : RI) (g : RG) (tt : RT) (te : RE) (vs : List Nat) : RE := fun Γ M K => ti Γ M fun ds M1 => closed M1.length M1 ∧ LcR ds (fun d acc R R2 => g (.im d) (wipeG Γ vs) (M1 ++ [.li acc]) fun Γ2 M2 => tt Γ2 M2 fun b M3 =>
  IfP b (te Γ2 M3 fun l M4 => M4 = M1 ++ [.li acc] ∧ ImR l R) (M3 = M1 ++ [.li acc] ∧ R2)) fun acc => out acc M1 K
section
variable {C : Fc} {X : Cx}
def mnI (t : RI) : RI := fun Γ M K => ∃ K0, t Γ M K0 ∧ ∀ ds M1, K0 ds M1 → K ds M1
def mnE (t : RE) : RE := fun Γ M K => ∃ K0, t Γ M K0 ∧ ∀ l M1, K0 l M1 → K l M1
def mnT (t : RT) : RT := fun Γ M K => ∃ K0, t Γ M K0 ∧ ∀ b M1, K0 b M1 → K b M1
def mnG (t : RG) : RG := fun l Γ M K => ∃ K0, t l Γ M K0 ∧ ∀ Γ1 M1, K0 Γ1 M1 → K Γ1 M1
theorem mnI_ok {tg e : Expr} {t : RI} (h : QI C X tg e t) : QI C X tg e (mnI t) := PI.imp h fun σ H Q ⟨As, G, Γ, M, K, S, ⟨K0, t, k⟩, q⟩ =>
  ⟨As, G, Γ, M, K0, S, t, fun ds M' J As' G' H' g hj hk => q ds M' J As' G' H' g hj (k _ _ hk)⟩
theorem mnE_ok {e : Expr} {t : RE} (h : QE C X e t) : QE C X e (mnE t) := PE.imp h fun σ H Q ⟨As, G, Γ, M, K, S, ⟨K0, t, k⟩, q⟩ =>
  ⟨As, G, Γ, M, K0, S, t, fun l M' v As' G' H' g rv hk => q l M' v As' G' H' g rv (k _ _ hk)⟩
theorem mnG_ok {e : Expr} {is : List Nat} {t : RG} (h : QG C X e is t) : QG C X e is (mnG t) := PG.imp h fun v σ H Q ⟨As, G, Γ, M, l, K, S, r, ⟨K0, t, k⟩, q⟩ =>
  ⟨As, G, Γ, M, l, K0, S, r, t, fun Γ' M' σ' As' G' H' g h1 h2 hk => q Γ' M' σ' As' G' H' g h1 h2 (k _ _ hk)⟩
theorem mnT_ok {es : List Expr} {t : RT} (h : PTs X es (UT C t)) : PTs X es (UT C (mnT t)) := ⟨fun pins s σ H Q I ⟨As, G, Γ, M, K, S, ⟨K0, t, k⟩, q⟩ => h.run pins s σ H Q I
  ⟨As, G, Γ, M, K0, S, t, fun b M' As' G' H' g hk => q b M' As' G' H' g (k _ _ hk)⟩⟩
theorem lcr_b {ds : List D} {out : Hand} {g : RG} {tt : RT} {te : RE} {vs : List Nat} {Γ : Gam} {M1 : Led} {K : Lo → Led → Prop} (hc : closed M1.length M1) (h : LcR ds (fun d acc R R2 => g (.im d) (wipeG Γ vs) (M1 ++ [.li acc]) fun Γ2 M2 => tt Γ2 M2 fun b M3 =>
    IfP b (te Γ2 M3 fun l M4 => M4 = M1 ++ [.li acc] ∧ ImR l R) (M3 = M1 ++ [.li acc] ∧ R2)) fun acc => out acc M1 K) : ∃ Iv : Nat → List D → Led → Prop, Iv 0 [] M1 ∧
  (∀ i d acc M', ds[i]? = some d → Iv i acc M' → M'.length = M1.length ∧ mnG g (.im d) (wipeG Γ vs) (M' ++ [.li acc]) fun Γ2 M2 => mnT tt Γ2 M2 fun b M3 =>
    IfP b (mnE te Γ2 M3 fun l M4 => match l with
      | .im x => acc.length < sizeLine ∧ M4 = M4.take M1.length ++ [.li acc] ∧ Iv (i + 1) (acc ++ [x]) (M4.take M1.length)
      | _ => False) (M3 = M3.take M1.length ++ [.li acc] ∧ Iv (i + 1) acc (M3.take M1.length))) ∧
  ∀ acc M', Iv ds.length acc M' → M'.length = M1.length ∧ closed M1.length M' ∧ out acc M' K := by
  obtain ⟨hs, rs, hl, hb, hk⟩ := h
  refine ⟨fun i acc M' => M' = M1 ∧ i ≤ ds.length ∧ acc = (rs.take i).filterMap id, ⟨rfl, Nat.zero_le _, rfl⟩, ?_, ?_⟩
  · rintro i d acc M' hd ⟨rfl, hi, ea⟩
    have hi' := (List.getElem?_eq_some_iff.mp hd).1
    have hr : rs[i]? = some rs[i] := List.getElem?_eq_getElem (by omega)
    have la : acc.length ≤ i := by
      rw [ea]
      exact Nat.le_trans (List.length_filterMap_le _ _) (by rw [List.length_take]; omega)
    have tk : (M' ++ [MO.li acc]).take M'.length = M' := by simp
    have nx : ∀ x, rs[i] = some x → acc ++ [x] = (rs.take (i + 1)).filterMap id := fun x e => by
      rw [List.take_add_one, hr, List.filterMap_append, ea, e]
      rfl
    have nn : rs[i] = none → acc = (rs.take (i + 1)).filterMap id := fun e => by
      rw [List.take_add_one, hr, List.filterMap_append, ← ea, e]
      exact (List.append_nil _).symm
    refine ⟨rfl, _, hb i d _ hd hr acc (fun x => rs[i] = some x) (rs[i] = none) (by cases rs[i] <;> rfl), fun Γ2 M2 q => ⟨_, q, fun b M3 q2 => ⟨fun e => ⟨_, q2.1 e, fun l M4 q3 => ?_⟩, fun e => ?_⟩⟩⟩
    · obtain ⟨rfl, q4⟩ := q3
      cases l with
      | im x =>
        refine ⟨by omega, by rw [tk], by rw [tk], by omega, nx x q4⟩
      | _ => exact q4.elim
    · obtain ⟨rfl, q4⟩ := q2.2 e
      exact ⟨by rw [tk], by rw [tk], by omega, nn q4⟩
  · rintro acc M' ⟨rfl, _, rfl⟩
    refine ⟨rfl, hc, ?_⟩
    rw [List.take_of_length_le (by omega)]
    exact hk
theorem lcG_B {out : Hand} {ti : RI} {g : RG} {tt : RT} {te : RE} {vs : List Nat} : ∀ σ H Q, UE C (rLcG out ti g tt te vs) σ H Q → UE C (rLcB out (mnI ti) (mnG g) (mnT tt) (mnE te) vs) σ H Q := fun σ H Q ⟨As, G, Γ, M, K, S, t, q⟩ =>
  ⟨As, G, Γ, M, K, S, ⟨_, t, fun ds M1 h => lcr_b h.1 h.2⟩, q⟩
section
variable {tg iter : Expr} {pos : Pos}
theorem q_lcG {out : List D → Led → (Lo → Led → Prop) → Prop} (hout : OutOk out) {elt : Expr} {ifs : List Expr} {scope : Scope} {own : List (Str × Nat)} {is : List Nat} {ti : RI} {g : RG} {tt : RT} {te : RE} (hc : X.calm = true) (hN : X.N.Nodup) (ok : BlkOk X.N X.env.scope scope own) (his : ∀ j ∈ is, j ∈ own.map (·.2)) (hi : QI C X tg iter ti)
    (hg : ∀ (s : Shared) (H : Hp) (Cc : Addr) (cl : List (Str × Addr)) (fp : List Addr), QG C (X.blk s H scope (compEnvC scope cl Cc X.env) fp) tg is g) (ht : ∀ (s : Shared) (H : Hp) (Cc : Addr) (cl : List (Str × Addr)) (fp : List Addr), PTs (X.blk s H scope (compEnvC scope cl Cc X.env) fp) ifs (UT C tt))
    (he : ∀ (s : Shared) (H : Hp) (Cc : Addr) (cl : List (Str × Addr)) (fp : List Addr), QE C (X.blk s H scope (compEnvC scope cl Cc X.env) fp) elt te) (hs : ∀ x, foldedSetIterable iter X.env x = pure x := by intro _; rfl) :
    QE C X (.ListComp elt [⟨tg, iter, ifs, 0⟩] scope pos) (rLcG out ti g tt te (own.map (·.2))) :=
  PE.imp (q_lcB hout hc hN ok his (mnI_ok hi) (fun s H Cc cl fp => mnG_ok (hg s H Cc cl fp)) (fun s H Cc cl fp => mnT_ok (ht s H Cc cl fp)) (fun s H Cc cl fp => mnE_ok (he s H Cc cl fp)) hs) lcG_B
theorem q_setLcG {out : List D → Led → (Lo → Led → Prop) → Prop} (hout : OutOk out) (i : Nat) {y : Str} {py spos : Pos} {elt : Expr} {ifs : List Expr} {scope : Scope} {own : List (Str × Nat)} {is : List Nat} {ti : RI} {g : RG} {tt : RT} {te : RE} (hc : X.calm = true) (hN : X.N.Nodup)
    (hsw : swapsWith (.ListComp elt [⟨tg, iter, ifs, 0⟩] scope pos) (some (.Name y py)) spos.line X.env = pure true) (ok : BlkOk X.N X.env.scope scope own) (his : ∀ j ∈ is, j ∈ own.map (·.2)) (hi : QI C X tg iter ti)
    (hg : ∀ (s : Shared) (H : Hp) (Cc : Addr) (cl : List (Str × Addr)) (fp : List Addr), QG C (X.blk s H scope (compEnvC scope cl Cc X.env) fp) tg is g) (ht : ∀ (s : Shared) (H : Hp) (Cc : Addr) (cl : List (Str × Addr)) (fp : List Addr), PTs (X.blk s H scope (compEnvC scope cl Cc X.env) fp) ifs (UT C tt))
    (he : ∀ (s : Shared) (H : Hp) (Cc : Addr) (cl : List (Str × Addr)) (fp : List Addr), QE C (X.blk s H scope (compEnvC scope cl Cc X.env) fp) elt te) (hy : X.N[i]? = some y := by rfl) (hyl : X.env.scope.names.lookup y = some .local := by rfl) (hs : ∀ x, foldedSetIterable iter X.env x = pure x := by intro _; rfl) :
    QS C X (.Assign [.Name y py] (.ListComp elt [⟨tg, iter, ifs, 0⟩] scope pos) spos) (rAsg (rLcG out ti g tt te (own.map (·.2))) (rName i)) :=
  PS.imp (q_setLcB hout i hc hN hsw ok his (mnI_ok hi) (fun s H Cc cl fp => mnG_ok (hg s H Cc cl fp)) (fun s H Cc cl fp => mnT_ok (ht s H Cc cl fp)) (fun s H Cc cl fp => mnE_ok (he s H Cc cl fp)) hy hyl hs) fun D σ H ⟨As, G, Γ, M, N, S, t, f⟩ =>
    ⟨As, G, Γ, M, N, S, ⟨_, t, fun ds M1 h => lcr_b h.1 h.2⟩, f⟩
end
end
theorem rLcG_e (out : Hand) (ti : RI) (g : RG) (tt : RT) (te : RE) (vs : List Nat) : ∀ Γ M K, rLcG out ti g tt te vs Γ M K = ti Γ M fun ds M1 => closed M1.length M1 ∧ @LcQ D ds (fun d acc R R2 => g (.im d) (wipeG Γ vs) (M1 ++ [.li acc]) fun Γ2 M2 => tt Γ2 M2 fun b M3 =>
  IfE b (te Γ2 M3 fun l M4 => M4 = M1 ++ [.li acc] ∧ ImR l R) (M3 = M1 ++ [.li acc] ∧ R2)) ⟨fun acc => out acc M1 K⟩ := fun _ _ _ => rfl
theorem imR_e {d : D} {R : D → Prop} : ImR (.im d) R = R d := rfl
theorem ife_t {A B : Prop} : IfE true A B = A := propext ⟨fun h => h.1 rfl, fun h => ⟨fun _ => h, fun z => nomatch z⟩⟩
theorem ife_f {A B : Prop} : IfE false A B = B := propext ⟨fun h => h.2 rfl, fun h => ⟨(fun z => nomatch z), fun _ => h⟩⟩
theorem lcq_map {α β : Type} (e : α → β) (xs : List α) (body : β → List D → (D → Prop) → Prop → Prop) (k : List D → Prop) : @LcQ β (xs.map e) body ⟨k⟩ = @LcQ α xs (fun x => body (e x)) ⟨k⟩ := propext ⟨fun ⟨h1, rs, h2, h3, h4⟩ => ⟨by rwa [List.length_map] at h1, rs, by rwa [List.length_map] at h2, fun i x r hx hr => h3 i (e x) r (by rw [List.getElem?_map, hx]; rfl) hr, h4⟩,
  fun ⟨h1, rs, h2, h3, h4⟩ => ⟨by rwa [List.length_map], rs, by rwa [List.length_map], fun i x r hx hr => by
    rw [List.getElem?_map] at hx
    obtain ⟨y, hy, rfl⟩ := Option.map_eq_some_iff.mp hx
    exact h3 i y r hy hr, h4⟩⟩
theorem fm_if {α : Type} (p : α → Bool) (F : α → D) (xs : List α) : (xs.map fun x => if p x = true then some (F x) else none).filterMap _root_.id = (xs.filter p).map F := by
  induction xs with
  | nil => rfl
  | cons x r ih => cases hp : p x <;> simp_all
theorem lcq_flt {α : Type} (xs : List α) (p : α → Bool) (F : α → D) (k : List D → Prop) : @LcQ α xs (fun x _ R R2 => IfE (p x) (R (F x)) R2) ⟨k⟩ = (xs.length < sizeLine ∧ k ((xs.filter p).map F)) := propext ⟨fun ⟨h1, rs, h2, h3, h4⟩ => ⟨h1, by
    have e : rs = xs.map fun x => if p x = true then some (F x) else none := by
      refine List.ext_getElem? fun i => ?_
      rw [List.getElem?_map]
      cases hx : xs[i]? with
      | none =>
        rw [List.getElem?_eq_none_iff] at hx
        rw [List.getElem?_eq_none (by omega)]
        rfl
      | some x =>
        have hi := (List.getElem?_eq_some_iff.mp hx).1
        have hr : rs[i]? = some rs[i] := List.getElem?_eq_getElem (by omega)
        have q := h3 i x _ hx hr [] (fun d => rs[i] = some d) (rs[i] = none) (by cases rs[i] <;> rfl)
        rw [hr]
        show some rs[i] = some (if p x = true then some (F x) else none)
        cases hp : p x with
        | true => rw [q.1 hp]; rfl
        | false => rw [q.2 hp]; rfl
    have e2 : rs.filterMap _root_.id = (xs.filter p).map F := by rw [e, fm_if]
    have h4 : k (rs.filterMap _root_.id) := h4
    rwa [e2] at h4⟩,
  fun ⟨h1, h4⟩ => ⟨h1, xs.map fun x => if p x = true then some (F x) else none, by simp, fun i x r hx hr acc R R2 q => by
      rw [List.getElem?_map, hx] at hr
      cases hr
      dsimp only at q
      refine ⟨fun hp => ?_, fun hp => ?_⟩
      · rw [if_pos hp] at q; exact q
      · rw [if_neg (by rw [hp]; decide)] at q; exact q, by
      show k (List.filterMap _root_.id _)
      rw [fm_if]
      exact h4⟩⟩
theorem flt_true {α : Type} (xs : List α) : xs.filter (fun _ => true) = xs := List.filter_eq_self.mpr fun _ _ => rfl
theorem lcq_all {α : Type} (xs : List α) (F : α → D) (k : List D → Prop) : @LcQ α xs (fun x _ R _ => R (F x)) ⟨k⟩ = (xs.length < sizeLine ∧ k (xs.map F)) := by
  have h := lcq_flt xs (fun _ => true) F k
  simp only [ife_t] at h
  rw [h, flt_true]
/-- each item asks something first -/
theorem lcq_fltc {α : Type} (xs : List α) (c : α → Prop) (p : α → Bool) (F : α → D) (k : List D → Prop) : @LcQ α xs (fun x _ R R2 => c x ∧ IfE (p x) (R (F x)) R2) ⟨k⟩ = (xs.length < sizeLine ∧ (∀ x ∈ xs, c x) ∧ k ((xs.filter p).map F)) := propext ⟨fun h => by
    have hc : ∀ x ∈ xs, c x := fun x hx => by
      obtain ⟨h1, rs, h2, h3, h4⟩ := h
      obtain ⟨i, hi⟩ := List.mem_iff_getElem?.mp hx
      have hi' := (List.getElem?_eq_some_iff.mp hi).1
      have hr : rs[i]? = some rs[i] := List.getElem?_eq_getElem (by omega)
      exact (h3 i x _ hi hr [] (fun _ => True) True (by cases rs[i] <;> trivial)).1
    have q : @LcQ α xs (fun x _ R R2 => IfE (p x) (R (F x)) R2) ⟨k⟩ := by
      obtain ⟨h1, rs, h2, h3, h4⟩ := h
      exact ⟨h1, rs, h2, fun i x r hx hr acc R R2 z => (h3 i x r hx hr acc R R2 z).2, h4⟩
    rw [lcq_flt] at q
    exact ⟨q.1, hc, q.2⟩, fun ⟨h1, hc, h4⟩ => by
    have q : @LcQ α xs (fun x _ R R2 => IfE (p x) (R (F x)) R2) ⟨k⟩ := by rw [lcq_flt]; exact ⟨h1, h4⟩
    obtain ⟨h1, rs, h2, h3, h4⟩ := q
    exact ⟨h1, rs, h2, fun i x r hx hr acc R R2 z => ⟨hc x (List.mem_of_getElem? hx), h3 i x r hx hr acc R R2 z⟩, h4⟩⟩
theorem lcq_allc {α : Type} (xs : List α) (c : α → Prop) (F : α → D) (k : List D → Prop) : @LcQ α xs (fun x _ R _ => c x ∧ R (F x)) ⟨k⟩ = (xs.length < sizeLine ∧ (∀ x ∈ xs, c x) ∧ k (xs.map F)) := by
  have h := lcq_fltc xs c (fun _ => true) F k
  simp only [ife_t] at h
  rw [h, flt_true]
/-- by hand: what each item gives -/
theorem lcq_of {α : Type} {xs : List α} {body : α → List D → (D → Prop) → Prop → Prop} {k : List D → Prop} (p : α → Bool) (F : α → D) (hs : xs.length < 1000000) (h : ∀ x ∈ xs, ∀ (acc : List D) (R : D → Prop) (R2 : Prop), (p x = true → R (F x)) → (p x = false → R2) → body x acc R R2) (hk : k ((xs.filter p).map F)) : @LcQ α xs body ⟨k⟩ :=
  ⟨by rw [sizeLine_eq]; omega, xs.map fun x => if p x = true then some (F x) else none, by simp, fun i x r hx hr acc R R2 q => by
    rw [List.getElem?_map, hx] at hr
    cases hr
    dsimp only at q
    refine h x (List.mem_of_getElem? hx) acc R R2 (fun hp => ?_) fun hp => ?_
    · rw [if_pos hp] at q; exact q
    · rw [if_neg (by rw [hp]; decide)] at q; exact q, by
    show k (List.filterMap _root_.id _)
    rw [fm_if]
    exact hk⟩
theorem lcq_of1 {α : Type} {xs : List α} {body : α → List D → (D → Prop) → Prop → Prop} {k : List D → Prop} (F : α → D) (hs : xs.length < 1000000) (h : ∀ x ∈ xs, ∀ (acc : List D) (R : D → Prop) (R2 : Prop), R (F x) → body x acc R R2) (hk : k (xs.map F)) : @LcQ α xs body ⟨k⟩ :=
  lcq_of (fun _ => true) F hs (fun x hx acc R R2 q _ => h x hx acc R R2 (q rfl)) (by rw [flt_true]; exact hk)
def Jn (l : Lo) (M : Led) [w : KW (Lo → Led → Prop)] : Prop := w.K l M
def JT (b : Bool) (M : Led) [w : KW (Bool → Led → Prop)] : Prop := w.K b M
theorem jn_e {l : Lo} {M : Led} {K : Lo → Led → Prop} : @Jn l M ⟨K⟩ = K l M := rfl
theorem jt_e {l : Bool} {M : Led} {K : Bool → Led → Prop} : @JT l M ⟨K⟩ = K l M := rfl
def AndE (b : Bool) (A : Prop) (M : Led) [w : KW (Lo → Led → Prop)] : Prop := IfP b A (w.K (.im (.bl false)) M)
def OrE (b : Bool) (A : Prop) (M : Led) [w : KW (Lo → Led → Prop)] : Prop := IfP b (w.K (.im (.bl true)) M) A
def AndT (b : Bool) (A : Prop) (M : Led) [w : KW (Bool → Led → Prop)] : Prop := IfP b A (w.K false M)
def OrT (b : Bool) (A : Prop) (M : Led) [w : KW (Bool → Led → Prop)] : Prop := IfP b (w.K true M) A
def IfV (b : Bool) (A B : Prop) : Prop := IfP b A B
theorem andE_j {b x : Bool} {M : Led} {K : Lo → Led → Prop} : @AndE b (@Jn (.im (.bl x)) M ⟨K⟩) M ⟨K⟩ = K (.im (.bl (b && x))) M := by
  cases b
  · exact propext ⟨fun h => h.2 rfl, fun h => ⟨(fun z => nomatch z), fun _ => h⟩⟩
  · exact propext ⟨fun h => h.1 rfl, fun h => ⟨fun _ => h, fun z => nomatch z⟩⟩
theorem orE_j {b x : Bool} {M : Led} {K : Lo → Led → Prop} : @OrE b (@Jn (.im (.bl x)) M ⟨K⟩) M ⟨K⟩ = K (.im (.bl (b || x))) M := by
  cases b
  · exact propext ⟨fun h => h.2 rfl, fun h => ⟨(fun z => nomatch z), fun _ => h⟩⟩
  · exact propext ⟨fun h => h.1 rfl, fun h => ⟨fun _ => h, fun z => nomatch z⟩⟩
theorem andT_j {b x : Bool} {M : Led} {K : Bool → Led → Prop} : @AndT b (@JT x M ⟨K⟩) M ⟨K⟩ = K (b && x) M := by
  cases b
  · exact propext ⟨fun h => h.2 rfl, fun h => ⟨(fun z => nomatch z), fun _ => h⟩⟩
  · exact propext ⟨fun h => h.1 rfl, fun h => ⟨fun _ => h, fun z => nomatch z⟩⟩
theorem orT_j {b x : Bool} {M : Led} {K : Bool → Led → Prop} : @OrT b (@JT x M ⟨K⟩) M ⟨K⟩ = K (b || x) M := by
  cases b
  · exact propext ⟨fun h => h.2 rfl, fun h => ⟨(fun z => nomatch z), fun _ => h⟩⟩
  · exact propext ⟨fun h => h.1 rfl, fun h => ⟨fun _ => h, fun z => nomatch z⟩⟩
theorem ifV_j {b : Bool} {d e : D} {M : Led} {K : Lo → Led → Prop} : IfV b (@Jn (.im d) M ⟨K⟩) (@Jn (.im e) M ⟨K⟩) = K (.im (bif b then d else e)) M := by
  cases b
  · exact propext ⟨fun h => h.2 rfl, fun h => ⟨(fun z => nomatch z), fun _ => h⟩⟩
  · exact propext ⟨fun h => h.1 rfl, fun h => ⟨fun _ => h, fun z => nomatch z⟩⟩
/-- the condition is known -/
theorem andE_t {l : Lo} {M M' : Led} {K K' : Lo → Led → Prop} : @AndE true (@Jn l M ⟨K⟩) M' ⟨K'⟩ = K l M := propext ⟨fun h => h.1 rfl, fun h => ⟨fun _ => h, fun z => nomatch z⟩⟩
theorem andE_f {A : Prop} {M : Led} {K : Lo → Led → Prop} : @AndE false A M ⟨K⟩ = K (.im (.bl false)) M := propext ⟨fun h => h.2 rfl, fun h => ⟨(fun z => nomatch z), fun _ => h⟩⟩
theorem orE_t {A : Prop} {M : Led} {K : Lo → Led → Prop} : @OrE true A M ⟨K⟩ = K (.im (.bl true)) M := propext ⟨fun h => h.1 rfl, fun h => ⟨fun _ => h, fun z => nomatch z⟩⟩
theorem orE_f {l : Lo} {M M' : Led} {K K' : Lo → Led → Prop} : @OrE false (@Jn l M ⟨K⟩) M' ⟨K'⟩ = K l M := propext ⟨fun h => h.2 rfl, fun h => ⟨(fun z => nomatch z), fun _ => h⟩⟩
theorem andT_t {l : Bool} {M M' : Led} {K K' : Bool → Led → Prop} : @AndT true (@JT l M ⟨K⟩) M' ⟨K'⟩ = K l M := propext ⟨fun h => h.1 rfl, fun h => ⟨fun _ => h, fun z => nomatch z⟩⟩
theorem andT_f {A : Prop} {M : Led} {K : Bool → Led → Prop} : @AndT false A M ⟨K⟩ = K false M := propext ⟨fun h => h.2 rfl, fun h => ⟨(fun z => nomatch z), fun _ => h⟩⟩
theorem orT_t {A : Prop} {M : Led} {K : Bool → Led → Prop} : @OrT true A M ⟨K⟩ = K true M := propext ⟨fun h => h.1 rfl, fun h => ⟨fun _ => h, fun z => nomatch z⟩⟩
theorem orT_f {l : Bool} {M M' : Led} {K K' : Bool → Led → Prop} : @OrT false (@JT l M ⟨K⟩) M' ⟨K'⟩ = K l M := propext ⟨fun h => h.2 rfl, fun h => ⟨(fun z => nomatch z), fun _ => h⟩⟩
theorem ifV_t {l : Lo} {M : Led} {K : Lo → Led → Prop} {B : Prop} : IfV true (@Jn l M ⟨K⟩) B = K l M := propext ⟨fun h => h.1 rfl, fun h => ⟨fun _ => h, fun z => nomatch z⟩⟩
theorem ifV_f {l : Lo} {M : Led} {K : Lo → Led → Prop} {A : Prop} : IfV false A (@Jn l M ⟨K⟩) = K l M := propext ⟨fun h => h.2 rfl, fun h => ⟨(fun z => nomatch z), fun _ => h⟩⟩
/-- by hand -/
theorem andE_of {b : Bool} {A : Prop} {M : Led} {K : Lo → Led → Prop} (h : b = true → A) (k : b = false → K (.im (.bl false)) M) : @AndE b A M ⟨K⟩ := ⟨h, k⟩
theorem orE_of {b : Bool} {A : Prop} {M : Led} {K : Lo → Led → Prop} (h : b = true → K (.im (.bl true)) M) (k : b = false → A) : @OrE b A M ⟨K⟩ := ⟨h, k⟩
theorem orT_of {b : Bool} {A : Prop} {M : Led} {K : Bool → Led → Prop} (h : b = true → K true M) (k : b = false → A) : @OrT b A M ⟨K⟩ := ⟨h, k⟩
theorem ifV_of {b : Bool} {A B : Prop} (h : b = true → A) (k : b = false → B) : IfV b A B := ⟨h, k⟩
theorem rAndV_j (ta tb : RE) : ∀ Γ M K, rAndV ta tb Γ M K = (ta Γ M fun l M1 => match l with
  | .im (.bl b) => @AndE b (tb Γ M1 fun l M => @Jn l M ⟨K⟩) M1 ⟨K⟩
  | _ => False) := fun _ _ _ => rfl
theorem rOrV_j (ta tb : RE) : ∀ Γ M K, rOrV ta tb Γ M K = (ta Γ M fun l M1 => match l with
  | .im (.bl b) => @OrE b (tb Γ M1 fun l M => @Jn l M ⟨K⟩) M1 ⟨K⟩
  | _ => False) := fun _ _ _ => rfl
theorem rAndT_j (t u : RT) : ∀ Γ M K, rAndT t u Γ M K = (t Γ M fun b M1 => @AndT b (u Γ M1 fun l M => @JT l M ⟨K⟩) M1 ⟨K⟩) := fun _ _ _ => rfl
theorem rOrT_j (t u : RT) : ∀ Γ M K, rOrT t u Γ M K = (t Γ M fun b M1 => @OrT b (u Γ M1 fun l M => @JT l M ⟨K⟩) M1 ⟨K⟩) := fun _ _ _ => rfl
theorem rIfE_j (t : RT) (ta tb : RE) : ∀ Γ M K, rIfE t ta tb Γ M K = (t Γ M fun b M1 => IfV b (ta Γ M1 fun l M => @Jn l M ⟨K⟩) (tb Γ M1 fun l M => @Jn l M ⟨K⟩)) := fun _ _ _ => rfl
theorem rChain_j (ρ ρ' : R2L) (ta tb tc : RE) : ∀ Γ M K, rChain ρ ρ' ta tb tc Γ M K = (ta Γ M fun x M1 => tb Γ M1 fun y M2 => ρ x y M2 fun z M3 => match z with
  | .im (.bl b) => @AndE b (tc Γ M3 fun w M4 => ρ' y w M4 fun l M => @Jn l M ⟨K⟩) M3 ⟨K⟩
  | _ => False) := fun _ _ _ => rfl
theorem blsI_m {α : Type} {p : α → Bool} {xs : List α} {P : List Bool → Prop} : @BlsI (some (.lst (xs.map fun x => D.bl (p x)))) ⟨P⟩ = P (xs.map p) := propext ⟨fun ⟨bs, h, k⟩ => by
    have e : xs.map p = bs := by
      have h' : (xs.map p).map D.bl = bs.map D.bl := by rw [List.map_map]; exact D.lst.inj (Option.some.inj h)
      exact (List.map_inj_right fun a b z => by cases z; rfl).mp h'
    show P (xs.map p)
    rw [e]
    exact k, fun h => ⟨xs.map p, by simp, h⟩⟩
theorem intsI_m {α : Type} {p : α → Int} {xs : List α} {P : List Int → Prop} : @IntsI (some (.lst (xs.map fun x => D.int (p x)))) ⟨P⟩ = P (xs.map p) := propext ⟨fun ⟨bs, h, k⟩ => by
    have e : xs.map p = bs := by
      have h' : (xs.map p).map D.int = bs.map D.int := by rw [List.map_map]; exact D.lst.inj (Option.some.inj h)
      exact (List.map_inj_right fun a b z => by cases z; rfl).mp h'
    show P (xs.map p)
    rw [e]
    exact k, fun h => ⟨xs.map p, by simp, h⟩⟩
theorem intsI_i {xs : List Int} {P : List Int → Prop} : @IntsI (some (.lst (xs.map D.int))) ⟨P⟩ = P xs := by
  have := intsI_m (p := fun x => x) (xs := xs) (P := P)
  simpa using this
theorem blsI_0 {P : List Bool → Prop} : @BlsI (some (.lst [])) ⟨P⟩ = P [] := blsI_m (p := fun x : Nat => true) (xs := [])
theorem intsI_0 {P : List Int → Prop} : @IntsI (some (.lst [])) ⟨P⟩ = P [] := intsI_i (xs := [])
theorem blsI_1 {a : Bool} {P : List Bool → Prop} : @BlsI (some (.lst [.bl a])) ⟨P⟩ = P [a] := blsI_m (p := fun x => x) (xs := [a])
theorem blsI_2 {a b : Bool} {P : List Bool → Prop} : @BlsI (some (.lst [.bl a, .bl b])) ⟨P⟩ = P [a, b] := blsI_m (p := fun x => x) (xs := [a, b])
theorem blsI_3 {a b c : Bool} {P : List Bool → Prop} : @BlsI (some (.lst [.bl a, .bl b, .bl c])) ⟨P⟩ = P [a, b, c] := blsI_m (p := fun x => x) (xs := [a, b, c])
theorem blsI_4 {a b c d : Bool} {P : List Bool → Prop} : @BlsI (some (.lst [.bl a, .bl b, .bl c, .bl d])) ⟨P⟩ = P [a, b, c, d] := blsI_m (p := fun x => x) (xs := [a, b, c, d])
theorem szd_lt {n : Nat} {Q : Prop} (h : n < 1000000) : (n < sizeLine ∧ Q) = Q := propext ⟨fun h => h.2, fun q => ⟨by rw [sizeLine_eq]; omega, q⟩⟩
theorem szd_le {n : Nat} {Q : Prop} (h : n < 1000000) : (n ≤ sizeLine ∧ Q) = Q := propext ⟨fun h => h.2, fun q => ⟨by rw [sizeLine_eq]; omega, q⟩⟩
theorem dr_le {a b : Int} {Q : Prop} (h : a ≤ b) : (a ≤ b ∧ Q) = Q := propext ⟨fun h => h.2, fun q => ⟨h, q⟩⟩
theorem dr_lt {a b : Int} {Q : Prop} (h : a < b) : (a < b ∧ Q) = Q := propext ⟨fun h => h.2, fun q => ⟨h, q⟩⟩
theorem dr_leN {a b : Nat} {Q : Prop} (h : a ≤ b) : (a ≤ b ∧ Q) = Q := propext ⟨fun h => h.2, fun q => ⟨h, q⟩⟩
theorem dr_ltN {a b : Nat} {Q : Prop} (h : a < b) : (a < b ∧ Q) = Q := propext ⟨fun h => h.2, fun q => ⟨h, q⟩⟩
theorem mulc_l {i j : Int} {Q : Prop} (h1 : -18446744073709551616 < i) (h2 : i < 18446744073709551616) : (MulC i j ∧ Q) = Q := propext ⟨fun h => h.2, fun q => ⟨.inl ⟨h1, h2⟩, q⟩⟩
theorem mulc_r {i j : Int} {Q : Prop} (h1 : -18446744073709551616 < j) (h2 : j < 18446744073709551616) : (MulC i j ∧ Q) = Q := propext ⟨fun h => h.2, fun q => ⟨.inr ⟨h1, h2⟩, q⟩⟩
theorem ifc_y {c A B : Prop} (h : c) : @IfC c ⟨(A, B)⟩ = A := propext ⟨fun z => z.1 h, fun z => ⟨fun _ => z, fun n => absurd h n⟩⟩
theorem ifc_no {c A B : Prop} (h : ¬ c) : @IfC c ⟨(A, B)⟩ = B := propext ⟨fun z => z.2 h, fun z => ⟨fun n => absurd n h, fun _ => z⟩⟩
theorem exI_int {ns : List Int} {i : Int} {P : D → Prop} (h0 : 0 ≤ i) (h : i < ns.length) : @ExI D (atI (ns.map D.int) i) ⟨P⟩ = P (.int (ns.getD i.toNat 0)) := by
  have e : atI (ns.map D.int) i = some (.int (ns.getD i.toNat 0)) := by
    rw [atI_nat h0, List.getElem?_map, List.getD_eq_getElem?_getD, List.getElem?_eq_getElem (by omega)]
    rfl
  rw [e]
  exact exI_s
/-- a drawn item of a list of items -/
theorem exI_q {ds : List D} {i : Int} {P : D → Prop} (h0 : 0 ≤ i) (h : i < ds.length) (k : ∀ d ∈ ds, P d) : @ExI D (atI ds i) ⟨P⟩ := by
  have e : atI ds i = some (ds[i.toNat]'(by omega)) := by rw [atI_nat h0, List.getElem?_eq_getElem (by omega)]
  exact exI_of e (k _ (List.getElem_mem _))
theorem zipIdx_m {α β : Type} (e : α → β) (xs : List α) : (xs.map e).zipIdx = xs.zipIdx.map fun p => (e p.1, p.2) := by rw [List.zipIdx_map]; rfl
theorem zip_m {α β γ δ : Type} (e : α → γ) (f : β → δ) (xs : List α) (ys : List β) : (xs.map e).zip (ys.map f) = (xs.zip ys).map fun p => (e p.1, f p.2) := by rw [List.zip_map]; rfl
theorem lcq_enum (ds : List D) (body : D → List D → (D → Prop) → Prop → Prop) (k : List D → Prop) : @LcQ D (enumD ds) body ⟨k⟩ = @LcQ (D × Nat) ds.zipIdx (fun p => body (.tup [.int (p.2 : Nat), p.1])) ⟨k⟩ := lcq_map _ _ _ _
theorem lcq_rng (lo : Int) (n : Nat) (body : D → List D → (D → Prop) → Prop → Prop) (k : List D → Prop) : @LcQ D (rangeD lo n) body ⟨k⟩ = @LcQ Nat (List.range n) (fun i => body (.int (lo + (i : Nat)))) ⟨k⟩ := lcq_map _ _ _ _
theorem lcq_rng0 (n : Nat) (body : D → List D → (D → Prop) → Prop → Prop) (k : List D → Prop) : @LcQ D (rangeD 0 n) body ⟨k⟩ = @LcQ Nat (List.range n) (fun i => body (.int (i : Nat))) ⟨k⟩ := by
  rw [lcq_rng]
  simp only [Int.zero_add]
theorem lcq_zip (ds es : List D) (body : D → List D → (D → Prop) → Prop → Prop) (k : List D → Prop) : @LcQ D (zipD ds es) body ⟨k⟩ = @LcQ (D × D) (ds.zip es) (fun p => body (.tup [p.1, p.2])) ⟨k⟩ := lcq_map _ _ _ _
theorem dec_and {p q : Prop} [Decidable p] [Decidable q] : (decide p && decide q) = decide (p ∧ q) := (Bool.decide_and ..).symm
theorem dec_or {p q : Prop} [Decidable p] [Decidable q] : (decide p || decide q) = decide (p ∨ q) := (Bool.decide_or ..).symm
theorem dec_not {p : Prop} [Decidable p] : (!decide p) = decide (¬ p) := (decide_not ..).symm
theorem lcq_i1 {a : Int} (body : D → List D → (D → Prop) → Prop → Prop) (k : List D → Prop) : @LcQ D [.int a] body ⟨k⟩ = @LcQ Int [a] (fun x => body (.int x)) ⟨k⟩ := lcq_map D.int [a] _ _
theorem lcq_i2 {a b : Int} (body : D → List D → (D → Prop) → Prop → Prop) (k : List D → Prop) : @LcQ D [.int a, .int b] body ⟨k⟩ = @LcQ Int [a, b] (fun x => body (.int x)) ⟨k⟩ := lcq_map D.int [a, b] _ _
theorem lcq_i3 {a b c : Int} (body : D → List D → (D → Prop) → Prop → Prop) (k : List D → Prop) : @LcQ D [.int a, .int b, .int c] body ⟨k⟩ = @LcQ Int [a, b, c] (fun x => body (.int x)) ⟨k⟩ := lcq_map D.int [a, b, c] _ _
theorem lcq_i4 {a b c d : Int} (body : D → List D → (D → Prop) → Prop → Prop) (k : List D → Prop) : @LcQ D [.int a, .int b, .int c, .int d] body ⟨k⟩ = @LcQ Int [a, b, c, d] (fun x => body (.int x)) ⟨k⟩ := lcq_map D.int [a, b, c, d] _ _
theorem all_tt {α : Type} (xs : List α) : (xs.all fun _ => true) = true := by simp
theorem any_ff {α : Type} (xs : List α) : (xs.any fun _ => false) = false := by simp
def srt (ns : List Int) : List Int := ns.mergeSort fun a b => decide (a ≤ b)
def leB (p q : Int × Int) : Bool := decide (p.1 < q.1) || (decide (p.1 = q.1) && decide (p.2 ≤ q.2))
def srtP (ps : List (Int × Int)) : List (Int × Int) := ps.mergeSort leB
theorem srt_perm (ns : List Int) : (srt ns).Perm ns := List.mergeSort_perm ..
theorem srt_pw (ns : List Int) : (srt ns).Pairwise (· ≤ ·) := by
  have h := List.pairwise_mergeSort (le := fun a b : Int => decide (a ≤ b)) (fun a b c h1 h2 => by simp at *; omega) (fun a b => by simp; omega) ns
  exact h.imp fun h => by simpa using h
theorem leB_iff {p q : Int × Int} : leB p q = true ↔ leP p q := by simp [leB, leP]
theorem srtP_perm (ns : List (Int × Int)) : (srtP ns).Perm ns := List.mergeSort_perm ..
theorem srtP_pw (ns : List (Int × Int)) : (srtP ns).Pairwise leP := by
  have h := List.pairwise_mergeSort (le := leB) (fun a b c h1 h2 => by rw [leB_iff] at *; unfold leP at *; omega) (fun a b => by
    rw [Bool.or_eq_true, leB_iff, leB_iff]
    unfold leP
    omega) ns
  exact h.imp fun h => leB_iff.mp h
theorem srt_uniq {ns ns' : List Int} (h1 : ns'.Perm ns) (h2 : ns'.Pairwise (· ≤ ·)) : ns' = srt ns := List.Perm.eq_of_pairwise (fun a b _ _ h3 h4 => Int.le_antisymm h3 h4) h2 (srt_pw ns) (h1.trans (srt_perm ns).symm)
theorem srtP_uniq {ns ns' : List (Int × Int)} (h1 : ns'.Perm ns) (h2 : ns'.Pairwise leP) : ns' = srtP ns := List.Perm.eq_of_pairwise (fun a b _ _ h3 h4 => by
  unfold leP at h3 h4
  exact Prod.ext (by omega) (by omega)) h2 (srtP_pw ns) (h1.trans (srtP_perm ns).symm)
def SrtI (o : Option D) [w : KW (List D → Prop)] : Prop := (∃ ns : List Int, o = some (.lst (ns.map D.int)) ∧ ∀ ns' : List Int, ns'.Perm ns → ns'.Pairwise (· ≤ ·) → w.K (ns'.map D.int)) ∨
      (∃ ps : List (Int × Int), o = some (.lst (ps.map pairD)) ∧ ∀ ps' : List (Int × Int), ps'.Perm ps → ps'.Pairwise leP → w.K (ps'.map pairD))
theorem oSorted_i (out : Hand) : ∀ ls M K, oSorted out ls M K = (match ls with
  | [x] => @SrtI (snap M x) ⟨fun ds => out ds M K⟩
  | _ => False) := fun _ _ _ => rfl
theorem dint_inj : ∀ {a b : List Int}, a.map D.int = b.map D.int → a = b := fun h => (List.map_inj_right fun a b z => by cases z; rfl).mp h
theorem pairD_inj : ∀ {a b : List (Int × Int)}, a.map pairD = b.map pairD → a = b := fun h => (List.map_inj_right fun a b z => by
  unfold pairD at z
  cases a
  cases b
  cases z
  rfl).mp h
theorem mix_nil {ps : List (Int × Int)} {ns : List Int} (h : ns.map D.int = ps.map pairD) : ns = [] ∧ ps = [] := by
  cases ns <;> cases ps <;> first | exact ⟨rfl, rfl⟩ | (simp [pairD] at h)
theorem srt_nil : srt [] = [] := List.perm_nil.mp (srt_perm [])
theorem srtP_nil : srtP [] = [] := List.perm_nil.mp (srtP_perm [])
theorem srtI_i {ns : List Int} {P : List D → Prop} : @SrtI (some (.lst (ns.map D.int))) ⟨P⟩ = P ((srt ns).map D.int) := propext ⟨fun h => by
  rcases h with ⟨ns2, e, k⟩ | ⟨ps, e, k⟩
  · have e := dint_inj (D.lst.inj (Option.some.inj e))
    subst e
    exact k _ (srt_perm _) (srt_pw _)
  · obtain ⟨rfl, rfl⟩ := mix_nil (D.lst.inj (Option.some.inj e))
    rw [srt_nil]
    exact k [] (List.Perm.refl _) List.Pairwise.nil, fun h => .inl ⟨ns, rfl, fun ns' h1 h2 => by rw [srt_uniq h1 h2]; exact h⟩⟩
theorem srtI_p {ps : List (Int × Int)} {P : List D → Prop} : @SrtI (some (.lst (ps.map pairD))) ⟨P⟩ = P ((srtP ps).map pairD) := propext ⟨fun h => by
  rcases h with ⟨ns2, e, k⟩ | ⟨ps, e, k⟩
  · obtain ⟨rfl, rfl⟩ := mix_nil (D.lst.inj (Option.some.inj e)).symm
    show P ((srtP []).map pairD)
    rw [srtP_nil]
    exact k [] (List.Perm.refl _) List.Pairwise.nil
  · have e := pairD_inj (D.lst.inj (Option.some.inj e))
    subst e
    exact k _ (srtP_perm _) (srtP_pw _), fun h => .inr ⟨ps, rfl, fun ns' h1 h2 => by rw [srtP_uniq h1 h2]; exact h⟩⟩
theorem srtI_0 {P : List D → Prop} : @SrtI (some (.lst [])) ⟨P⟩ = P [] := by
  have h := srtI_i (ns := []) (P := P)
  rw [srt_nil] at h
  exact h
theorem okd_nil : okd (.lst []) = true := okd_ints []
theorem eqv_ints0 (ns : List Int) : PyData.eqv (D.lst (ns.map D.int)).pd (D.lst []).pd = decide (ns = []) := eqv_ints ns []
theorem eqv_ints1 (ns : List Int) : PyData.eqv (D.lst []).pd (D.lst (ns.map D.int)).pd = decide ([] = ns) := eqv_ints [] ns
theorem eqv_nil : PyData.eqv (D.lst []).pd (D.lst []).pd = true := (eqv_ints0 []).trans rfl
def cutL {α : Type} (xs : List α) (lo hi : Option Int) : List α := (xs.drop (HT.sIx xs.length 0 lo)).take (HT.sIx xs.length xs.length hi - HT.sIx xs.length 0 lo)
theorem cut_m {α : Type} (e : α → D) (xs : List α) (lo hi : Option Int) : cutD (xs.map e) lo hi = (cutL xs lo hi).map e := by
  unfold cutD cutL
  rw [List.length_map, List.map_take, List.map_drop]
theorem cutL_from {α : Type} {ds : List α} {a : Nat} : cutL ds (some (a : Int)) none = ds.drop a := by
  unfold cutL
  rw [HT.sIx_nat, HT.sIx_none]
  by_cases h : a ≤ ds.length
  · rw [Nat.min_eq_left h, List.take_of_length_le (by rw [List.length_drop]; exact Nat.le_refl _)]
  · rw [Nat.min_eq_right (by omega), List.drop_of_length_le (Nat.le_refl _), List.drop_of_length_le (by omega)]
    simp
def frzG (n k : Nat) (Γ : Gam) (M : Led) : Gam × Led := match n with
  | 0 => (Γ, M)
  | n + 1 => match M[k]? with
    | some m => match datM m with
      | some d => frzG n (k + 1) (Γ.map (frG k d)) ((M.map (frM k d)).set k .gone)
      | none => frzG n (k + 1) Γ M
    | none => (Γ, M)
theorem frzG_ok {b : Nat} : ∀ {n k : Nat} {Γ : Gam} {M : Led}, Wk b Γ M (frzG n k Γ M).1 (frzG n k Γ M).2
  | 0, _, _, _ => Wk.refl
  | n + 1, k, Γ, M => by
    unfold frzG
    split
    · rename_i m hm
      split
      · rename_i d hd
        exact Wk.trans (wk_frz k hm hd) frzG_ok
      · exact frzG_ok
    · exact Wk.refl
def rWkF (b : Nat) (t : RS) : RS := fun N Γ M => t N (frzG (M.length - b) b Γ M).1 (frzG (M.length - b) b Γ M).2
theorem rWkF_e (b : Nat) (t : RS) : ∀ N Γ M, rWkF b t N Γ M = t N (frzG (M.length - b) b Γ M).1 (frzG (M.length - b) b Γ M).2 := fun _ _ _ => rfl
theorem frzG_0 {k : Nat} {Γ : Gam} {M : Led} : frzG 0 k Γ M = (Γ, M) := rfl
theorem frzG_s {n k : Nat} {Γ : Gam} {M : Led} : frzG (n + 1) k Γ M = match M[k]? with
    | some m => match datM m with
      | some d => frzG n (k + 1) (Γ.map (frG k d)) ((M.map (frM k d)).set k .gone)
      | none => frzG n (k + 1) Γ M
    | none => (Γ, M) := rfl
theorem q_wkF {C : Fc} {X : Cx} {st : Stmt} {b : Nat} {t : RS} (h1 : C.S.length ≤ b) (h2 : C.Ab.length ≤ b) (h : QS C X st t) : QS C X st (rWkF b t) := PS.imp (q_wk h1 h2 h) fun D σ H ⟨As, G, Γ, M, N, S, t, f⟩ => ⟨As, G, Γ, M, N, S, ⟨_, _, frzG_ok, t⟩, f⟩
def Ft (k m : Nat) (d : D) : Prop := d.fit = true ∧ d.dep ≤ k ∧ d.wt ≤ m
theorem Ft.okd {k m : Nat} {d : D} (h : Ft k m d) (hk : k ≤ 64 := by decide) : okd d = true := okd_fit h.1 (Nat.le_trans h.2.1 hk)
theorem Ft.up {k m k' m' : Nat} {d : D} (h : Ft k m d) (hk : k ≤ k' := by decide) (hm : m ≤ m' := by decide) : Ft k' m' d := ⟨h.1, Nat.le_trans h.2.1 hk, Nat.le_trans h.2.2 hm⟩
theorem ft_int {i : Int} (h : i.natAbs < 10 ^ 40) : Ft 0 41 (.int i) := fit_int h
theorem ft_lst {ds : List D} {k m : Nat} (n : Nat) (h : ∀ d ∈ ds, Ft k m d) (hl : ds.length ≤ n) : Ft (k + 1) (4 + (m + 2) * n) (.lst ds) :=
  ⟨fitL_all fun d hd => (h d hd).1, (by have := depL_le fun d hd => (h d hd).2.1; show D.depL ds + 1 ≤ k + 1; omega), (by
    have h1 := wtL_le fun d hd => (h d hd).2.2
    have h2 := Nat.mul_le_mul_left (m + 2) hl
    show 4 + D.wtL ds ≤ _
    omega)⟩
theorem ft_tup {ds : List D} {k m : Nat} (n : Nat) (h : ∀ d ∈ ds, Ft k m d) (hl : ds.length ≤ n) : Ft (k + 1) (4 + (m + 2) * n) (.tup ds) := ft_lst n h hl
theorem exI_l0 {α : Type} {x0 : α} {r : List α} {P : α → Prop} : @ExI α (atI (x0 :: r) 0) ⟨P⟩ = P x0 := by
  have e : atI (x0 :: r) (0 : Int) = some x0 := by rw [atI_nat (by decide)]; rfl
  rw [e]
  exact exI_s
theorem exI_l1 {α : Type} {x0 x1 : α} {r : List α} {P : α → Prop} : @ExI α (atI (x0 :: x1 :: r) 1) ⟨P⟩ = P x1 := by
  have e : atI (x0 :: x1 :: r) (1 : Int) = some x1 := by rw [atI_nat (by decide)]; rfl
  rw [e]
  exact exI_s
theorem exI_l2 {α : Type} {x0 x1 x2 : α} {r : List α} {P : α → Prop} : @ExI α (atI (x0 :: x1 :: x2 :: r) 2) ⟨P⟩ = P x2 := by
  have e : atI (x0 :: x1 :: x2 :: r) (2 : Int) = some x2 := by rw [atI_nat (by decide)]; rfl
  rw [e]
  exact exI_s
theorem exI_l3 {α : Type} {x0 x1 x2 x3 : α} {r : List α} {P : α → Prop} : @ExI α (atI (x0 :: x1 :: x2 :: x3 :: r) 3) ⟨P⟩ = P x3 := by
  have e : atI (x0 :: x1 :: x2 :: x3 :: r) (3 : Int) = some x3 := by rw [atI_nat (by decide)]; rfl
  rw [e]
  exact exI_s
theorem exI_l4 {α : Type} {x0 x1 x2 x3 x4 : α} {r : List α} {P : α → Prop} : @ExI α (atI (x0 :: x1 :: x2 :: x3 :: x4 :: r) 4) ⟨P⟩ = P x4 := by
  have e : atI (x0 :: x1 :: x2 :: x3 :: x4 :: r) (4 : Int) = some x4 := by rw [atI_nat (by decide)]; rfl
  rw [e]
  exact exI_s
theorem exI_l5 {α : Type} {x0 x1 x2 x3 x4 x5 : α} {r : List α} {P : α → Prop} : @ExI α (atI (x0 :: x1 :: x2 :: x3 :: x4 :: x5 :: r) 5) ⟨P⟩ = P x5 := by
  have e : atI (x0 :: x1 :: x2 :: x3 :: x4 :: x5 :: r) (5 : Int) = some x5 := by rw [atI_nat (by decide)]; rfl
  rw [e]
  exact exI_s
theorem exI_l6 {α : Type} {x0 x1 x2 x3 x4 x5 x6 : α} {r : List α} {P : α → Prop} : @ExI α (atI (x0 :: x1 :: x2 :: x3 :: x4 :: x5 :: x6 :: r) 6) ⟨P⟩ = P x6 := by
  have e : atI (x0 :: x1 :: x2 :: x3 :: x4 :: x5 :: x6 :: r) (6 : Int) = some x6 := by rw [atI_nat (by decide)]; rfl
  rw [e]
  exact exI_s
theorem exI_l7 {α : Type} {x0 x1 x2 x3 x4 x5 x6 x7 : α} {r : List α} {P : α → Prop} : @ExI α (atI (x0 :: x1 :: x2 :: x3 :: x4 :: x5 :: x6 :: x7 :: r) 7) ⟨P⟩ = P x7 := by
  have e : atI (x0 :: x1 :: x2 :: x3 :: x4 :: x5 :: x6 :: x7 :: r) (7 : Int) = some x7 := by rw [atI_nat (by decide)]; rfl
  rw [e]
  exact exI_s
theorem exI_e1 {α : Type} {x0 : α} {P : α → Prop} : @ExI α (atI [x0] (-1)) ⟨P⟩ = P x0 := exI_s (P := P)
theorem exI_e2 {α : Type} {x0 x1 : α} {P : α → Prop} : @ExI α (atI [x0, x1] (-1)) ⟨P⟩ = P x1 := exI_s (P := P)
theorem exI_e3 {α : Type} {x0 x1 x2 : α} {P : α → Prop} : @ExI α (atI [x0, x1, x2] (-1)) ⟨P⟩ = P x2 := exI_s (P := P)
theorem exI_e4 {α : Type} {x0 x1 x2 x3 : α} {P : α → Prop} : @ExI α (atI [x0, x1, x2, x3] (-1)) ⟨P⟩ = P x3 := exI_s (P := P)
theorem exI_e5 {α : Type} {x0 x1 x2 x3 x4 : α} {P : α → Prop} : @ExI α (atI [x0, x1, x2, x3, x4] (-1)) ⟨P⟩ = P x4 := exI_s (P := P)
theorem okr_a {d : D} (h : okr d = true) : (okr d = true) = True := eq_true h
theorem okd_a {d : D} (h : okd d = true) : (okd d = true) = True := eq_true h
theorem okrr_a {d : D} (h : okrr d = true) : (okrr d = true) = True := eq_true h
theorem rep_m {α : Type} (e : α → D) (n : Nat) (a : α) : (List.replicate n [e a]).flatten = (List.replicate n a).map e := by
  rw [List.flatten_replicate_singleton, List.map_replicate]
theorem rep_i (n : Nat) (a : Int) : (List.replicate n [D.int a]).flatten = (List.replicate n a).map D.int := rep_m D.int n a
theorem closed_app {n : Nat} : ∀ {A B : Led}, closed n (A ++ B) = (closed n A ∧ closed n B)
  | [], B => by simp [closed]
  | m :: A, B => by
    have ih := closed_app (n := n) (A := A) (B := B)
    cases m <;> simp only [List.cons_append, closed, ih, and_assoc]
theorem closed_fl {n : Nat} {L : Led} (h : Flats L) : closed n L = True := eq_true (closed_flat h)
theorem repl_s {n : Nat} : List.replicate (n + 1) (none : Option Lo) = none :: List.replicate n none := rfl
theorem okd_im {α : Type} (f : α → Int) (xs : List α) : okd (.lst (xs.map fun x => .int (f x))) = true := by
  have := okd_ints (xs.map f)
  rwa [List.map_map] at this
theorem eqv_mm {α β : Type} (f : α → Int) (g : β → Int) (xs : List α) (ys : List β) : PyData.eqv (D.lst (xs.map fun x => .int (f x))).pd (D.lst (ys.map fun x => .int (g x))).pd = decide (xs.map f = ys.map g) := by
  have := eqv_ints (xs.map f) (ys.map g)
  rwa [List.map_map, List.map_map] at this
theorem eqv_im {β : Type} (g : β → Int) (xs : List Int) (ys : List β) : PyData.eqv (D.lst (xs.map D.int)).pd (D.lst (ys.map fun x => .int (g x))).pd = decide (xs = ys.map g) := by
  have := eqv_ints xs (ys.map g)
  rwa [List.map_map] at this
theorem eqv_mi {β : Type} (g : β → Int) (xs : List Int) (ys : List β) : PyData.eqv (D.lst (ys.map fun x => .int (g x))).pd (D.lst (xs.map D.int)).pd = decide (ys.map g = xs) := by
  have := eqv_ints (ys.map g) xs
  rwa [List.map_map] at this
theorem lk_l {A B : Led} {n : Nat} (h : n < A.length) : (A ++ B)[n]? = A[n]? := List.getElem?_append_left h
theorem lk_r {A B : Led} {n : Nat} (h : A.length ≤ n) : (A ++ B)[n]? = B[n - A.length]? := List.getElem?_append_right h
end Dl
set_option Elab.async false
set_option maxRecDepth 100000
set_option maxHeartbeats 400000
namespace Dl
open PySem L2
abbrev pn (ns : List Int) (i c : Int) : MO := .li [.lst (ns.map D.int), .int i, .int c]
def PenC (B i c : Int) : Prop := 0 ≤ i ∧ i ≤ B ∧ 0 ≤ c
theorem PenC.up {B B' i c : Int} (h : PenC B i c) (q : B ≤ B') : PenC B' i c := ⟨h.1, by have := h.2.1; omega, h.2.2⟩
def sp_l_pen : DSp := fun ls M Kd _ => ∃ ns : List Int, ls = [.im (.scr ns)] ∧ M = [] ∧ ∀ ns' : List Int, ns'.length ≤ 60 → Kd (.ow 0) [pn ns' 0 0]
def sp_l_next : DSp := fun ls M Kd _ => ∃ (ns : List Int) (i c : Int), ls = [.ow 0] ∧ M = [pn ns i c] ∧ 0 ≤ i ∧ i < 1000000000000 ∧ ∀ r : Int, 0 ≤ r → Kd (.im (.int r)) [pn ns (i + 1) c]
def sp_l_draw : DSp := fun ls M Kd _ => ∃ (B : Int) (ns : List Int) (i c u : Int), ls = [.ow 0, .im (.int u)] ∧ M = [pn ns i c] ∧ PenC B i c ∧ B < 1000000000000 ∧ 0 < u ∧ u < 4611686018427387904 ∧ ∀ i' c' r : Int, PenC (B + 1) i' c' → 0 ≤ r → r < u → Kd (.im (.int r)) [pn ns i' c']
theorem len_l_pen : ∀ ls M Kd Ed, sp_l_pen ls M Kd Ed → ls.length = 1 := fun ls M Kd Ed ⟨_, e, _⟩ => by rw [e]; rfl
theorem len_l_next : ∀ ls M Kd Ed, sp_l_next ls M Kd Ed → ls.length = 1 := fun ls M Kd Ed ⟨_, _, _, e, _⟩ => by rw [e]; rfl
theorem len_l_draw : ∀ ls M Kd Ed, sp_l_draw ls M Kd Ed → ls.length = 2 := fun ls M Kd Ed ⟨_, _, _, _, _, e, _⟩ => by rw [e]; rfl
def n_l_pen : List Str := ["_law_script"]
def rd_l_pen (ex : EX) : RS := (rRet (rLstO (rCons (qCa (oList outF) (rCons (rSl outF (rVar 0) rONone (rOSome (rCon (.int 60)))) rNil)) (rCons (rCon (.int 0)) (rCons (rCon (.int 0)) rNil)))))
def n_l_next : List Str := ["_law_pen_here", "_law_index", "_law_cell_here", "_law_some_here", "_law_more", "_law_top"]
def rd_l_next (ex : EX) : RS := (rSeq (rAsg (qOp oIx (rVar 0) (rCon (.int 1))) (rName 1))
  (rSeq (rAsg (qOp (oAdd outF) (rVar 1) (rCon (.int 1))) (rGSub (rVar 0) (rCon (.int 1))))
  (rSeq (rAsg (qOp (oAdd outF) (qOp (oMul outF) (rVar 1) (rCon (.int 1063))) (rCon (.int 47))) (rName 2))
  (rSeq (rIf (rB (qOp oNe (qOp oIx (rVar 0) (rCon (.int 0))) (rLst rNil))) (rAsg (qOp oIx (qOp oIx (rVar 0) (rCon (.int 0))) (qOp oMod (qCa oInt (rCons (rVar 1) rNil)) (qCa oLen (rCons (qOp oIx (rVar 0) (rCon (.int 0))) rNil)))) (rName 2)) rNext)
  (rSeq (rIf (rAndT (rB (qOp oLt (rVar 1) (qCa oLen (rCons (qOp oIx (rVar 0) (rCon (.int 0))) rNil)))) (rB (qOp oGe (rVar 2) (rCon (.int 1000000000000000000))))) (rRet (rVar 2)) rNext)
  (rSeq (rAsg (qOp oMod (qCa oInt (rCons (qOp (oAdd outF) (qOp (oAdd outF) (qOp oMod (qCa oInt (rCons (rVar 2) rNil)) (rCon (.int 2147483587))) (qOp (oMul outF) (rVar 1) (rCon (.int 30097)))) (rCon (.int 73))) rNil)) (rCon (.int 2147483587))) (rName 3))
  (rSeq (rAsg (qOp oMod (qCa oInt (rCons (qOp (oAdd outF) (qOp (oAdd outF) (qOp (oMul outF) (rVar 3) (rVar 3)) (qOp (oMul outF) (rVar 1) (rCon (.int 70019)))) (rCon (.int 59))) rNil)) (rCon (.int 2147483563))) (rName 4))
  (rSeq (rAsg (qOp oMod (qCa oInt (rCons (qOp (oAdd outF) (qOp (oAdd outF) (qOp (oMul outF) (rVar 4) (rVar 4)) (rVar 3)) (qOp (oMul outF) (qOp (oMul outF) (rVar 1) (rVar 1)) (rCon (.int 31)))) rNil)) (rCon (.int 2147483549))) (rName 5))
  (rRet (qOp (oAdd outF) (qOp (oMul outF) (qOp (oAdd outF) (qOp (oMul outF) (rVar 5) (rCon (.int 2147483587))) (rVar 4)) (rCon (.int 2147483563))) (rVar 3)))))))))))
def n_l_draw : List Str := ["_law_pen_here", "_law_under", "_law_digit"]
def rd_l_draw (ex : EX) : RS := (rSeq (rIf (rB (qOp oLt (qOp oIx (rVar 0) (rCon (.int 2))) (rVar 1))) (rAsg (rCallP sp_l_next (rCons (rVar 0) rNil)) (rGSub (rVar 0) (rCon (.int 2)))) rNext)
  (rSeq (rAsg (qOp oMod (qCa oInt (rCons (qOp oIx (rVar 0) (rCon (.int 2))) rNil)) (rVar 1)) (rName 2))
  (rSeq (rAsg (qOp oDiv (qOp oIx (rVar 0) (rCon (.int 2))) (rVar 1)) (rGSub (rVar 0) (rCon (.int 2))))
  (rRet (rVar 2)))))
theorem m_l_pen : MtX sp_l_pen rd_l_pen n_l_pen := fun {ls M Kd Ed} h => by
  obtain ⟨ns, rfl, rfl, k⟩ := h
  have e : cutD (ns.map D.int) none (some ((60 : Nat) : Int)) = (ns.take 60).map D.int := by rw [cutD_to, List.map_take]
  have q := k (ns.take 60) (by rw [List.length_take]; omega)
  unfold pn at q
  rw [← e] at q
  exact ⟨sz3, back0o (k := 0) rfl q⟩
theorem p87 : (0 : Int) < 2147483587 := by decide
theorem p63 : (0 : Int) < 2147483563 := by decide
theorem p49 : (0 : Int) < 2147483549 := by decide
theorem m_l_next : MtX sp_l_next rd_l_next n_l_next := fun {ls M Kd Ed} h => by
  obtain ⟨ns, i, c, rfl, rfl, hi, hi2, k⟩ := h
  refine ⟨_, rfl, _, rfl, .inr (by decide), ?_⟩
  have tail : ∀ cell : Int, (rSeq (rIf (rAndT (rB (qOp oLt (rVar 1) (qCa oLen (rCons (qOp oIx (rVar 0) (rCon (.int 0))) rNil)))) (rB (qOp oGe (rVar 2) (rCon (.int 1000000000000000000))))) (rRet (rVar 2)) rNext)
  (rSeq (rAsg (qOp oMod (qCa oInt (rCons (qOp (oAdd outF) (qOp (oAdd outF) (qOp oMod (qCa oInt (rCons (rVar 2) rNil)) (rCon (.int 2147483587))) (qOp (oMul outF) (rVar 1) (rCon (.int 30097)))) (rCon (.int 73))) rNil)) (rCon (.int 2147483587))) (rName 3))
  (rSeq (rAsg (qOp oMod (qCa oInt (rCons (qOp (oAdd outF) (qOp (oAdd outF) (qOp (oMul outF) (rVar 3) (rVar 3)) (qOp (oMul outF) (rVar 1) (rCon (.int 70019)))) (rCon (.int 59))) rNil)) (rCon (.int 2147483563))) (rName 4))
  (rSeq (rAsg (qOp oMod (qCa oInt (rCons (qOp (oAdd outF) (qOp (oAdd outF) (qOp (oMul outF) (rVar 4) (rVar 4)) (rVar 3)) (qOp (oMul outF) (qOp (oMul outF) (rVar 1) (rVar 1)) (rCon (.int 31)))) rNil)) (rCon (.int 2147483549))) (rName 5))
  (rRet (qOp (oAdd outF) (qOp (oMul outF) (qOp (oAdd outF) (qOp (oMul outF) (rVar 5) (rCon (.int 2147483587))) (rVar 4)) (rCon (.int 2147483563))) (rVar 3))))))) { nx := fun _ M' => Back 1 Kd (.im .non) M', rt := Back 1 Kd } [some (.ow 0), some (.im (.int i)), some (.im (.int cell)), none, none, none] [.li [.lst (ns.map D.int), .int (i + 1), .int c]] := fun cell => by
    refine ⟨_, rfl, ⟨fun hlt => ⟨fun hge => back1 rfl (k _ ?_), fun _ => ?_⟩, fun _ => ⟨ft, fun _ => ?_⟩⟩⟩
    · have := of_decide_eq_true hge
      omega
    all_goals
      refine ⟨p87, .inr (by decide), p87, ?_⟩
      have s1 := Int.emod_lt_of_pos (cell % 2147483587 + i * 30097 + 73) (show (0 : Int) < 2147483587 by decide)
      have s0 := Int.emod_nonneg (cell % 2147483587 + i * 30097 + 73) (show (2147483587 : Int) ≠ 0 by decide)
      generalize (cell % 2147483587 + i * 30097 + 73) % 2147483587 = so at s0 s1
      refine ⟨.inl (by omega), .inr (by decide), p63, ?_⟩
      have t1 := Int.emod_lt_of_pos (so * so + i * 70019 + 59) (show (0 : Int) < 2147483563 by decide)
      have t0 := Int.emod_nonneg (so * so + i * 70019 + 59) (show (2147483563 : Int) ≠ 0 by decide)
      generalize (so * so + i * 70019 + 59) % 2147483563 = mo at t0 t1
      refine ⟨.inl (by omega), .inl (by omega), .inr (by decide), p49, ?_⟩
      have u1 := Int.emod_lt_of_pos (mo * mo + so + i * i * 31) (show (0 : Int) < 2147483549 by decide)
      have u0 := Int.emod_nonneg (mo * mo + so + i * i * 31) (show (2147483549 : Int) ≠ 0 by decide)
      generalize (mo * mo + so + i * i * 31) % 2147483549 = to at u0 u1
      exact ⟨.inr (by decide), .inr (by decide), back1 rfl (k _ (by omega))⟩
  refine ⟨_, rfl, sz0, okd_ints ns, okd_ints [], fun hne => ?_, fun _ => tail _⟩
  have hne' : ns ≠ [] := fun z => by
    subst z
    exact absurd hne (by decide)
  have hl : 0 < ns.length := List.length_pos_iff.mpr hne'
  have e1 := Int.emod_nonneg i (show ((ns.map D.int).length : Int) ≠ 0 by rw [List.length_map]; omega)
  have e2 := Int.emod_lt_of_pos i (show (0 : Int) < ((ns.map D.int).length : Int) by rw [List.length_map]; omega)
  rw [List.length_map] at e1 e2
  refine ⟨_, rfl, _, rfl, (by show (0 : Int) < ((ns.map D.int).length : Int); rw [List.length_map]; omega), D.int (ns[(i % (ns.length : Int)).toNat]'(by omega)), ?_, tail _⟩
  show atI (ns.map D.int) (i % ((ns.map D.int).length : Int)) = _
  rw [List.length_map, atI_nat e1, List.getElem?_map, List.getElem?_eq_getElem (by omega)]
  rfl
theorem m_l_draw : MtX sp_l_draw rd_l_draw n_l_draw := fun {ls M Kd Ed} h => by
  obtain ⟨B, ns, i, c, u, rfl, rfl, ⟨h0, h1, h2⟩, hB, hu, hu2, k⟩ := h
  have tail : ∀ i' c' : Int, 0 ≤ i' → i' ≤ B + 1 → 0 ≤ c' → (rSeq (rAsg (qOp oMod (qCa oInt (rCons (qOp oIx (rVar 0) (rCon (.int 2))) rNil)) (rVar 1)) (rName 2))
  (rSeq (rAsg (qOp oDiv (qOp oIx (rVar 0) (rCon (.int 2))) (rVar 1)) (rGSub (rVar 0) (rCon (.int 2))))
  (rRet (rVar 2)))) { nx := fun _ M' => Back 1 Kd (.im .non) M', rt := Back 1 Kd } [some (.ow 0), some (.im (.int u)), none] [.li [.lst (ns.map D.int), .int i', .int c']] := fun i' c' q1 q2 q3 =>
    ⟨_, rfl, hu, _, rfl, ⟨hu, hu2⟩, _, rfl, back1 rfl (k i' (c' / u) _ ⟨q1, q2, Int.ediv_nonneg q3 (by omega)⟩ (Int.emod_nonneg _ (by omega)) (Int.emod_lt_of_pos _ hu))⟩
  refine ⟨_, rfl, fun _ => ?_, fun _ => tail i c h0 (by omega) h2⟩
  exact ⟨rfl, ns, i, c, rfl, rfl, h0, by omega, fun r hr => ⟨_, rfl, tail (i + 1) r (by omega) (by omega) hr⟩⟩
theorem draw_ok {B : Int} {ns : List Int} {i c u : Int} {Kd : Lo → Led → Prop} {Ed : Exn → Led → Prop} (hp : PenC B i c) (hB : B < 1000000000000) (hu : 0 < u) (hu2 : u < 4611686018427387904) (h : ∀ i' c' r : Int, PenC (B + 1) i' c' → 0 ≤ r → r < u → Kd (.im (.int r)) [pn ns i' c']) :
    sp_l_draw [.ow 0, .im (.int u)] [pn ns i c] Kd Ed := ⟨B, ns, i, c, u, rfl, rfl, hp, hB, hu, hu2, h⟩
def sp_is_integer : DSp := fun ls M Kd _ => ∃ (d : D) (n : String), ls = [.im d] ∧ M = [] ∧ d.tyn = some n ∧ Kd (.im (.bl d.isI)) []
theorem len_is_integer : ∀ ls M Kd Ed, sp_is_integer ls M Kd Ed → ls.length = 1 := fun ls M Kd Ed ⟨_, _, e, _⟩ => by rw [e]; rfl
def n_is_integer : List Str := ["thing"]
def rd_is_integer (ex : EX) : RS := (rRet (rAndV (qUn (oIsi "int") (rVar 0)) (rNotV (qUn (oIsi "bool") (rVar 0)))))
theorem m_is_integer : MtX sp_is_integer rd_is_integer n_is_integer := fun {ls M Kd Ed} h => by
  obtain ⟨d, n, rfl, rfl, hn, k⟩ := h
  cases d <;> cases hn
  · exact ⟨by decide +kernel, ft, fun _ => back0 k⟩
  · exact ⟨by decide +kernel, fun _ => ⟨by decide +kernel, back0 k⟩, fun h => absurd h (by decide +kernel)⟩
  · exact ⟨by decide +kernel, fun _ => ⟨by decide +kernel, back0 k⟩, fun h => absurd h (by decide +kernel)⟩
  · exact ⟨by decide +kernel, ft, fun _ => back0 k⟩
  · exact ⟨by decide +kernel, ft, fun _ => back0 k⟩
  · exact ⟨by decide +kernel, ft, fun _ => back0 k⟩
  · exact ⟨by decide +kernel, ft, fun _ => back0 k⟩
theorem ci_isint {d : D} {Kd : Lo → Led → Prop} {Ed : Exn → Led → Prop} : @CallI sp_is_integer [.im d] [] ⟨(Kd, Ed)⟩ = (d.tyn.isSome = true ∧ Kd (.im (.bl d.isI)) []) := propext ⟨fun ⟨e, n, h1, _, h3, h4⟩ => by
    cases h1
    exact ⟨by rw [h3]; rfl, h4⟩, fun ⟨h1, h2⟩ => by
    obtain ⟨n, hn⟩ := Option.isSome_iff_exists.mp h1
    exact ⟨d, n, rfl, rfl, hn, h2⟩⟩
end Dl
set_option Elab.async false
set_option maxRecDepth 100000
set_option maxHeartbeats 1000000
namespace Dl
open PySem PySem.Spec PyProof.Rows L2
section
variable {C : Fc} {X : Cx} {k : Nat} {f : Addr} {fd : FuncData} {ps : List Str} {sp : DSp} {is : List Nat} {ex : EX}
/-- a callee's run, around A' -/
theorem gn_core {A' : Around} {σ : L2.St} {H : Hp} {s : Shared} {us : List Value} {vs : List V} {As : List Addr} {G : Hp} {Γ : Gam} {M : Led} {ls : List Lo} {Kd : Lo → Led → Prop} {Ed : Exn → Led → Prop} {Q : VK} (F : Gn C.T X.prog X.w X.K X.mg X.base k f fd ps sp) (hr : Room k A') (hg : A'.guards = some [])
    (e0 : Env0 X.prog X.w X.K X.mg X.base A' X.stack s H) (kI : X.K.In s.heap) (hb : Binds X.K fd ps []) (hK : C.K = X.K) (r : Vals vs us) (S : Sat C As G H Γ M σ) (rl : LRpL C.K As G vs ls) (ok : PickOk is M) (hls : refLs (· ∈ is) ls)
    (h : sp (ls.map (renL (loc is))) (pick is M) Kd Ed) (hQ : ∀ (l : Lo) (Mu : Led) (v : V) (As' : List Addr) (G' H' : Hp), Gr C As G As' G' H' Γ (put is Mu M) σ → LRp C.K As' G' v (renL (ren is M.length) l) → Kd l Mu → Q v H')
    (hE : ∀ x Mu, Ed x Mu → ex x Γ (put is Mu M)) : codeAny (model X.prog X.w) A' (.call (.ref f) ⟨us, []⟩) (CR (L2.CX X.prog X.w) X.stack X.prog X.w H s Q fun cls d H' => UW C ex cls d σ H') s := by
  obtain ⟨Z0, bk⟩ := lend S ok
  have hlen : us.length = ps.length := by
    rw [← r.length, rl.length, ← List.length_map (f := renL (loc is)) (as := ls)]
    exact F.len _ _ _ _ h
  have b := hb s us kI (by rw [List.append_nil]; exact hlen)
  rw [List.append_nil] at b
  rw [hK] at Z0 rl
  refine F.run A' X.stack s H ⟨us, []⟩ us vs Q (fun cls d H' => UW C ex cls d σ H') _ G _ _ Kd Ed hr hg e0 b r Z0 (rl.mem_ren hls bk) h (fun l Mu v Au' G' H' Z rv k => ?_) fun x Mu cls d Au' G' H' Z rx k => ?_
  · rw [← hK] at Z rv
    obtain ⟨As', g, hv⟩ := lent_back S ok Z
    exact hQ l Mu v As' G' H' g (hv v l rv) k
  · rw [← hK] at Z rx
    obtain ⟨As', g, _⟩ := lent_back S ok Z
    exact ⟨As', G', Γ, _, x, g.sat, rx, hE x Mu k⟩
end
/-- the expression calls the def at f with what t gives -/
structure CA (C : Fc) (X : Cx) (e : Expr) (f : Addr) (t : RA) : Prop where
  run : ∀ (pins : List (Addr × Obj)) (s : Shared) (σ : L2.St) (H : Hp) (Q : VK) (R : List V → Hp → Prop), Inv X pins σ H s → UA C t σ H R →
    (∀ us s1 vs H1, Inv X pins σ H1 s1 → Vals vs us → R vs H1 → wpAny (model X.prog X.w) X.A (call (.ref f) us) (EP X pins σ Q) X.xe s1) → wpAny (model X.prog X.w) X.A (eval e X.env) (EP X pins σ Q) X.xe s
def kids : MO → List Lo
  | .ls xs => xs
  | .dm ks => ks.map (·.2)
  | .ob _ fs => fs.map (·.2)
  | _ => []
def reach (M : Led) : Nat → List Lo → List Nat → List Nat
  | 0, _, acc => acc
  | _ + 1, [], acc => acc
  | n + 1, .im _ :: r, acc => reach M n r acc
  | n + 1, .tp ls :: r, acc => reach M n (ls ++ r) acc
  | n + 1, .ow k :: r, acc => if k ∈ acc then reach M n r acc else reach M n (kids (M.getD k .gone) ++ r) (acc ++ [k])
def callU (is : List Nat) (sp : DSp) (ex : EX) (Γ : Gam) (ls : List Lo) (M1 : Led) (K : Lo → Led → Prop) : Prop := PickOk is M1 ∧ refLs (· ∈ is) ls ∧
  sp (ls.map (renL (loc is))) (pick is M1) (fun l Mu => K (renL (ren is M1.length) l) (put is Mu M1)) fun x Mu => ex x Γ (put is Mu M1)
def rCallU (sp : DSp) (ex : EX) (t : RA) : RE := fun Γ M K => t Γ M fun ls M1 => callU (reach M1 64 ls []) sp ex Γ ls M1 K
section
variable {C : Fc} {X : Cx} {k : Nat} {f : Addr} {fd : FuncData} {ps : List Str} {sp : DSp} {ex : EX} {e : Expr} {t : RA}
theorem q_U (c : CA C X e f t) (F : Gn C.T X.prog X.w X.K X.mg X.base k f fd ps sp) (hb : Binds X.K fd ps []) (hr : Room k X.A) (hg : X.A.guards = some []) (hK : C.K = X.K) (tk : Takes X (UW C ex)) : QE C X e (rCallU sp ex t) := ⟨fun pins s σ H Q I ⟨As, G, Γ, M, K, S, h, q⟩ => by
  refine c.run pins s σ H Q (fun vs H1 => ∃ (As1 : List Addr) (G1 : Hp) (M1 : Led) (ls : List Lo), Gr C As G As1 G1 H1 Γ M1 σ ∧ LRpL C.K As1 G1 vs ls ∧ callU (reach M1 64 ls []) sp ex Γ ls M1 K) I ⟨As, G, Γ, M, _, S, h, fun ls M1 vs As1 G1 H1 g1 rl k1 => ⟨As1, G1, M1, ls, g1, rl, k1⟩⟩ ?_
  rintro us s1 vs H1 I1 r ⟨As1, G1, M1, ls, g1, rl, ok, hls, h2⟩
  exact run_gn F hr hg hb hK tk I1 r g1.sat rl ok hls h2 (fun l Mu v As' G' H' g rv k => q _ _ v As' G' H' (g1.trans g) rv k) fun x Mu k => k⟩
end
def putL (f : Str) (l : Lo) : List (Str × Lo) → List (Str × Lo)
  | [] => [(f, l)]
  | (g, x) :: r => if g = f then (g, l) :: r else (g, x) :: putL f l r
theorem putL_ok {K : PySem.W.Frag} {As : List Addr} {G : Hp} {f : Str} {v : V} {l : Lo} (rv : LRp K As G v l) : ∀ {fvs : List (Str × V)} {fs : List (Str × Lo)}, fvs.map (·.1) = fs.map (·.1) → LRpL K As G (fvs.map (·.2)) (fs.map (·.2)) →
    (putF f v fvs).map (·.1) = (putL f l fs).map (·.1) ∧ LRpL K As G ((putF f v fvs).map (·.2)) ((putL f l fs).map (·.2))
  | [], [], _, _ => ⟨rfl, .cons rv .nil⟩
  | (g, x) :: r, (g', x') :: r', h1, h2 => by
    simp only [List.map_cons, List.cons.injEq] at h1
    obtain ⟨rfl, h1⟩ := h1
    cases h2 with
    | cons q qs =>
      obtain ⟨i1, i2⟩ := putL_ok rv h1 qs
      unfold putF putL
      by_cases e : g = f
      · rw [if_pos e, if_pos e]
        exact ⟨by simpa using h1, .cons rv qs⟩
      · rw [if_neg e, if_neg e]
        exact ⟨by simpa using i1, .cons q i2⟩
  | [], _ :: _, h, _ => by simp at h
  | _ :: _, [], h, _ => by simp at h
theorem lookup_rel {α : Type} {R : V → α → Prop} : ∀ {fvs : List (Str × V)} {fs : List (Str × α)} {f : Str} {l : α}, fvs.map (·.1) = fs.map (·.1) → (∀ (i : Nat) (l : α), (fs.map (·.2))[i]? = some l → ∃ v, (fvs.map (·.2))[i]? = some v ∧ R v l) → fs.lookup f = some l → ∃ v, fvs.lookup f = some v ∧ R v l
  | [], [], f, l, _, _, h => by simp at h
  | (g, x) :: r, (g', x') :: r', f, l, h1, h2, h => by
    simp only [List.map_cons, List.cons.injEq] at h1
    obtain ⟨rfl, h1⟩ := h1
    rw [List.lookup_cons] at h ⊢
    cases e : f == g with
    | true =>
      rw [e] at h
      cases h
      obtain ⟨v, a1, a2⟩ := h2 0 _ rfl
      cases a1
      exact ⟨_, rfl, a2⟩
    | false =>
      rw [e] at h
      exact lookup_rel h1 (fun i l hl => h2 (i + 1) l hl) h
  | [], _ :: _, f, l, h, _, _ => by simp at h
  | _ :: _, [], f, l, h, _, _ => by simp at h
theorem lookup_none {α : Type} : ∀ {fvs : List (Str × V)} {fs : List (Str × α)} {f : Str}, fvs.map (·.1) = fs.map (·.1) → fs.lookup f = none → fvs.lookup f = none
  | [], [], f, _, _ => rfl
  | (g, x) :: r, (g', x') :: r', f, h1, h => by
    simp only [List.map_cons, List.cons.injEq] at h1
    obtain ⟨rfl, h1⟩ := h1
    rw [List.lookup_cons] at h ⊢
    cases e : f == g with
    | true => rw [e] at h; cases h
    | false => rw [e] at h; exact lookup_none h1 h
  | [], _ :: _, f, h, _ => by simp at h
  | _ :: _, [], f, h, _ => by simp at h
/-- the value is an instance of cl, with these fields -/
def insOf (M : Led) : Lo → Option (String × List (Str × Lo))
  | .im (.ins C fs) => some (C, fs.map fun p => (p.1, Lo.im p.2))
  | .ow k => match M[k]? with
    | some (.ob C fs) => some (C, fs)
    | _ => none
  | _ => none
theorem insOf_ok {C : Fc} {As : List Addr} {G H : Hp} {Γ : Gam} {M : Led} {σ : L2.St} {v : V} {l : Lo} {cl : String} {fs : List (Str × Lo)} (S : Sat C As G H Γ M σ) (r : LRp C.K As G v l) (h : insOf M l = some (cl, fs)) :
    ∃ a dx fvs, v = .ref a ∧ H a = some (.ins (cn C.K cl) dx fvs) ∧ fvs.map (·.1) = fs.map (·.1) ∧ LRpL C.K As G (fvs.map (·.2)) (fs.map (·.2)) := by
  cases l with
  | im d =>
    cases d <;> first | (cases h; done) | skip
    rename_i cl' fs'
    cases h
    cases r with
    | ins h1 h2 h3 => exact ⟨_, _, _, rfl, S.le _ _ h1, by rw [h2, List.map_map]; rfl, by
        have e : (fs'.map fun p => (p.1, Lo.im p.2)).map (·.2) = (fs'.map (·.2)).map Lo.im := by rw [List.map_map, List.map_map]; rfl
        rw [e]
        exact LRpL.of_data h3⟩
  | ow k =>
    obtain ⟨a, ha, rfl⟩ := r
    unfold insOf at h
    dsimp only at h
    split at h
    · rename_i cl' fs' e
      cases h
      obtain ⟨_, o, h0, dx, fvs, rfl, h1, h2⟩ := S.own _ _ _ ha e (by intro z; cases z)
      exact ⟨a, dx, fvs, rfl, h0, h1, h2⟩
    · cases h
  | tp ls => cases h
structure FldOk (K : PySem.W.Frag) (C : String) (f : Str) : Prop where
  c : Cls K (cn K C)
  n : NoAttr K (cn K C) f
def rFld (cs : List String) (f : Str) (te : RE) : RE := fun Γ M K => te Γ M fun l M1 => match insOf M1 l with
  | some (C, fs) => C ∈ cs ∧ ∃ l', fs.lookup f = some l' ∧ K l' M1
  | none => False
def rSetF (cs : List String) (f : Str) (to tv : RE) : RS := fun N Γ M => tv Γ M fun l M1 => to Γ M1 fun o M2 => match o with
  | .ow k => match M2[k]? with
    | some (.ob C fs) => C ∈ cs ∧ fs.length < 1000 ∧ N.nx Γ (M2.set k (.ob C (putL f l fs)))
    | _ => False
  | _ => False
section
variable {C : Fc} {X : Cx} {e o value : Expr} {f : Str} {pos pos' : Pos} {te to tv : RE} {cs : List String}
theorem q_fld (hK : C.K = X.K) (hc : ∀ c ∈ cs, FldOk X.K c f) (he : QE C X e te) (hb : attributeBase e f X.env (eval e X.env) = eval e X.env := by rfl) : QE C X (.Attribute e f pos) (rFld cs f te) := PE.imp (pe_fld he hb) fun σ H Q ⟨As, G, Γ, M, K, S, t, q⟩ =>
  ⟨As, G, Γ, M, _, S, t, fun l M1 v As1 G1 H1 g1 rv k1 => by
    split at k1
    · rename_i cl fs e1
      obtain ⟨hcl, l', hl, k2⟩ := k1
      obtain ⟨a, dx, fvs, rfl, h1, h2, h3⟩ := insOf_ok g1.sat rv e1
      obtain ⟨v', hv, r'⟩ := lookup_rel (R := fun v l => LRp C.K As1 G1 v l) h2 (fun i l hl => h3.get hl) hl
      rw [hK] at h1
      exact ⟨a, _, dx, fvs, v', rfl, h1, (hc cl hcl).c, (hc cl hcl).n, hv, q l' M1 v' As1 G1 H1 g1 r' k2⟩
    · exact k1.elim⟩
theorem q_setF (hK : C.K = X.K) (hc : ∀ c ∈ cs, FldOk X.K c f) (ho : QE C X o to) (hv : QE C X value tv) (hs : swapsWith value (some (.Attribute o f pos')) pos.line X.env = pure false := by rfl) : QS C X (.Assign [.Attribute o f pos'] value pos) (rSetF cs f to tv) := PS.imp (ps_fld ho hv hs) fun D σ H ⟨As, G, Γ, M, N, S, t, F⟩ =>
  ⟨As, G, Γ, M, _, S, t, fun l M1 v As1 G1 H1 g1 rv k1 => ⟨As1, G1, Γ, M1, _, g1.sat, k1, fun lo M2 vo As2 G2 H2 g2 ro k2 => by
    split at k2
    · rename_i k
      split at k2
      · rename_i cl fs e1
        obtain ⟨hcl, hlen, k3⟩ := k2
        obtain ⟨a, ha, rfl⟩ := ro
        obtain ⟨_, ob, h0, dx, fvs, rfl, h1, h2⟩ := g2.sat.own _ _ _ ha e1 (by intro z; cases z)
        obtain ⟨p1, p2⟩ := putL_ok (f := f) (rv.mono g2.g g2.p) h1 h2
        have hl : fvs.length < 1000 := by
          have := congrArg List.length h1
          rw [List.length_map, List.length_map] at this
          omega
        rw [hK] at h0
        refine ⟨a, _, dx, fvs, rfl, h0, (hc cl hcl).c, (hc cl hcl).n, hl, ?_⟩
        have S3 := g2.sat.write (o := .ins (cn C.K cl) dx (putF f v fvs)) (m' := .ob cl (putL f l fs)) ha e1 (by intro z; cases z) ⟨dx, _, rfl, p1, p2⟩
        rw [hK] at S3
        exact F.nx _ _ _ _ _ _ (g1.w.trans (g2.w.trans ⟨S3, Same.refl _⟩)) k3
      · exact k2.elim
    · exact k2.elim⟩⟩
end
structure MetOk (K : PySem.W.Frag) (C : String) (m : Str) (f : Addr) : Prop where
  c : Cls K (cn K C)
  m : Meth K (cn K C) m f
/-- the object ahead of the arguments -/
def rSelf (cl : String) (m : Str) (to : RE) (t : RA) : RA := fun Γ M K => to Γ M fun l M1 => match insOf M1 l with
  | some (C, fs) => C = cl ∧ fs.lookup m = none ∧ t Γ M1 fun ls M2 => K (l :: ls) M2
  | none => False
section
variable {C : Fc} {X : Cx} {f : Addr} {o e : Expr} {es : List Expr} {m : Str} {cl : String} {to : RE} {t : RA} {apos pos : Pos}
theorem ca_meth {pl : Sem Bool} (hK : C.K = X.K) (c : MetOk X.K cl m f) (ho : QE C X o to) (ha : QA C X (e :: es) t)
    (hst : starEach (e :: es) X.env = (false, eval e X.env) :: starEach es X.env := by rfl) (hpl : (backTo pos (starEach es X.env)).any (·.1) = false := by rfl)
    (ht : eval (.Call (.Attribute o m apos) (e :: es) [] pos) X.env = (do
      let ov ← eval o X.env
      standAt apos.atName
      let (f, first) ← holding [ov] (getMethod ov m pl)
      callWith pos f first (backTo pos (starEach (e :: es) X.env)) (backToKw pos (keywordEach [] X.env))) := by rfl) :
    CA C X (.Call (.Attribute o m apos) (e :: es) [] pos) f (rSelf cl m to t) := ⟨fun pins s σ H Q R I ⟨As, G, Γ, M, K, S, h, q⟩ k => by
  refine PySem.W.methodCall_KW (pl := pl) (thn (ho.run pins s σ H (fun v H1 => ∃ (As1 : List Addr) (G1 : Hp) (M1 : Led) (l : Lo), Gr C As G As1 G1 H1 Γ M1 σ ∧ LRp C.K As1 G1 v l ∧ (match insOf M1 l with
      | some (C, fs) => C = cl ∧ fs.lookup m = none ∧ t Γ M1 fun ls M2 => K (l :: ls) M2
      | none => False)) I ⟨As, G, Γ, M, _, S, h, fun l M1 v As1 G1 H1 g1 rv k1 => ⟨As1, G1, M1, l, g1, rv, k1⟩⟩) fun u s1 ⟨x, H1, I1, rx, As1, G1, M1, l, g1, rv, k1⟩ => ?_) ht
  split at k1
  · rename_i cl' fs e1
    obtain ⟨rfl, hl, k2⟩ := k1
    obtain ⟨a, dx, fvs, rfl, h1, h2, h3⟩ := insOf_ok g1.sat rv e1
    obtain rfl : u = Value.ref a := rx
    rw [hK] at h1
    refine getmeth_ok I1 h1 c.c c.m (lookup_none h2 hl) ?_
    refine PySem.W.callWith_K (first := [.ref a]) (h₀ := X.base) I.ok.mod.kin c.m.kp (thn (ha.run pos pins s1 σ H1 (fun vs H2 => R (.ref a :: vs) H2) I1 ⟨As1, G1, Γ, M1, _, g1.sat, k2, fun ls M2 vs As2 G2 H2 g2 rl k3 => q _ M2 _ As2 G2 H2 (g1.trans g2) (.cons (rv.mono g2.g g2.p) rl) k3⟩) fun us s2 ⟨vs, H2, I2, r, q2⟩ => ⟨I2.kIn, ?_⟩) hst hpl
    exact k (.ref a :: us) s2 (.ref a :: vs) H2 I2 (.cons rfl r) q2
  · exact k1.elim⟩
theorem ca_meth0 {pl : Sem Bool} (hK : C.K = X.K) (c : MetOk X.K cl m f) (ho : QE C X o to)
    (ht : eval (.Call (.Attribute o m apos) [] [] pos) X.env = (do
      let ov ← eval o X.env
      standAt apos.atName
      let (f, first) ← holding [ov] (getMethod ov m pl)
      callWith pos f first (backTo pos (starEach [] X.env)) (backToKw pos (keywordEach [] X.env))) := by rfl) :
    CA C X (.Call (.Attribute o m apos) [] [] pos) f (rSelf cl m to rNil) := ⟨fun pins s σ H Q R I ⟨As, G, Γ, M, K, S, h, q⟩ k => by
  refine PySem.W.methodCall_KW (pl := pl) (thn (ho.run pins s σ H (fun v H1 => ∃ (As1 : List Addr) (G1 : Hp) (M1 : Led) (l : Lo), Gr C As G As1 G1 H1 Γ M1 σ ∧ LRp C.K As1 G1 v l ∧ (match insOf M1 l with
      | some (C, fs) => C = cl ∧ fs.lookup m = none ∧ rNil Γ M1 fun ls M2 => K (l :: ls) M2
      | none => False)) I ⟨As, G, Γ, M, _, S, h, fun l M1 v As1 G1 H1 g1 rv k1 => ⟨As1, G1, M1, l, g1, rv, k1⟩⟩) fun u s1 ⟨x, H1, I1, rx, As1, G1, M1, l, g1, rv, k1⟩ => ?_) ht
  split at k1
  · rename_i cl' fs e1
    obtain ⟨rfl, hl, k2⟩ := k1
    obtain ⟨a, dx, fvs, rfl, h1, h2, h3⟩ := insOf_ok g1.sat rv e1
    obtain rfl : u = Value.ref a := rx
    rw [hK] at h1
    refine getmeth_ok I1 h1 c.c c.m (lookup_none h2 hl) ?_
    exact PySem.W.callWith_K0 (first := [.ref a]) I1.kIn c.m.kp (k [.ref a] s1 [.ref a] H1 I1 (.cons rfl .nil) (q _ M1 _ As1 G1 H1 g1 (.cons rv .nil) k2))
  · exact k1.elim⟩
end
section
variable {C : Fc} {As : List Addr} {G H : Hp} {Γ : Gam} {M : Led} {σ : L2.St} {a : Addr} {o : HO}
/-- something new that is not looked at -/
theorem Sat.extra (S : Sat C As G H Γ M σ) (h : H a = none) : Sat C As G (upd H a o) Γ M σ := by
  have hg := S.gn h
  refine ⟨fun b u e => ?_, ⟨S.stp.g, fun b u h1 hT h2 h3 => ?_, fun b u h1 => ?_⟩, fun k b m' e1 e2 e3 => ?_, S.fr, S.inj, S.al, S.asS, fun b hb => ?_, S.slot, S.len, S.bg, S.ba, fun P q e => ⟨(S.tb P q e).1, (S.tb P q e).2.keep (Same.refl _) (S.tb P q e).2.1 (upd_ne (S.tb_ne e h))⟩⟩
  · rw [upd_ne (ne_of_none (S.le b u e) h)]
    exact S.le b u e
  · obtain ⟨q1, q2⟩ := S.stp.k b u h1 hT h2 h3
    rw [upd_ne (ne_of_none q1 h)]
    exact ⟨q1, q2⟩
  · obtain ⟨o', q⟩ := S.stp.d b u h1
    by_cases hb : b = a
    · subst hb; exact ⟨_, upd_same⟩
    · rw [upd_ne hb]; exact ⟨o', q⟩
  · obtain ⟨q1, u, q2, q3⟩ := S.own k b m' e1 e2 e3
    exact ⟨q1, u, by rw [upd_ne (ne_of_none q2 h)]; exact q2, q3⟩
  · obtain ⟨u, q⟩ := S.there b hb
    exact ⟨u, by rw [upd_ne (ne_of_none q h)]; exact q⟩
end
def rMake (cl : String) (sp : DSp) (ex : EX) (t : RA) : RE := fun Γ M K => t Γ M fun ls M1 => callU (reach (M1 ++ [.ob cl []]) 64 (.ow M1.length :: ls) []) sp ex Γ (.ow M1.length :: ls) (M1 ++ [.ob cl []]) fun l Mu => l = .im .non ∧ K (.ow M1.length) Mu
section
variable {C : Fc} {X : Cx} {k : Nat} {f : Addr} {fd : FuncData} {ps : List Str} {sp : DSp} {ex : EX} {x : Str} {cl : String} {e : Expr} {es : List Expr} {t : RA} {p pos : Pos}
theorem run_mk {pins : List (Addr × Obj)} {σ : L2.St} {H : Hp} {s : Shared} {Q : VK} {us : List Value} {vs : List V} {As : List Addr} {G : Hp} {Γ : Gam} {M1 : Led} {ls : List Lo} {K : Lo → Led → Prop} (Mx : Mk X.K (cn X.K cl) f) (F : Gn C.T X.prog X.w X.K X.mg X.base k f fd ps sp) (hb : Binds X.K fd ps []) (hr : Room (k + 1) X.A) (hg : X.A.guards = some []) (hK : C.K = X.K)
    (tk : Takes X (UW C ex)) (I : Inv X pins σ H s) (r : Vals vs us) (S : Sat C As G H Γ M1 σ) (rl : LRpL C.K As G vs ls)
    (h : callU (reach (M1 ++ [.ob cl []]) 64 (.ow M1.length :: ls) []) sp ex Γ (.ow M1.length :: ls) (M1 ++ [.ob cl []]) fun l Mu => l = .im .non ∧ K (.ow M1.length) Mu)
    (hQ : ∀ (M' : Led) (v : V) (As' : List Addr) (G' H' : Hp), Gr C As G As' G' H' Γ M' σ → LRp C.K As' G' v (.ow M1.length) → K (.ow M1.length) M' → Q v H') : wpAny (model X.prog X.w) X.A (call (.ref (cn X.K cl)) us) (EP X pins σ Q) X.xe s := by
  obtain ⟨ok, hls, hsp⟩ := h
  have n1 : H (s.heap.objs.size + 1) = none := I.hok.fresh (Nat.le_succ _)
  have n2 : H s.heap.objs.size = none := I.hok.fresh (Nat.le_refl _)
  have ne : s.heap.objs.size ≠ s.heap.objs.size + 1 := Nat.ne_of_lt (Nat.lt_succ_self _)
  have I2 := Inv.made (C := cn X.K cl) I
  have S1 : Sat C As G (upd H s.heap.objs.size (.own (s.heap.objs.size + 1))) Γ M1 σ := S.extra n2
  have n3 : upd H s.heap.objs.size (.own (s.heap.objs.size + 1)) (s.heap.objs.size + 1) = none := by rw [upd_ne (Ne.symm ne)]; exact n1
  have S2 := S1.alloc (o := .ins (cn X.K cl) s.heap.objs.size []) (m := .ob cl []) n3 ⟨s.heap.objs.size, [], by rw [hK], rfl, .nil⟩
  have rl2 : LRpL C.K (As ++ [s.heap.objs.size + 1]) G (.ref (s.heap.objs.size + 1) :: vs) (.ow M1.length :: ls) := .cons ⟨_, by rw [← S.al]; simp, rfl⟩ (rl.mono (Same.refl _) (as_pre _ _))
  have r2 : Vals (V.ref (s.heap.objs.size + 1) :: vs) (Value.ref (s.heap.objs.size + 1) :: us) := .cons rfl r
  refine wpAny_call (make_map (f := f) I.kIn Mx.makes Mx.init (beq_iff_eq.mp Mx.fn) (codeAny_mono (gn_core (A' := X.A.under (.builtin "type.__call__" ⟨.ref (cn X.K cl) :: us, []⟩)) (Q := fun v H2 => v = .non ∧ Q (.ref (s.heap.objs.size + 1)) H2) F (hr.make _ us []) hg (I2.env0.make _ us []) I2.kIn hb hK r2 S2 rl2 ok hls hsp
    (fun l Mu v As' G' H' g rv k => ?_) fun x Mu k => k) fun res s' hq => ?_))
  · obtain ⟨kl, k⟩ := k
    rw [kl] at rv
    obtain rfl : v = .non := by cases rv; rfl
    refine ⟨rfl, hQ _ _ As' G' H' ⟨g.sat, g.g, (as_pre _ _).trans g.p⟩ ⟨_, pre_get g.p (by rw [← S.al]; simp), rfl⟩ k⟩
  · cases res with
    | error e => exact passAt tk σ pins _ _ e s' I2 hq
    | ok fl =>
      cases fl with
      | ret u =>
        obtain ⟨v, H', I3, rv, ev, q3⟩ := I2.after hq
        subst ev
        exact ⟨rv, ⟨V.ref (s.heap.objs.size + 1), H', I3, rfl, q3⟩⟩
      | next => exact False.elim hq
      | brk => exact False.elim hq
      | cont => exact False.elim hq
theorem q_make (hm : X.mg x = some (.ref (cn X.K cl))) (Mx : Mk X.K (cn X.K cl) f) (F : Gn C.T X.prog X.w X.K X.mg X.base k f fd ps sp) (hb : Binds X.K fd ps []) (hr : Room (k + 1) X.A) (hg : X.A.guards = some []) (hK : C.K = X.K) (tk : Takes X (UW C ex)) (ha : QA C X (e :: es) t)
    (hgl : Gl X x := by rfl) (hdb : (x == ("__debug__" : Str)) = false := by decide) (he : starEach (e :: es) X.env = (false, eval e X.env) :: starEach es X.env := by rfl) (hpl : (backTo pos (starEach es X.env)).any (·.1) = false := by rfl) :
    QE C X (.Call (.Name x p) (e :: es) [] pos) (rMake cl sp ex t) := ⟨fun pins s σ H Q I ⟨As, G, Γ, M, K, S, h, q⟩ => by
  refine wpAny_Call_Name_kw (ld_glob I hgl hm ?_ hdb)
  refine PySem.W.callWith_K (h₀ := X.base) I.ok.mod.kin Mx.kp (thn (ha.run pos pins s σ H (fun vs H1 => ∃ (As1 : List Addr) (G1 : Hp) (M1 : Led) (ls : List Lo), Gr C As G As1 G1 H1 Γ M1 σ ∧ LRpL C.K As1 G1 vs ls ∧ _) I ⟨As, G, Γ, M, _, S, h, fun ls M1 vs As1 G1 H1 g1 rl k1 => ⟨As1, G1, M1, ls, g1, rl, k1⟩⟩) fun us s1 ⟨vs, H1, I1, r, As1, G1, M1, ls, g1, rl, k1⟩ => ⟨I1.kIn, ?_⟩) he hpl
  exact run_mk Mx F hb hr hg hK tk I1 r g1.sat rl k1 fun M' v As' G' H' g rv k => q _ _ v As' G' H' (g1.trans g) rv k⟩
end
def rProp (cl : String) (sp : DSp) (to : RE) : RE := fun Γ M K => to Γ M fun l M1 => match insOf M1 l with
  | some (C, _) => C = cl ∧ callU (reach M1 64 [l] []) sp exF Γ [l] M1 K
  | none => False
section
variable {C : Fc} {X : Cx} {k : Nat} {p g : Addr} {fd : FuncData} {ps : List Str} {sp : DSp} {cl : String} {e : Expr} {f : Str} {to : RE} {pos : Pos}
theorem q_prop (hK : C.K = X.K) (c : Cls X.K (cn X.K cl)) (hp : PropOf X.K (cn X.K cl) f p g) (F : Gn C.T X.prog X.w X.K X.mg X.base k g fd ps sp) (hb : Binds X.K fd ps []) (hr : Room (k + 1) X.A) (hg : X.A.guards = some []) (he : QE C X e to) (hab : attributeBase e f X.env (eval e X.env) = eval e X.env := by rfl) : QE C X (.Attribute e f pos) (rProp cl sp to) := ⟨fun pins s σ H Q I ⟨As, G, Γ, M, K, S, h, q⟩ => by
  refine attr_of hab (thn (he.run pins s σ H (fun v H1 => ∃ (As1 : List Addr) (G1 : Hp) (M1 : Led) (l : Lo), Gr C As G As1 G1 H1 Γ M1 σ ∧ LRp C.K As1 G1 v l ∧ (match insOf M1 l with
      | some (C, _) => C = cl ∧ callU (reach M1 64 [l] []) sp exF Γ [l] M1 K
      | none => False)) I ⟨As, G, Γ, M, _, S, h, fun l M1 v As1 G1 H1 g1 rv k1 => ⟨As1, G1, M1, l, g1, rv, k1⟩⟩) fun u s1 ⟨x, H1, I1, rx, As1, G1, M1, l, g1, rv, k1⟩ => ?_)
  split at k1
  · rename_i cl' fs e1
    obtain ⟨rfl, ok, hls, hsp⟩ := k1
    obtain ⟨a, dx, fvs, rfl, h1, h2, h3⟩ := insOf_ok g1.sat rv e1
    obtain rfl : u = Value.ref a := rx
    rw [hK] at h1
    obtain ⟨mA, O, _, _, _, _⟩ := ins_get I1.hok h1
    obtain ⟨od, J, _⟩ := O.look
    obtain ⟨rest, hrec⟩ := hp.rec_
    have I2 := I1.tok (s1.toks + 1)
    have hc : (PySem.W.clsIn X.K (cn X.K cl')).isSome = true := by
      obtain ⟨cd, hc, _⟩ := PySem.W.any_some c.hd
      rw [hc]
      rfl
    refine PySem.W.get_bind I1.kIn J (PySem.W.plainGet_of (c.get f)).1 (PySem.W.findObj_data hc hp.at_ hp.get hp.tak) (PySem.W.plainGet_of (c.get f)).2 (wpAny_call (PySem.W.prop_get (s := { s1 with toks := s1.toks + 1 }) I1.kIn hrec ?_))
    refine codeAny_mono (gn_core (A' := X.A.in1) (ex := exF) (Q := Q) F hr.in1 hg I2.env0.in1 I2.kIn hb hK (us := [.ref a]) (vs := [.ref a]) (.cons rfl .nil) g1.sat (.cons rv .nil) ok hls hsp (fun l Mu v As' G' H' g rv k => q _ _ v As' G' H' (g1.trans g) rv k) fun x Mu k => k) fun r s' hq => ?_
    cases r with
    | error er =>
      obtain ⟨_, _, _, _, _, _, _, _, _, _, _, _, _, _, _, _, _, _, _, z⟩ := hq
      exact z.elim
    | ok fl =>
      cases fl with
      | ret u =>
        obtain ⟨v, H', I3, rv, q3⟩ := I2.after hq
        show wpAny _ _ (handedOut u) _ _ _
        rw [PySem.W.handedOut_of (handed_of rv)]
        exact wpAny_pure ⟨v, H', I3, rv, q3⟩
      | next => exact False.elim hq
      | brk => exact False.elim hq
      | cont => exact False.elim hq
  · exact k1.elim⟩
end
end Dl
set_option Elab.async false
set_option maxRecDepth 100000
set_option maxHeartbeats 4000000
namespace Dl
open PySem PySem.Spec PyProof.Rows L2
section
variable {P : Program} {w : World} {A : Around} {E : Value → Shared → Prop} {s : Shared} {l : Addr} {its : Array Value} {ns : List Int}
/-- a set without members -/
abbrev so0 (w : World) : Obj := { cls := .type "set", dict := none, data := .set #[] 0 (.fresh 0 0 (!w.params.followText "set-order")) }
/-- what the filling leaves -/
abbrev SFill (w : World) (s : Shared) (a : Addr) (ns : List Int) (s2 : Shared) : Prop := ∃ h' tk c, s2 = { s with heap := h', toks := tk } ∧ SetR w h' a (fun j => decide (j ∈ ns)) c ∧ c ≤ ns.length ∧ ∀ b o, s.heap.get? b = some o → h'.get? b = some o
theorem ia_at (hi : IntsAre its.toList ns) (hz : its.size = ns.length) (i : Nat) (v : Value) (hv : its[i]? = some v) : ∃ k t, ns[i]? = some k ∧ v = .int k t := by
  obtain ⟨t, e⟩ := PyProof.Rows.IntsAre.int_at hi i v (by rw [Array.getElem?_toList]; exact hv)
  have lt : i < ns.length := by have := (Array.getElem?_eq_some_iff.mp hv).1; omega
  have g : ns[i]? = some (ns.getD i 0) := by rw [List.getD_eq_getElem?_getD, List.getElem?_eq_getElem lt]; rfl
  exact ⟨_, t, g, e⟩
/-- the filling of a new set from a list -/
theorem fill_lst {R : Result → Shared → Prop} (hh : A.in1.handled = none) (hl : s.heap.IsList l its) (hi : IntsAre its.toList ns) (hb : ns.length + 1 < scanBound) (hR : ∀ s2, SFill w s s.heap.objs.size ns s2 → R (.ok (.ret .none)) s2) :
    codeAny (model P w) A (.builtin "set.update.loop" ⟨[.ref s.heap.objs.size, .ref (s.heap.push (so0 w)).objs.size], []⟩) R { s with heap := (s.heap.push (so0 w)).push { cls := .type "list_iterator", data := .fields #[.ref l, .int 0 0] } } := by
  have hz : its.size = ns.length := by rw [← Array.length_toList]; exact IntsAre.length hi
  obtain ⟨ol, hol, _⟩ := id hl
  have lt := Heap.lt_size hol
  have n1 : l ≠ (s.heap.push (so0 w)).objs.size := by rw [Heap.size_push]; exact Nat.ne_of_lt (Nat.lt_succ_of_lt lt)
  have n2 : s.heap.objs.size ∉ [(s.heap.push (so0 w)).objs.size, l] := by
    rw [Heap.size_push]
    simp only [List.mem_cons, List.not_mem_nil, or_false, not_or]
    exact ⟨Nat.ne_of_lt (Nat.lt_succ_self _), Nat.ne_of_gt lt⟩
  have g1 : (s.heap.push (so0 w)).get? s.heap.objs.size = some (so0 w) := Heap.get?_push_size _ rfl
  refine set_update_ints (Walks.list hh _ l n1 its).toS s.heap.objs.size n2 ns hz hb (fun i v hv => ia_at hi hz i v hv) its.size 0 _ (Nat.sub_zero _) (Nat.zero_le _) ⟨⟨_, Heap.get?_push_size _ rfl, rfl, rfl⟩, (hl.push _).push _⟩ ⟨0, Nat.le_refl 0, setR_new_at (Heap.get?_push_of_some _ g1)⟩ fun s2 c hm hc hS => hR s2 ⟨s2.heap, s2.toks, c, ?_, hS, by omega, fun b o e => ?_⟩
  · obtain ⟨a1, a2, a3, a4, a5⟩ := s2
    cases hm.gens
    cases hm.drawn
    cases hm.os
    rfl
  · have b1 := Heap.lt_size e
    refine hm.heap b o ?_ (Heap.get?_push_of_some _ (Heap.get?_push_of_some _ e))
    rw [Heap.size_push]
    simp only [List.mem_cons, List.not_mem_nil, or_false, not_or]
    exact ⟨Nat.ne_of_lt b1, Nat.ne_of_lt (Nat.lt_succ_of_lt b1)⟩
/-- set.__init__ of the new set, from a list -/
theorem init_lst {Q : Value → Shared → Prop} (hh : A.handled = none) (hl : s.heap.IsList l its) (hi : IntsAre its.toList ns) (hb : ns.length + 1 < scanBound) (hQ : ∀ s2, SFill w s s.heap.objs.size ns s2 → Q .none s2) :
    codeAny (model P w) A (.call (.builtin "set.__init__") ⟨[.ref s.heap.objs.size, .ref l], []⟩) (wants Q E) { s with heap := s.heap.push (so0 w) } := by
  have ty : Shared.TypeIs { s with heap := s.heap.push (so0 w) } (.ref s.heap.objs.size) "set" := ⟨_, Heap.get?_push_size _ rfl, rfl⟩
  refine codeAny_call_builtin F.called_set.init.plain F.entry_set_init (check_set_init_1 ty ?_)
  obtain ⟨⟨oc, od, dt, sl⟩, g0, c0, m0, d0⟩ := id hl
  simp only at c0 d0
  subst c0 d0
  have g2 := Heap.get?_push_of_some (so0 w) g0
  have il : (s.heap.push (so0 w)).IsList l its := ⟨_, g2, rfl, m0, rfl⟩
  have k1 := F.sub_list_set
  have k2 := F.sub_list_frozenset
  have k3 : (Value.type "list" == Value.type "dict") = false := rfl
  unfold Builtin.«set.__init__» noKeywords Builtin.Frozenset.updateFrom
  generalize hp : pyIter = it
  wp_walk
  subst hp
  refine wpAny_pyIter_list il (wpAny_bind (wpAny_runValue (fill_lst (by simp [hh]) hl hi hb fun s2 f => ?_)))
  exact wpAny_pure (wpAny_pure (hQ s2 f))
theorem call_setL {Q : Value → Shared → Prop} (hh : A.handled = none) (hl : s.heap.IsList l its) (hi : IntsAre its.toList ns) (hb : ns.length + 1 < scanBound) (hQ : ∀ s2, SFill w s s.heap.objs.size ns s2 → Q (.ref s.heap.objs.size) s2) : wpAny (model P w) A (call (.type "set") [.ref l]) Q E s := by
  obtain ⟨_, _, m1⟩ := F.called_set.mro
  have m2 := F.called_set.made
  have m3 := F.called_set.sub
  have m4 := F.called_set.notType
  have m5 := F.called_set.canCreate
  have m6 := F.typeCall_set_1 (.ref l)
  refine wpAny_call (codeAny_of_tree (?_ : wpAny _ _ (callAny (.type "set") _) _ _ _))
  refine wpAny_pure ⟨Code.quiet_builtin _ (by decide +kernel), codeAny_builtin F.entry_type_call ?_⟩
  rw [Around.under_plain (weight_type_call_type "set" [.ref l] []) rfl]
  repeat (any_goals (first | assumption | wp_step))
  refine codeAny_mono (code_set_led1 (.ref l) (E := E) (Q₁ := fun v s1 => v = .ref s.heap.objs.size ∧ s1 = { s with heap := s.heap.push (so0 w) }) ⟨rfl, rfl⟩) fun r s1 z => ?_
  cases r with
  | error e => exact z
  | ok f =>
    cases f with
    | ret v =>
      obtain ⟨rfl, rfl⟩ := z
      have ty : Shared.TypeIs { s with heap := s.heap.push (so0 w) } (.ref s.heap.objs.size) "set" := ⟨_, Heap.get?_push_size _ rfl, rfl⟩
      have m7 := F.called_set.init.lookup
      have m8 := F.called_set.init.bind (.ref s.heap.objs.size)
      repeat (any_goals (first | assumption | wp_step))
      refine codeAny_mono (init_lst (E := E) (Q := fun v s2 => v = .none ∧ SFill w s s.heap.objs.size ns s2) (by simp [hh]) hl hi hb fun s2 f => ⟨rfl, f⟩) fun r2 s2 z2 => ?_
      cases r2 with
      | error e => exact z2
      | ok f2 =>
        cases f2 with
        | ret v2 =>
          obtain ⟨rfl, f⟩ := z2
          repeat (any_goals (first | assumption | wp_step))
          exact hQ s2 f
        | _ => exact z2.elim
    | _ => exact z.elim
end
/-- a new set of the ints of a list or a tuple -/
theorem set_seq {X : Cx} {pins : List (Addr × Obj)} {σ : L2.St} {H : Hp} {s : Shared} {l : Addr} {ns : List Int} {E : Value → Shared → Prop} {Q : Value → Shared → Prop} (hc : X.calm = true) (I : Inv X pins σ H s) (h : SqL X.K H l (ns.map V.int) ∨ SqT X.K H l (ns.map V.int)) (hb : ns.length ≤ 1000)
    (hQ : ∀ s2 c, SetR X.w s2.heap s.heap.objs.size (fun j => decide (j ∈ ns)) c → c ≤ ns.length → Inv X pins σ H s2 → Q (.ref s.heap.objs.size) s2) : wpAny (model X.prog X.w) X.A (call (.type "set") [.ref l]) Q E s := by
  rcases h with h | h
  · obtain ⟨its, r, pl, hz⟩ := I.list h
    refine call_setL (I.ok.hd hc) pl.isList (ns := ns) (ints_of_vals r) (by unfold scanBound; omega) fun s2 f => ?_
    obtain ⟨h', tk, c, rfl, R, c1, k⟩ := f
    exact hQ _ c R c1 (I.kept k)
  · obtain ⟨its, r, pl, hz⟩ := I.tuple h
    refine call_set_tupI ns (I.ok.hd hc) (show s.heap.IsTuple l its.toArray from pl) (ints_of_vals r) (by unfold scanBound; omega) fun h' tk c R c1 k => ?_
    exact hQ _ c R c1 (I.kept k)
def uq : List Int → List Int
  | [] => []
  | [a] => [a]
  | a :: b :: r => if a = b then uq (b :: r) else a :: uq (b :: r)
theorem uq_mem {k : Int} : ∀ l : List Int, k ∈ uq l ↔ k ∈ l
  | [] => Iff.rfl
  | [a] => Iff.rfl
  | a :: b :: r => by
    have ih := uq_mem (k := k) (b :: r)
    unfold uq
    split
    · rename_i e
      subst e
      rw [ih]
      simp
    · rw [List.mem_cons, ih, List.mem_cons (a := k) (b := a)]
theorem uq_pw : ∀ {l : List Int}, l.Pairwise (· ≤ ·) → (uq l).Pairwise (· < ·)
  | [], _ => List.Pairwise.nil
  | [a], _ => List.pairwise_singleton _ _
  | a :: b :: r, h => by
    have h2 := (List.pairwise_cons.mp h).2
    have ih := uq_pw h2
    unfold uq
    split
    · exact ih
    · rename_i e
      refine List.pairwise_cons.mpr ⟨fun x hx => ?_, ih⟩
      have hx := (uq_mem _).mp hx
      have h1 := (List.pairwise_cons.mp h).1
      have hb := h1 b List.mem_cons_self
      rcases List.mem_cons.mp hx with rfl | hx
      · omega
      · have := (List.pairwise_cons.mp h2).1 x hx
        omega
/-- the members of a list of ints, ascending -/
def srtU (ns : List Int) : List Int := uq (srt ns)
theorem srtU_mem {ns : List Int} {k : Int} : k ∈ srtU ns ↔ k ∈ ns := (uq_mem _).trans (srt_perm ns).mem_iff
theorem srtU_pw (ns : List Int) : (srtU ns).Pairwise (· < ·) := uq_pw (srt_pw ns)
theorem pw_uniq : ∀ {xs ys : List Int}, xs.Pairwise (· < ·) → ys.Pairwise (· < ·) → (∀ k, k ∈ xs ↔ k ∈ ys) → xs = ys
  | [], [], _, _, _ => rfl
  | [], y :: ys, _, _, h => absurd ((h y).mpr List.mem_cons_self) (by simp)
  | x :: xs, [], _, _, h => absurd ((h x).mp List.mem_cons_self) (by simp)
  | x :: xs, y :: ys, h1, h2, h => by
    obtain ⟨a1, a2⟩ := List.pairwise_cons.mp h1
    obtain ⟨b1, b2⟩ := List.pairwise_cons.mp h2
    have e : x = y := by
      have q1 := (h x).mp List.mem_cons_self
      have q2 := (h y).mpr List.mem_cons_self
      rcases List.mem_cons.mp q1 with e | q1
      · exact e
      · rcases List.mem_cons.mp q2 with e | q2
        · exact e.symm
        · have := b1 x q1
          have := a1 y q2
          omega
    subst e
    refine congrArg (x :: ·) (pw_uniq a2 b2 fun k => ?_)
    have := h k
    rw [List.mem_cons, List.mem_cons] at this
    constructor
    · intro hk
      have lt := a1 k hk
      exact (this.mp (.inr hk)).resolve_left (by omega)
    · intro hk
      have lt := b1 k hk
      exact (this.mpr (.inr hk)).resolve_left (by omega)
theorem srtU_of {ns xs : List Int} (h1 : xs.Pairwise (· < ·)) (h2 : ∀ k, k ∈ xs ↔ k ∈ ns) : xs = srtU ns := pw_uniq h1 (srtU_pw ns) fun k => (h2 k).trans srtU_mem.symm
theorem srtU_self {ns : List Int} (h : ns.Pairwise (· < ·)) : srtU ns = ns := (srtU_of h fun _ => Iff.rfl).symm
def tSeqI (K : PySem.W.Frag) (te : TE) (Z : List Int → Hp → VK → Prop) : TE := fun σ H Q => te σ H fun x H1 => ∃ (l : Addr) (ns : List Int), x = .ref l ∧ (SqL K H1 l (ns.map V.int) ∨ SqT K H1 l (ns.map V.int)) ∧ Z ns H1 Q
section
variable {X : Cx} {e : Expr} {te : TE} {p p2 q pos : Pos}
theorem pe_srtSetU (hg : Gl X "sorted") (hm : X.mg "sorted" = none) (hg2 : Gl X "set") (hm2 : X.mg "set" = none) (ha : PE X e te) (hc : X.calm = true := by rfl)
    (na : starEach [e] X.env = (false, eval e X.env) :: starEach [] X.env := by rfl) : PE X (.Call (.Name "sorted" p) [.Call (.Name "set" p2) [e] [] q] [] pos) (tSeqI X.K te fun ns H Q => ns.length < 64 ∧ ∀ p, H p = none → Q (.ref p) (upd H p (.lst ((srtU ns).map V.int)))) := by
  refine ⟨fun pins s σ H Q I h => ?_⟩
  refine Call_ (ld_blt I hg hm boot_sorted ?_)
  refine PyProof.Rows.callWith_builtin1 (PyProof.Rows.args_cons ?_ rfl) rfl rfl
  refine Call_ (ld_blt I hg2 hm2 PyProof.Rows.boot_set ?_)
  refine PyProof.Rows.callWith_type1 (PyProof.Rows.args_cons (thn (ha.run pins s σ H _ I h) fun v s1 ⟨x, H1, I1, r1, q1⟩ => PyProof.Rows.args_nil ?_) na) na rfl
  obtain ⟨l, ns, rfl, hq, hl, q1⟩ := q1
  cases r1
  refine set_seq hc I1 hq (by omega) fun s2 c R c1 I2 => PyProof.Rows.args_nil ?_
  refine sorted_set R (I2.ok.hd hc) (by omega) fun s' p out c2 ms k g o hp hgo hi hs hmem hlen => ?_
  have em : ms = srtU ns := srtU_of hs fun k => by rw [hmem k]; simp
  subst em
  have hz : ((srtU ns).map V.int).length ≤ sizeLine := by rw [List.length_map, hlen, sizeLine_eq]; omega
  have hn : H1 p = none := I2.hok.fresh hp
  have J : Inv X pins σ (upd H1 p (.lst ((srtU ns).map V.int))) { s2 with heap := s'.heap, gens := s'.gens, drawn := s'.drawn, toks := s'.toks } :=
    I2.call (ch := []) (Un.laid k hp hn) (I2.hok.laid k hp ⟨hz, out.toList, c2, vals_of_ints hi, hgo⟩) (by rw [g]; exact I2.bare) (fun _ z => nomatch z)
  have e2 : s' = { s2 with heap := s'.heap, gens := s'.gens, drawn := s'.drawn, toks := s'.toks } := by
    cases s'
    cases s2
    cases o
    rfl
  rw [e2]
  exact ⟨.ref p, _, J, rfl, q1 p hn⟩
end
def rSrtSet (out : Hand) (te : RE) : RE := fun Γ M K => te Γ M fun l M1 => match seqOf M1 l with
  | some ds => ∃ ns : List Int, some (D.lst ds) = some (.lst (ns.map D.int)) ∧ ns.length < 64 ∧ out ((srtU ns).map D.int) M1 K
  | none => False
section
variable {C : Fc} {X : Cx} {e : Expr} {te : RE} {p p2 q pos : Pos} {out : Hand}
theorem q_srtSet (hK : C.K = X.K) (hout : OutN out) (hm : X.mg "sorted" = none) (hm2 : X.mg "set" = none) (ha : QE C X e te) (hg : Gl X "sorted" := by rfl) (hg2 : Gl X "set" := by rfl) (hc : X.calm = true := by rfl)
    (na : starEach [e] X.env = (false, eval e X.env) :: starEach [] X.env := by rfl) : QE C X (.Call (.Name "sorted" p) [.Call (.Name "set" p2) [e] [] q] [] pos) (rSrtSet out te) := PE.imp (pe_srtSetU hg hm hg2 hm2 ha hc na) fun σ H Q ⟨As, G, Γ, M, K, S, t, q⟩ =>
  ⟨As, G, Γ, M, _, S, t, fun l M1 v As1 G1 H1 g1 rv k1 => by
    split at k1
    · rename_i ds e1
      obtain ⟨ns, e2, hl, k2⟩ := k1
      cases e2
      obtain ⟨a, xs, rfl, h1, h2⟩ := g1.sat.seq rv e1
      obtain rfl := RpL.ints h2
      rw [hK] at h1
      exact ⟨a, ns, rfl, h1, hl, fun p0 hp => hout g1.sat hp (RpL.of_ints _) k2 fun l2 M2 v2 As2 G2 H2 g2 r2 k3 => q l2 M2 v2 As2 G2 H2 (g1.trans g2) r2 k3⟩
    · exact k1.elim⟩
end
theorem rSrtSet_e (out : Hand) (te : RE) : ∀ Γ M K, rSrtSet out te Γ M K = (te Γ M fun l M1 => match seqOf M1 l with
  | some ds => @IntsI (some (.lst ds)) ⟨fun ns => ns.length < 64 ∧ out ((srtU ns).map D.int) M1 K⟩
  | none => False) := fun _ _ _ => rfl
end Dl
set_option Elab.async false
set_option maxRecDepth 100000
set_option maxHeartbeats 1000000
namespace Dl
open PySem PySem.Spec PyProof.Rows L2
def rRawC (X : Cx) (op : CmpOp) : R2 := fun x y H Q => ∀ (pins : List (Addr × Obj)) (σ : L2.St) (s : Shared) (u v : Value), Inv X pins σ H s → RelV x u → RelV y v → wpAny (model X.prog X.w) X.A (compareOp op u v) (EP X pins σ Q) X.xe s
theorem op_rawC {X : Cx} {op : CmpOp} : OpR X (compareOp op) (rRawC X op) := fun pins s σ H x y v u Q I rx ry h => h pins σ s v u I rx ry
def oEqO (cl : String) (sp : DSp) : R2L := fun x y M K => match insOf M x, insOf M y with
  | some (C, _), some (C', _) => C = cl ∧ C' = cl ∧ callU (reach M 64 [x, y] []) sp exF [] [x, y] M K
  | _, _ => False
section
variable {C : Fc} {X : Cx} {k : Nat} {g : Addr} {fd : FuncData} {ps : List Str} {sp : DSp} {cl : String}
theorem eqOL (hK : C.K = X.K) (c : MetOk X.K cl "__eq__" g) (F : Gn C.T X.prog X.w X.K X.mg X.base k g fd ps sp) (hb : Binds X.K fd ps []) (hr : Room k X.A) (hg : X.A.guards = some []) : OpL C (rRawC X .Eq) (oEqO cl sp) := fun {As G H Γ M σ x y lx ly K Q} S rx ry t q => by
  intro pins σ' s u v I r1 r2
  unfold oEqO at t
  split at t
  · rename_i e1 e2
    obtain ⟨rfl, rfl, ok, hls, hsp⟩ := t
    obtain ⟨a, dx, fvs, rfl, h1, _, _⟩ := insOf_ok S rx e1
    obtain ⟨b, dy, gvs, rfl, h2, _, _⟩ := insOf_ok S ry e2
    obtain rfl : u = Value.ref a := r1
    obtain rfl : v = Value.ref b := r2
    rw [hK] at h1 h2
    obtain ⟨_, O1, _, _, _, _⟩ := ins_get I.hok h1
    obtain ⟨_, O2, _, _, _, _⟩ := ins_get I.hok h2
    obtain ⟨od, J, _⟩ := O1.look
    obtain ⟨od', J', _⟩ := O2.look
    obtain ⟨m, hF⟩ := I.fr
    have S' : Sat C As G H [] M [] := ⟨S.le, S.stp, S.own, S.fr, S.inj, S.al, S.asS, S.there, fun i l e => by simp at e, rfl, S.bg, S.ba, S.tb⟩
    show wpAny _ _ (richCompare .Eq _ _) _ _ _
    refine PySem.W.cmp_K (op := .Eq) (tb := .ref _) hr.units0 hF I.ok.mod.kin J J'.type (by unfold PySem.W.notFirst; simp) (show PySem.W.findIn X.K _ "__eq__" = _ from c.m.at_) c.m.fn ?_
    refine wpAny_call (codeAny_mono (gn_core (ex := exF) (Γ := []) (σ := []) (Q := Q) F hr hg I.env0 I.kIn hb hK (us := [.ref a, .ref b]) (vs := [.ref a, .ref b]) (.cons rfl (.cons rfl .nil)) S' (.cons rx (.cons ry .nil)) ok hls hsp (fun l Mu v As' G' H' g rv k => q _ _ v As' G' H' ⟨⟨g.sat.le, g.sat.stp, g.sat.own, g.sat.fr, g.sat.inj, g.sat.al, g.sat.asS, g.sat.there, fun i l e => by
      obtain ⟨w, q1, q2⟩ := S.slot i l e
      exact ⟨w, q1, q2.mono g.g g.p⟩, S.len, g.sat.bg, g.sat.ba, g.sat.tb⟩, g.g, g.p⟩ rv k) fun x Mu k => k) fun r s' hq => ?_)
    cases r with
    | error er =>
      obtain ⟨_, _, _, _, _, _, _, _, _, _, _, _, _, _, _, _, _, _, _, z⟩ := hq
      exact z.elim
    | ok fl =>
      cases fl with
      | ret u =>
        obtain ⟨v, H', I3, rv, q3⟩ := I.after hq
        exact SlX.cmpback rv ⟨v, H', I3, rv, q3⟩
      | next => exact False.elim hq
      | brk => exact False.elim hq
      | cont => exact False.elim hq
  · exact t.elim
end
structure Dm (K : PySem.W.Frag) (cl : String) (m qual : Str) (st : Stmt) (ps : List Str) where
  f : Addr
  fd : FuncData
  F : Fun K m qual st f fd
  m : MetOk K cl m f
  b : Binds K fd ps []
structure Dp (K : PySem.W.Frag) (cl : String) (m qual : Str) (st : Stmt) (ps : List Str) where
  f : Addr
  p : Addr
  fd : FuncData
  F : Fun K m qual st f fd
  c : Cls K (cn K cl)
  m : PropOf K (cn K cl) m p f
  b : Binds K fd ps []
structure Dn (K : PySem.W.Frag) (mg : Str → Option Value) (cl : String) (qual : Str) (st : Stmt) (ps : List Str) where
  f : Addr
  fd : FuncData
  F : Fun K "__init__" qual st f fd
  m : Mk K (cn K cl) f
  g : mg (Str.ofString cl) = some (.ref (cn K cl))
  b : Binds K fd ps []
theorem rFld_e (cs : List String) (f : Str) (te : RE) : ∀ Γ M K, rFld cs f te Γ M K = (te Γ M fun l M1 => match insOf M1 l with
  | some (C, fs) => C ∈ cs ∧ @ExI _ (fs.lookup f) ⟨fun l' => K l' M1⟩
  | none => False) := fun _ _ _ => rfl
theorem rSetF_e (cs : List String) (f : Str) (to tv : RE) : ∀ N Γ M, rSetF cs f to tv N Γ M = (tv Γ M fun l M1 => to Γ M1 fun o M2 => match o with
  | .ow k => match M2[k]? with
    | some (.ob C fs) => C ∈ cs ∧ fs.length < 1000 ∧ N.nx Γ (M2.set k (.ob C (putL f l fs)))
    | _ => False
  | _ => False) := fun _ _ _ => rfl
theorem rSelf_e (cl : String) (m : Str) (to : RE) (t : RA) : ∀ Γ M K, rSelf cl m to t Γ M K = (to Γ M fun l M1 => match insOf M1 l with
  | some (C, fs) => C = cl ∧ fs.lookup m = none ∧ t Γ M1 fun ls M2 => K (l :: ls) M2
  | none => False) := fun _ _ _ => rfl
theorem rCallU_e (sp : DSp) (ex : EX) (t : RA) : ∀ Γ M K, rCallU sp ex t Γ M K = (t Γ M fun ls M1 => callU (reach M1 64 ls []) sp ex Γ ls M1 K) := fun _ _ _ => rfl
theorem rMake_e (cl : String) (sp : DSp) (ex : EX) (t : RA) : ∀ Γ M K, rMake cl sp ex t Γ M K = (t Γ M fun ls M1 => callU (reach (M1 ++ [.ob cl []]) 64 (.ow M1.length :: ls) []) sp ex Γ (.ow M1.length :: ls) (M1 ++ [.ob cl []]) fun l Mu => l = .im .non ∧ K (.ow M1.length) Mu) := fun _ _ _ => rfl
theorem rProp_e (cl : String) (sp : DSp) (to : RE) : ∀ Γ M K, rProp cl sp to Γ M K = (to Γ M fun l M1 => match insOf M1 l with
  | some (C, _) => C = cl ∧ callU (reach M1 64 [l] []) sp exF Γ [l] M1 K
  | none => False) := fun _ _ _ => rfl
theorem oEqO_e (cl : String) (sp : DSp) : ∀ x y M K, oEqO cl sp x y M K = (match insOf M x, insOf M y with
  | some (C, _), some (C', _) => C = cl ∧ C' = cl ∧ callU (reach M 64 [x, y] []) sp exF [] [x, y] M K
  | _, _ => False) := fun _ _ _ _ => rfl
/-- a call's ways on, hidden -/
def kU (is : List Nat) (M1 : Led) (K : Lo → Led → Prop) : Lo → Led → Prop := fun l Mu => K (renL (ren is M1.length) l) (put is Mu M1)
def kUX (is : List Nat) (M1 : Led) (K : Exn → Led → Prop) : Exn → Led → Prop := fun x Mu => K x (put is Mu M1)
theorem callU_e {is : List Nat} {sp : DSp} {ex : EX} {Γ : Gam} {ls : List Lo} {M1 : Led} {K : Lo → Led → Prop} : callU is sp ex Γ ls M1 K = (PickOk is M1 ∧ refLs (· ∈ is) ls ∧ @CallI sp (ls.map (renL (loc is))) (pick is M1) ⟨(kU is M1 K, kUX is M1 fun x M' => ex x Γ M')⟩) := rfl
theorem kU_e {is : List Nat} {M1 : Led} {K : Lo → Led → Prop} {l : Lo} {Mu : Led} : kU is M1 K l Mu = K (renL (ren is M1.length) l) (put is Mu M1) := rfl
theorem kUX_e {is : List Nat} {M1 : Led} {K : Exn → Led → Prop} {x : Exn} {Mu : Led} : kUX is M1 K x Mu = K x (put is Mu M1) := rfl
/-- pieces that simp computes with -/
theorem ofStr_inj {a b : String} (h : Str.ofString a = Str.ofString b) : a = b := by
  rw [Str.ofString_eq_toList, Str.ofString_eq_toList] at h
  have h1 : (a.toList.map Char.toNat).toArray = (b.toList.map Char.toNat).toArray := congrArg Str.cps h
  have h2 : a.toList.map Char.toNat = b.toList.map Char.toNat := by simpa using h1
  have h3 : a.toList = b.toList := (List.map_inj_right fun x y e => Char.toNat_inj.mp e).mp h2
  exact String.toList_inj.mp h3
theorem str_beq {a b : String} : (Str.ofString a == Str.ofString b) = decide (a = b) := by
  by_cases h : a = b
  · subst h; simp
  · have : Str.ofString a ≠ Str.ofString b := fun e => h (ofStr_inj e)
    rw [beq_eq_false_iff_ne.mpr this, decide_eq_false h]
theorem str_eq {a b : String} : (Str.ofString a = Str.ofString b) = (a = b) := propext ⟨ofStr_inj, fun h => by rw [h]⟩
end Dl
namespace Dl
open PySem PySem.Spec PyProof.Rows L2
section
variable {K : PySem.W.Frag} {mg : Str → Option Value} {x : String} {c f p : Addr} {m : Str} {rs : List Value}
theorem cls_mk (nx : PySem.W.nsIn K mainGlobals (Str.ofString x) = some (some (.ref c))) (pg : PySem.W.plainGet K c Str.empty = true) (hd : PySem.W.hasDictIn K c = true) (po : PySem.W.plainOver K c = true) (sa : PySem.W.findIn K (.ref c) "__setattr__" = some (some (.builtin "object.__setattr__"))) : Cls K (cn K x) := by
  rw [cn_eq nx]
  exact ⟨pg, hd, po, sa⟩
theorem fld_mk (C : Cls K (cn K x)) (nx : PySem.W.nsIn K mainGlobals (Str.ofString x) = some (some (.ref c))) (n : PySem.W.findIn K (.ref c) m = some none) : FldOk K x m := ⟨C, by
  rw [cn_eq nx]
  exact n⟩
theorem met_mk (C : Cls K (cn K x)) (nx : PySem.W.nsIn K mainGlobals (Str.ofString x) = some (some (.ref c))) (a : PySem.W.findIn K (.ref c) m = some (some (.ref f))) (fn : PySem.W.isFn K (.ref f) = true) (k : PySem.W.keepIn K (.ref f) = true) : MetOk K x m f := ⟨C, by
  rw [cn_eq nx]
  exact ⟨a, fn, k⟩⟩
theorem prop_mk (nx : PySem.W.nsIn K mainGlobals (Str.ofString x) = some (some (.ref c))) (a : PySem.W.findIn K (.ref c) m = some (some (.ref p))) (g : PySem.W.specialIn K (.ref p) "__get__" = some (some (.builtin "property.__get__"))) (t : PySem.W.takesIn K (.ref p) = some true) (r : PySem.W.recIn K p "property" = some (.ref f :: rs)) : PropOf K (cn K x) m p f := by
  rw [cn_eq nx]
  exact ⟨a, g, t, rs, r⟩
theorem mk_mk (nx : PySem.W.nsIn K mainGlobals (Str.ofString x) = some (some (.ref c))) (mk : PySem.W.makesIn K c = true) (i : PySem.W.findIn K (.ref c) "__init__" = some (some (.ref f))) (fn : PySem.W.isFn K (.ref f) = true) (k : PySem.W.keepIn K (.ref c) = true) : Mk K (cn K x) f := by
  rw [cn_eq nx]
  exact ⟨mk, i, fn, k⟩
theorem g_mk (nx : PySem.W.nsIn K mainGlobals (Str.ofString x) = some (some (.ref c))) (m : mg (Str.ofString x) = some (.ref c)) : mg (Str.ofString x) = some (.ref (cn K x)) := by
  rw [cn_eq nx]
  exact m
end
end Dl
set_option Elab.async false
set_option maxRecDepth 100000
set_option maxHeartbeats 1000000
namespace Dl
open PySem PySem.Spec PyProof.Rows L2
section
variable {prog : Program} {w : World} {A : Around} {E : Value → Shared → Prop} {s : Shared} {K : PySem.W.Frag} {x y C f L : Addr} {h₀ : Heap} {m : Str → Option Value} {ox : Obj} {od : Option Obj} {b : Value}
theorem ne_entry {Q : _root_.PySem.Fin → Shared → Prop} (hu : A.units < cLine) (X : K.In s.heap) (I : PySem.W.InstAt s.heap x ox C od) (hs : PySem.W.findIn K (.ref C) "__eq__" = some (some (.ref f))) (hf : PySem.W.isFn K (.ref f) = true)
    (h : wpAny (model prog w) A (call (.ref f) [.ref x, .ref y]) (fun v s' => ∃ b, v = .bool b ∧ Q (.done (.ret (.bool (!b)))) s') E s) :
    wpAny (model prog w) A (Builtin.«object.__ne__» ⟨[.ref x, .ref y], []⟩) Q E s := by
  unfold Builtin.«object.__ne__»
  repeat (first
    | with_reducible refine wpAny_cRoomFor hu ?_
    | (refine wpAny_bind (m := callSpecialIfBound? (.ref x) (Str.ofString "__eq__") [.ref y])
        (PySem.W.ifBound_K X I hs hf (wpAny_mono h (fun r s' hr => by
          obtain ⟨b, rfl, hq⟩ := hr
          repeat (first | exact hq | exact wpAny_pure hq | exact wpAny_truthy_bool hq | (refine wpAny_bind (m := truthy (.bool _)) (wpAny_truthy_bool ?_)) | wp_step)) fun _ _ e => e)))
    | wp_step)
theorem ne_ifBound {M : Model} {args : List Value} {Q : Option Value → Shared → Prop} (X : K.In s.heap) (I : PySem.W.InstAt s.heap x ox C od) (hs : PySem.W.findIn K (.ref C) "__ne__" = some (some (.builtin "object.__ne__")))
    (h : wpAny M A (call (.builtin "object.__ne__") (.ref x :: args)) (fun v => Q (some v)) E s) : wpAny M A (callSpecialIfBound? (.ref x) "__ne__" args) Q E s := by
  simp only [callSpecialIfBound?, bindSpecialIfBound?]
  refine wpAny_holding (wpAny_bind (wpAny_bind (wpAny_bind (I.type.here ((PySem.W.looks_findIn X hs).here ?_)))))
  refine wpAny_bind (wpAny_askSetting (wpAny_ite ?_))
  have fin : wpAny M A (call (.builtin "object.__ne__") ([.ref x] ++ args) >>= fun v => pure (some v)) Q E s := wpAny_bind (wpAny_mono h (fun v s' h' => wpAny_pure h') fun _ _ h' => h')
  split
  · exact wpAny_bind (wpAny_of_eq (F.cmp_object.ne.bind _) (wpAny_pure (by exact fin)))
  · exact wpAny_tryCatch (wpAny_bind (wpAny_of_eq (F.cmp_object.ne.bind _) (wpAny_pure (by exact fin))))
theorem cmp_ne {Q : Value → Shared → Prop} (hu : A.units < cLine) (hu1 : A.in1.units < cLine) (Fx : PyProof.Rows.Fr h₀ L s.heap m) (X₀ : K.In h₀) (I : PySem.W.InstAt s.heap x ox C od) {oy : Obj} {od' : Option Obj} (J : PySem.W.InstAt s.heap y oy C od')
    (hm : PySem.W.mroIn K C (.type "object") = some true) (hn : PySem.W.findIn K (.ref C) "__ne__" = some (some (.builtin "object.__ne__"))) (hs : PySem.W.findIn K (.ref C) "__eq__" = some (some (.ref f))) (hf : PySem.W.isFn K (.ref f) = true)
    (h : wpAny (model prog w) A.in1 (call (.ref f) [.ref x, .ref y]) (fun v s' => ∃ b, v = .bool b ∧ Q (.bool (!b)) s') E s) : wpAny (model prog w) A (richCompare .NotEq (.ref x) (.ref y)) Q E s := by
  have X := X₀.keeps Fx.keep
  have one : wpAny (model prog w) A (tryCompare (.ref x) "__ne__" (.ref y)) (fun r s' => ∃ v, r = some v ∧ Q v s') E s := by
    unfold tryCompare
    refine wpAny_bind (ne_ifBound X I hn (wpAny_call (codeAny_call_builtin F.cmp_object.ne.plain F.cmpEntry_ne
      (PySem.W.check_slot F.cmpKind_ne F.cmpSplit_ne (I.type.andThen (PySem.W.looks_mroIn X hm)) (F.cmpArgs_ne _ _) (ne_entry hu1 X I hs hf (wpAny_mono h (fun v s' hv => ?_) fun _ _ e => e))))))
    obtain ⟨b, rfl, hq⟩ := hv
    exact ⟨b, rfl, wpAny_pure ⟨_, rfl, hq⟩⟩
  unfold richCompare
  simp only [oneThing_ref]
  refine wpAny_holding (wpAny_bind (wpAny_cRoomFor hu ?_))
  rw [cmpInfo_NotEq]
  dsimp only
  refine wpAny_bind (I.type.here (wpAny_bind (J.type.here ?_)))
  rw [show (Value.ref C != Value.ref C) = false from by simp]
  simp only [Bool.false_eq_true, if_false]
  refine wpAny_bind (wpAny_pure ?_)
  simp only [Bool.false_eq_true, if_false]
  refine wpAny_bind (wpAny_mono one (fun r s' z => ?_) fun _ _ e => e)
  obtain ⟨v, rfl, hq⟩ := z
  exact wpAny_pure hq
end
structure NeOk (K : PySem.W.Frag) (cl : String) : Prop where
  n : PySem.W.findIn K (.ref (cn K cl)) "__ne__" = some (some (.builtin "object.__ne__"))
  m : PySem.W.mroIn K (cn K cl) (.type "object") = some true
theorem ne_mk {K : PySem.W.Frag} {x : String} {c : Addr} (nx : PySem.W.nsIn K mainGlobals (Str.ofString x) = some (some (.ref c))) (n : PySem.W.findIn K (.ref c) "__ne__" = some (some (.builtin "object.__ne__"))) (m : PySem.W.mroIn K c (.type "object") = some true) : NeOk K x := by
  refine ⟨?_, ?_⟩ <;> rw [cn_eq nx] <;> assumption
def oNeO (cl : String) (sp : DSp) : R2L := fun x y M K => match insOf M x, insOf M y with
  | some (C, _), some (C', _) => C = cl ∧ C' = cl ∧ callU (reach M 64 [x, y] []) sp exF [] [x, y] M fun l Mu => ∃ b, l = .im (.bl b) ∧ K (.im (.bl (!b))) Mu
  | _, _ => False
section
variable {C : Fc} {X : Cx} {k : Nat} {g : Addr} {fd : FuncData} {ps : List Str} {sp : DSp} {cl : String}
theorem neOL (hK : C.K = X.K) (n : NeOk X.K cl) (c : MetOk X.K cl "__eq__" g) (F : Gn C.T X.prog X.w X.K X.mg X.base k g fd ps sp) (hb : Binds X.K fd ps []) (hr : Room (k + 1) X.A) (hg : X.A.guards = some []) : OpL C (rRawC X .NotEq) (oNeO cl sp) := fun {As G H Γ M σ x y lx ly K Q} S rx ry t q => by
  intro pins σ' s u v I r1 r2
  unfold oNeO at t
  split at t
  · rename_i e1 e2
    obtain ⟨rfl, rfl, ok, hls, hsp⟩ := t
    obtain ⟨a, dx, fvs, rfl, h1, _, _⟩ := insOf_ok S rx e1
    obtain ⟨b, dy, gvs, rfl, h2, _, _⟩ := insOf_ok S ry e2
    obtain rfl : u = Value.ref a := r1
    obtain rfl : v = Value.ref b := r2
    rw [hK] at h1 h2
    obtain ⟨_, O1, _, _, _, _⟩ := ins_get I.hok h1
    obtain ⟨_, O2, _, _, _, _⟩ := ins_get I.hok h2
    obtain ⟨od, J, _⟩ := O1.look
    obtain ⟨od', J', _⟩ := O2.look
    obtain ⟨m, hF⟩ := I.fr
    have S' : Sat C As G H [] M [] := ⟨S.le, S.stp, S.own, S.fr, S.inj, S.al, S.asS, S.there, fun i l e => by simp at e, rfl, S.bg, S.ba, S.tb⟩
    show wpAny _ _ (richCompare .NotEq _ _) _ _ _
    refine cmp_ne hr.units0 (Room.in1 hr).units0 hF I.ok.mod.kin J J' n.m n.n (show PySem.W.findIn X.K _ "__eq__" = _ from c.m.at_) c.m.fn ?_
    refine wpAny_call (codeAny_mono (gn_core (ex := exF) (Γ := []) (σ := []) (Q := fun v H' => ∃ b, v = V.bl b ∧ Q (V.bl (!b)) H') F (Room.in1 hr) hg I.env0.in1 I.kIn hb hK (us := [.ref a, .ref b]) (vs := [.ref a, .ref b]) (.cons rfl (.cons rfl .nil)) S' (.cons rx (.cons ry .nil)) ok hls hsp (fun l Mu v As' G' H' g rv k => by
      obtain ⟨b, e3, k2⟩ := k
      have rv' := rv
      rw [e3] at rv'
      exact ⟨b, bl_of rv', q (.im (.bl (!b))) _ (V.bl (!b)) As' G' H' ⟨⟨g.sat.le, g.sat.stp, g.sat.own, g.sat.fr, g.sat.inj, g.sat.al, g.sat.asS, g.sat.there, fun i l e => by
        obtain ⟨w, q1, q2⟩ := S.slot i l e
        exact ⟨w, q1, q2.mono g.g g.p⟩, S.len, g.sat.bg, g.sat.ba, g.sat.tb⟩, g.g, g.p⟩ (Rp.bl _) k2⟩) fun x Mu k => k) fun r s' hq => ?_)
    cases r with
    | error er =>
      obtain ⟨_, _, _, _, _, _, _, _, _, _, _, _, _, _, _, _, _, _, _, z⟩ := hq
      exact z.elim
    | ok fl =>
      cases fl with
      | ret u =>
        obtain ⟨v, H', I3, rv, b, rfl, q3⟩ := I.after hq
        exact ⟨b, rv, _, H', I3, (show RelV (V.bl (!b)) _ from rfl), q3⟩
      | next => exact False.elim hq
      | brk => exact False.elim hq
      | cont => exact False.elim hq
  · exact t.elim
end
/-- the truth of what a call of __eq__ gave -/
def kNe (K : Lo → Led → Prop) : Lo → Led → Prop := fun l Mu => ∃ b, l = .im (.bl b) ∧ K (.im (.bl (!b))) Mu
theorem oNeO_e (cl : String) (sp : DSp) : ∀ x y M K, oNeO cl sp x y M K = (match insOf M x, insOf M y with
  | some (C, _), some (C', _) => C = cl ∧ C' = cl ∧ callU (reach M 64 [x, y] []) sp exF [] [x, y] M (kNe K)
  | _, _ => False) := fun _ _ _ _ => rfl
theorem kNe_e {K : Lo → Led → Prop} {b : Bool} {Mu : Led} : kNe K (.im (.bl b)) Mu = K (.im (.bl (!b))) Mu := propext ⟨fun ⟨_, h, k⟩ => by
  cases h
  exact k, fun k => ⟨b, rfl, k⟩⟩
end Dl
set_option Elab.async false
set_option maxRecDepth 100000
set_option maxHeartbeats 1000000
namespace Dl
open PySem PySem.Spec PyProof.Rows L2
def keyD : Key → D
  | .inl i => .int i
  | .inr x => .str x
def itemsD (ks : List (Key × D)) : List D := ks.map fun p => .tup [keyD p.1, p.2]
/-- what is walked while something holds of the ledger -/
def ItDP (C : Fc) (As1 : List Addr) (G1 : Hp) (J : It) (ds : List D) (P : Led → Prop) : Prop := ∀ (i : Nat) (As : List Addr) (G H : Hp) (Γ : Gam) (M : Led) (σ : L2.St), Sat C As G H Γ M σ → Same G1 G → P M →
  (∀ d, ds[i]? = some d → J.go i H ∧ ∀ x H', J.yld i H x H' → ∃ G', Gr C As G As G' H' Γ M σ ∧ Rp C.K G' x d) ∧ (ds.length ≤ i → J.stop i H)
abbrev RIP := Gam → Led → (List D → (Led → Prop) → Led → Prop) → Prop
def UIP (C : Fc) (t : RIP) : TI := fun σ H R => ∃ (As : List Addr) (G : Hp) (Γ : Gam) (M : Led) (K : List D → (Led → Prop) → Led → Prop), Sat C As G H Γ M σ ∧ t Γ M K ∧
  ∀ (ds : List D) (P : Led → Prop) (M' : Led) (As' : List Addr) (G' H' : Hp) (J : It), Gr C As G As' G' H' Γ M' σ → ItDP C As' G' J ds P → (∀ M, P M → ∀ m, P (M ++ [m])) → K ds P M' → R J H'
def QIP (C : Fc) (X : Cx) (tg iter : Expr) (t : RIP) : Prop := PI X tg iter (UIP C t)
def LkP (k : Nat) (od : Obj) (kvs : List (Key × V)) (ks : List (Key × D)) : Led → Prop := fun M => M[k]? = some (.dl od kvs ks)
section
variable {C : Fc} {X : Cx} {tg e : Expr} {te : RE} {apos cpos : Pos}
theorem ab_get {k : Nat} (hb : k < C.Ab.length) : ∃ a, C.Ab[k]? = some a := ⟨_, List.getElem?_eq_getElem hb⟩
def rLcL (out : Hand) (ti : RIP) (g : RG) (tt : RT) (te : RE) (vs : List Nat) : RE := fun Γ M K => ti Γ M fun ds P M1 => P M1 ∧ closed M1.length M1 ∧ LcR ds (fun d acc R R2 => g (.im d) (wipeG Γ vs) (M1 ++ [.li acc]) fun Γ2 M2 => tt Γ2 M2 fun b M3 =>
  IfP b (te Γ2 M3 fun l M4 => M4 = M1 ++ [.li acc] ∧ ImR l R) (M3 = M1 ++ [.li acc] ∧ R2)) fun acc => out acc M1 K
theorem up_lcL {out : List D → Led → (Lo → Led → Prop) → Prop} (hout : OutOk out) {is vs : List Nat} {ti : RIP} {g : RG} {tt : RT} {te : RE} (his : ∀ j ∈ is, j ∈ vs) :
    ∀ σ H Q, UE C (rLcL out ti g tt te vs) σ H Q → tLc (UIP C ti) (UG C is g) (UT C tt) (UE C te) vs σ H Q :=
  fun σ H Q ⟨As, G, Γ, M, K, S, t, q⟩ => ⟨As, G, Γ, M, _, S, t, fun ds P M1 As1 G1 H1 J g1 hJ hP ⟨hp0, hc0, hsz, rs, hl, hb, hk⟩ Dd hD => by
    have hn : As1.length = M1.length := g1.sat.al
    refine ⟨fun i m Hc => m = ds.length - i ∧ i ≤ ds.length ∧ ∃ G', Gr C As1 G1 (As1 ++ [Dd]) G' Hc Γ (M1 ++ [.li ((rs.take i).filterMap id)]) σ,
      ⟨_, rfl, Nat.zero_le _, G1, Gr.alloc (m := .li []) g1.sat hD ⟨[], rfl, .nil⟩⟩, ?_⟩
    rintro i m Hc ⟨rfl, hi, G2, g2⟩
    by_cases hlt : i < ds.length
    · have hr : rs[i]? = some rs[i] := List.getElem?_eq_getElem (by omega)
      have la : ((rs.take i).filterMap id).length ≤ i := Nat.le_trans (List.length_filterMap_le _ _) (by rw [List.length_take]; omega)
      have nx : ∀ x, rs[i] = some x → (rs.take i).filterMap id ++ [x] = (rs.take (i + 1)).filterMap id := fun x e => by
        rw [List.take_add_one, hr, List.filterMap_append, e]
        rfl
      have nn : rs[i] = none → (rs.take i).filterMap id = (rs.take (i + 1)).filterMap id := fun e => by
        rw [List.take_add_one, hr, List.filterMap_append, e]
        exact (List.append_nil _).symm
      generalize ha : (rs.take i).filterMap id = acc at la nx nn g2
      obtain ⟨hgo, hst⟩ := hJ i _ G2 Hc Γ _ σ g2.sat g2.g (hP _ hp0 _)
      refine .inr ⟨(hgo ds[i] (by simp [hlt])).1, fun H' => ∃ G', Gr C As1 G1 (As1 ++ [Dd]) G' H' Γ (M1 ++ [.li ((rs.take (i + 1)).filterMap id)]) σ, fun H' ⟨G', h3⟩ => ⟨ds.length - (i + 1), by omega, rfl, hlt, G', h3⟩, fun x H3 y => ?_⟩
      obtain ⟨G3, g3, r3⟩ := (hgo ds[i] (by simp [hlt])).2 x H3 y
      have st := hb i ds[i] _ (by simp [hlt]) hr acc (fun x => rs[i] = some x) (rs[i] = none) (by cases rs[i] <;> rfl)
      refine ⟨_, G3, wipeG Γ _, _, .im ds[i], _, g3.sat.wipe _, r3, st, fun Γ4 M4 σ4 As4 G4 H4 g4 k4 l4 t4 => ⟨?_, As4, G4, Γ4, M4, _, g4.sat, t4, fun b M5 As5 G5 H5 g5 t5 => ?_⟩⟩
      · rw [← wipe_wipe (σ := σ)]
        exact wipe_eq l4 fun j hj => k4 j fun z => hj (his j z)
      · have fin : ∀ {As6 : List Addr} {G6 H6 : Hp} {Γ6 : Gam} {σ6 : L2.St}, Gr C (As1 ++ [Dd]) G3 As6 G6 H6 Γ6 (M1 ++ [.li acc]) σ6 → As6 = As1 ++ [Dd] := fun {As6 G6 H6 Γ6 σ6} g6 => by
          have ll := g6.sat.al
          obtain ⟨tl, htl⟩ := g6.p
          have l3 : As6.length = M1.length + 1 + tl.length := by
            rw [← htl, List.length_append, List.length_append, List.length_singleton, hn]
          rw [List.length_append, List.length_singleton] at ll
          have tl0 : tl = [] := List.length_eq_zero_iff.mp (by omega)
          subst tl0
          rw [List.append_nil] at htl
          exact htl.symm
        cases b with
        | false =>
          obtain ⟨e6, iv'⟩ := t5.2 rfl
          subst e6
          have g35 := g4.trans g5
          have eA := fin g35
          subst eA
          show ∃ G', _
          rw [← nn iv']
          exact ⟨G5, Gr.back g1.sat (g2.trans (g3.trans g35))⟩
        | true =>
          show UE C te σ4 H5 _
          refine ⟨As5, G5, Γ4, M5, _, g5.sat, t5.1 rfl, fun l M6 v As6 G6 H6 g6 rv k => ?_⟩
          obtain ⟨e6, k⟩ := k
          subst e6
          cases l with
          | ow _ => exact k.elim
          | tp _ => exact k.elim
          | im x' =>
            have iv' : rs[i] = some x' := k
            have g36 := g4.trans (g5.trans g6)
            have eA := fin g36
            subst eA
            have hA : (As1 ++ [Dd])[M1.length]? = some Dd := by rw [← hn]; simp
            have eM : (M1 ++ [MO.li acc])[M1.length]? = some (.li acc) := by simp
            obtain ⟨g0, o, h0, xs, rfl, rx⟩ := g36.sat.own _ _ _ hA eM (by intro z; cases z)
            refine ⟨xs, h0, by rw [rx.length]; omega, G6, ?_⟩
            have W := g36.sat.write (o := .lst (xs ++ [v])) (m' := .li (acc ++ [x'])) hA eM (by intro z; cases z) ⟨_, rfl, rx.app (.one rv)⟩
            rw [nx x' iv', List.set_append_right _ _ (Nat.le_refl _), Nat.sub_self] at W
            exact Gr.back g1.sat (g2.trans (g3.trans ⟨W, g36.g, g36.p⟩))
    · have e : i = ds.length := by omega
      subst e
      obtain ⟨hgo, hst⟩ := hJ _ _ G2 Hc Γ _ σ g2.sat g2.g (hP _ hp0 _)
      rw [List.take_of_length_le (by omega)] at g2
      exact .inl ⟨hst (Nat.le_refl _), hout g1.sat g2 rfl hc0 hk fun l M2 v As2 G2 H2 g' rv k => q l M2 v As2 G2 H2 (g1.trans g') rv k⟩⟩
theorem q_lcL {out : List D → Led → (Lo → Led → Prop) → Prop} (hout : OutOk out) {elt iter : Expr} {pos : Pos} {ifs : List Expr} {scope : Scope} {own : List (Str × Nat)} {is : List Nat} {ti : RIP} {g : RG} {tt : RT} {te : RE} (hc : X.calm = true) (hN : X.N.Nodup) (ok : BlkOk X.N X.env.scope scope own) (his : ∀ j ∈ is, j ∈ own.map (·.2)) (hi : QIP C X tg iter ti)
    (hg : ∀ (s : Shared) (H : Hp) (Cc : Addr) (cl : List (Str × Addr)) (fp : List Addr), QG C (X.blk s H scope (compEnvC scope cl Cc X.env) fp) tg is g) (ht : ∀ (s : Shared) (H : Hp) (Cc : Addr) (cl : List (Str × Addr)) (fp : List Addr), PTs (X.blk s H scope (compEnvC scope cl Cc X.env) fp) ifs (UT C tt))
    (he : ∀ (s : Shared) (H : Hp) (Cc : Addr) (cl : List (Str × Addr)) (fp : List Addr), QE C (X.blk s H scope (compEnvC scope cl Cc X.env) fp) elt te) (hs : ∀ x, foldedSetIterable iter X.env x = pure x := by intro _; rfl) :
    QE C X (.ListComp elt [⟨tg, iter, ifs, 0⟩] scope pos) (rLcL out ti g tt te (own.map (·.2))) := PE.imp (pe_lc hc hN hi ok hg ht he hs) (up_lcL hout his)
/-- where the dict stands: in a slot; in a field of what stands in a slot -/
def pSl (i : Nat) (Γ : Gam) (_ : Led) : Option Nat := match Γ[i]? with
  | some (some (.ow k)) => some k
  | _ => none
def pFl (i : Nat) (f : Str) (Γ : Gam) (M : Led) : Option Nat := match Γ[i]? with
  | some (some (.ow j)) => match M[j]? with
    | some (.ob _ fs) => match fs.lookup f with
      | some (.ow k) => some k
      | _ => none
    | _ => none
  | _ => none
def ndL (k : Nat) (od : Obj) (kvs : List (Key × V)) (ks : List (Key × D)) (N : Nd) : Nd :=
  ⟨fun Γ' M' => M'[k]? = some (.dl od kvs ks) ∧ N.nx Γ' (M'.set k (.dc ks)), fun l M' => M'[k]? = some (.dl od kvs ks) ∧ N.rt l (M'.set k (.dc ks)), fun Γ' M' => M'[k]? = some (.dl od kvs ks) ∧ N.bk Γ' (M'.set k (.dc ks)), fun Γ' M' => M'[k]? = some (.dl od kvs ks) ∧ N.ct Γ' (M'.set k (.dc ks))⟩
end
end Dl
set_option Elab.async false
set_option maxRecDepth 100000
set_option maxHeartbeats 1000000
namespace Dl
open PySem PySem.Spec PyProof.Rows L2
/-- what stands in a dict of data -/
def dctOf (M : Led) : Lo → Option (List (Key × D))
  | .ow k => match M[k]? with
    | some (.dc ks) => some ks
    | _ => none
  | .im (.dct ks) => some ks
  | _ => none
def keyOf : Lo → Option Key
  | .im (.int i) => some (.inl i)
  | .im (.str x) => some (.inr x)
  | _ => none
end Dl
set_option Elab.async false
set_option maxRecDepth 100000
set_option maxHeartbeats 1000000
namespace Dl
open PySem L2
theorem rLcL_e (out : Hand) (ti : RIP) (g : RG) (tt : RT) (te : RE) (vs : List Nat) : ∀ Γ M K, rLcL out ti g tt te vs Γ M K = ti Γ M fun ds P M1 => P M1 ∧ closed M1.length M1 ∧ @LcQ D ds (fun d acc R R2 => g (.im d) (wipeG Γ vs) (M1 ++ [.li acc]) fun Γ2 M2 => tt Γ2 M2 fun b M3 =>
  IfE b (te Γ2 M3 fun l M4 => M4 = M1 ++ [.li acc] ∧ ImR l R) (M3 = M1 ++ [.li acc] ∧ R2)) ⟨fun acc => out acc M1 K⟩ := fun _ _ _ => rfl
theorem lkP_e {k : Nat} {od : Obj} {kvs : List (Key × V)} {ks : List (Key × D)} {M : Led} : LkP k od kvs ks M = (M[k]? = some (.dl od kvs ks)) := rfl
theorem ndL_nx {k : Nat} {od : Obj} {kvs : List (Key × V)} {ks : List (Key × D)} {N : Nd} {Γ : Gam} {M : Led} : (ndL k od kvs ks N).nx Γ M = (M[k]? = some (.dl od kvs ks) ∧ N.nx Γ (M.set k (.dc ks))) := rfl
theorem ndL_rt {k : Nat} {od : Obj} {kvs : List (Key × V)} {ks : List (Key × D)} {N : Nd} {l : Lo} {M : Led} : (ndL k od kvs ks N).rt l M = (M[k]? = some (.dl od kvs ks) ∧ N.rt l (M.set k (.dc ks))) := rfl
theorem ndL_bk {k : Nat} {od : Obj} {kvs : List (Key × V)} {ks : List (Key × D)} {N : Nd} {Γ : Gam} {M : Led} : (ndL k od kvs ks N).bk Γ M = (M[k]? = some (.dl od kvs ks) ∧ N.bk Γ (M.set k (.dc ks))) := rfl
theorem ndL_ct {k : Nat} {od : Obj} {kvs : List (Key × V)} {ks : List (Key × D)} {N : Nd} {Γ : Gam} {M : Led} : (ndL k od kvs ks N).ct Γ M = (M[k]? = some (.dl od kvs ks) ∧ N.ct Γ (M.set k (.dc ks))) := rfl
theorem dct_o {M : Led} {k : Nat} : dctOf M (.ow k) = (match M[k]? with
    | some (.dc ks) => some ks
    | _ => none) := rfl
theorem dct_i {M : Led} {ks : List (Key × D)} : dctOf M (.im (.dct ks)) = some ks := rfl
theorem key_i {i : Int} : keyOf (.im (.int i)) = some (.inl i) := rfl
theorem key_s {x : Str} : keyOf (.im (.str x)) = some (.inr x) := rfl
theorem pSl_e {i : Nat} {Γ : Gam} {M : Led} : pSl i Γ M = (match Γ[i]? with
  | some (some (.ow k)) => some k
  | _ => none) := rfl
theorem pFl_e {i : Nat} {f : Str} {Γ : Gam} {M : Led} : pFl i f Γ M = (match Γ[i]? with
  | some (some (.ow j)) => match M[j]? with
    | some (.ob _ fs) => match fs.lookup f with
      | some (.ow k) => some k
      | _ => none
    | _ => none
  | _ => none) := rfl
theorem lcq_itm {ks : List (Key × D)} (body : D → List D → (D → Prop) → Prop → Prop) (k : List D → Prop) : @LcQ D (itemsD ks) body ⟨k⟩ = @LcQ (Key × D) ks (fun p => body (.tup [keyD p.1, p.2])) ⟨k⟩ := lcq_map (fun p : Key × D => D.tup [keyD p.1, p.2]) ks body k
theorem rgV_rp2 {K : PySem.W.Frag} {G : Hp} (a b : Int) : RpL K G (rgV a b) (rangeD a (b - a).toNat) := by
  unfold rgV rangeD
  generalize (b - a).toNat = m
  have go : ∀ l : List Nat, RpL K G (l.map fun i : Nat => V.int (a + (i : Nat))) (l.map fun i : Nat => D.int (a + (i : Nat))) := fun l => by
    induction l with
    | nil => exact .nil
    | cons h r ih => exact .cons (.int _) ih
  exact go _
def rgLim (a b : Int) : Prop := -16777216 ≤ a ∧ a ≤ 16777216 ∧ -16777216 ≤ b ∧ b ≤ 16777216 ∧ b - a ≤ 16777216
theorem rgLim.ok {a b : Int} (h : rgLim a b) : RgOk a b := by
  obtain ⟨h1, h2, h3, h4, h5⟩ := h
  exact ⟨by omega, by omega, by omega, by omega, by omega⟩
def rTupRg (ta : RE) : RE := fun Γ M K => ta Γ M fun x M1 => match x with
  | .im (.int n) => rgLim 0 n ∧ K (.im (.tup (rangeD 0 n.toNat))) M1
  | _ => False
def rTupRg2 (ta tb : RE) : RE := fun Γ M K => ta Γ M fun x M1 => tb Γ M1 fun y M2 => match x, y with
  | .im (.int i), .im (.int j) => rgLim i j ∧ K (.im (.tup (rangeD i (j - i).toNat))) M2
  | _, _ => False
section
variable {C : Fc} {X : Cx} {p pos p2 pos2 : Pos} {a b : Expr} {ta tb : RE}
theorem q_tupRg (hc : X.calm = true) (hm : X.mg "tuple" = none) (hmr : X.mg "range" = none) (ha : QE C X a ta) (hg : Gl X "tuple" := by rfl) (hgr : Gl X "range" := by rfl)
    (n1 : starEach [a] X.env = (false, eval a X.env) :: starEach [] X.env := by rfl) (n2 : starEach [.Call (.Name "range" p) [a] [] pos] X.env = (false, eval (.Call (.Name "range" p) [a] [] pos) X.env) :: starEach [] X.env := by rfl) :
    QE C X (.Call (.Name "tuple" p2) [.Call (.Name "range" p) [a] [] pos] [] pos2) (rTupRg ta) :=
  PE.imp (pe_tupRg hc hg hm (prg_1 hgr hmr ha n1) n2) fun σ H Q ⟨As, G, Γ, M, K, S, t, q⟩ => ⟨As, G, Γ, M, _, S, t, fun l M1 v As1 G1 H1 g1 rv t1 => by
    split at t1
    · rename_i n
      exact ⟨n, int_of rv, t1.1.ok, fun q0 hq => q (.im (.tup _)) _ _ _ _ _ (g1.trans (Gr.frz g1.sat hq)) (rp_new_t g1.sat hq (rgV_rp n)) t1.2⟩
    · exact t1.elim⟩
theorem q_tupRg2 (hc : X.calm = true) (hm : X.mg "tuple" = none) (hmr : X.mg "range" = none) (ha : QE C X a ta) (hb : QE C X b tb) (hg : Gl X "tuple" := by rfl) (hgr : Gl X "range" := by rfl)
    (n1 : starEach [a, b] X.env = (false, eval a X.env) :: starEach [b] X.env := by rfl) (n3 : starEach [b] X.env = (false, eval b X.env) :: starEach [] X.env := by rfl) (hp : (backTo pos (starEach [b] X.env)).any (·.1) = false := by rfl)
    (n2 : starEach [.Call (.Name "range" p) [a, b] [] pos] X.env = (false, eval (.Call (.Name "range" p) [a, b] [] pos) X.env) :: starEach [] X.env := by rfl) :
    QE C X (.Call (.Name "tuple" p2) [.Call (.Name "range" p) [a, b] [] pos] [] pos2) (rTupRg2 ta tb) :=
  PE.imp (pe_tupRg hc hg hm (prg_2 hgr hmr ha hb n1 n3 hp) n2) fun σ H Q ⟨As, G, Γ, M, K, S, t, q⟩ => ⟨As, G, Γ, M, _, S, t, fun l M1 v As1 G1 H1 g1 rv t1 => ⟨As1, G1, Γ, M1, _, g1.sat, t1, fun y M2 u As2 G2 H2 g2 ru t2 => by
    split at t2
    · rename_i i j
      exact ⟨i, j, int_of rv, int_of ru, t2.1.ok, fun q0 hq => q (.im (.tup _)) _ _ _ _ _ (g1.trans (g2.trans (Gr.frz g2.sat hq))) (rp_new_t g2.sat hq (rgV_rp2 i j)) t2.2⟩
    · exact t2.elim⟩⟩
end
theorem rTupRg_e (ta : RE) : ∀ Γ M K, rTupRg ta Γ M K = (ta Γ M fun x M1 => match x with
  | .im (.int n) => rgLim 0 n ∧ K (.im (.tup (rangeD 0 n.toNat))) M1
  | _ => False) := fun _ _ _ => rfl
theorem rTupRg2_e (ta tb : RE) : ∀ Γ M K, rTupRg2 ta tb Γ M K = (ta Γ M fun x M1 => tb Γ M1 fun y M2 => match x, y with
  | .im (.int i), .im (.int j) => rgLim i j ∧ K (.im (.tup (rangeD i (j - i).toNat))) M2
  | _, _ => False) := fun _ _ _ => rfl
section
variable {K : PySem.W.Frag} {mg : Str → Option Value} {m n x : String} {c cm : Addr} {r : Bool}
theorem ins_mk (C : Cls K (cn K x)) (nx : PySem.W.nsIn K mainGlobals (Str.ofString x) = some (some (.ref c))) (ha : PySem.W.findIn K (.ref c) "__class__" = some (some (.builtin "object.__class__"))) (hn : PySem.W.specialIn K (.builtin "object.__class__") "__get__" = some (some (.builtin "getset_descriptor.__get__")))
    (ht : PySem.W.takesIn K (.builtin "object.__class__") = some true) (hm : PySem.W.mroIn K c (.type "object") = some true) : InsC K (cn K x) := by
  refine ⟨C, ?_, hn, ht, ?_⟩ <;> rw [cn_eq nx] <;> assumption
theorem tb_oo (nm : PySem.W.nsIn K mainGlobals (Str.ofString m) = some (some (.ref cm))) (nn : PySem.W.nsIn K mainGlobals (Str.ofString n) = some (some (.ref c))) (I : InsC K (cn K m)) (hd : PySem.W.hasDictIn K c = true) (t : PySem.W.typeIn K (.ref c) = some (.type "type")) (s0 : PySem.W.subIn K (.ref cm) (.ref cm) = some true) (s : PySem.W.subIn K (.ref cm) (.ref c) = some r) :
    PySem.W.kitOne K (Tn.val K (.o m)) (Tn.val K (.o n)) = some r ∧ MOk K (.o m) := by
  have e := cn_eq nm
  have e2 := cn_eq nn
  subst e e2
  exact ⟨kit_own (cls_some hd) t s0 s, I⟩
theorem tb_bo (nn : PySem.W.nsIn K mainGlobals (Str.ofString n) = some (some (.ref c))) (hd : PySem.W.hasDictIn K c = true) (t : PySem.W.typeIn K (.ref c) = some (.type "type")) (s : PySem.W.subIn K (.type m) (.ref c) = some r) :
    PySem.W.kitOne K (Tn.val K (.b m)) (Tn.val K (.o n)) = some r ∧ MOk K (.b m) := by
  have e2 := cn_eq nn
  subst e2
  exact ⟨kit_bo (cls_some hd) t s, trivial⟩
end
end Dl
set_option Elab.async false
set_option maxRecDepth 100000
set_option maxHeartbeats 1000000
namespace Dl
open PySem L2
abbrev dT (g : List Int) : D := .tup (g.map D.int)
theorem ti_f (ns : List Int) : D.flatL (ns.map D.int) = true ∧ PyData.canLayAll0 (D.pdL (ns.map D.int)) = true ∧ PyData.depthAll (D.pdL (ns.map D.int)) = 0 := by
  induction ns with
  | nil => exact ⟨rfl, rfl, rfl⟩
  | cons n r ih =>
    obtain ⟨a, b, c⟩ := ih
    refine ⟨a, b, ?_⟩
    show max 0 (PyData.depthAll (D.pdL (r.map D.int))) = 0
    rw [c]
    rfl
theorem okd_tup (ns : List Int) : okd (.tup (ns.map D.int)) = true := by
  obtain ⟨a, b, c⟩ := ti_f ns
  have e1 : (D.tup (ns.map D.int)).flat = true := a
  have e2 : (D.tup (ns.map D.int)).pd.canLay0 = true := b
  have e3 : (D.tup (ns.map D.int)).pd.depth = 0 + 1 := congrArg (· + 1) c
  unfold okd SeqAt.shaped
  rw [e1, e2, e3]
  rfl
theorem tt_f (gs : List (List Int)) : D.flatL (gs.map dT) = true ∧ PyData.canLayAll0 (D.pdL (gs.map dT)) = true ∧ PyData.depthAll (D.pdL (gs.map dT)) ≤ 1 := by
  induction gs with
  | nil => exact ⟨rfl, rfl, by decide⟩
  | cons g r ih =>
    obtain ⟨a, b, c⟩ := ih
    obtain ⟨a1, b1, c1⟩ := ti_f g
    refine ⟨?_, ?_, ?_⟩
    · show (D.flatL (g.map D.int) && D.flatL (r.map dT)) = true
      rw [a1, a]
      rfl
    · show (PyData.canLayAll0 (D.pdL (g.map D.int)) && PyData.canLayAll0 (D.pdL (r.map dT))) = true
      rw [b1, b]
      rfl
    · show max (PyData.depthAll (D.pdL (g.map D.int)) + 1) (PyData.depthAll (D.pdL (r.map dT))) ≤ 1
      rw [c1]
      omega
theorem okd_tt (gs : List (List Int)) : okd (.lst (gs.map dT)) = true := by
  obtain ⟨a, b, c⟩ := tt_f gs
  have e1 : (D.lst (gs.map dT)).flat = true := a
  have e2 : (D.lst (gs.map dT)).pd.canLay0 = true := b
  have e3 : (D.lst (gs.map dT)).pd.depth ≤ 2 := Nat.succ_le_succ c
  unfold okd SeqAt.shaped
  rw [e1, e2]
  simp only [Bool.true_and, decide_eq_true_eq]
  omega
theorem okd_tup0 : okd (.tup []) = true := okd_tup []
theorem eqv_tup (ns ms : List Int) : PyData.eqv (D.tup (ns.map D.int)).pd (D.tup (ms.map D.int)).pd = decide (ns = ms) := by
  show PyData.eqvAll (D.pdL (ns.map D.int)) (D.pdL (ms.map D.int)) = _
  rw [pdL_ints, pdL_ints]
  exact evInts ns ms
theorem eqv_tup0 (ns : List Int) : PyData.eqv (D.tup (ns.map D.int)).pd (D.tup []).pd = decide (ns = []) := eqv_tup ns []
theorem eqv_tup1 (ns : List Int) : PyData.eqv (D.tup []).pd (D.tup (ns.map D.int)).pd = decide ([] = ns) := eqv_tup [] ns
theorem eqvA_tt : ∀ gs hs : List (List Int), PyData.eqvAll (D.pdL (gs.map dT)) (D.pdL (hs.map dT)) = decide (gs = hs)
  | [], [] => rfl
  | [], _ :: _ => rfl
  | _ :: _, [] => rfl
  | g :: gs, h :: hs => by
    show (PyData.eqv (dT g).pd (dT h).pd && PyData.eqvAll (D.pdL (gs.map dT)) (D.pdL (hs.map dT))) = _
    rw [eqv_tup, eqvA_tt gs hs]
    by_cases e : g = h <;> by_cases e2 : gs = hs <;> simp [e, e2]
theorem eqv_tt (gs hs : List (List Int)) : PyData.eqv (D.lst (gs.map dT)).pd (D.lst (hs.map dT)).pd = decide (gs = hs) := eqvA_tt gs hs
theorem eqv_tt0 (gs : List (List Int)) : PyData.eqv (D.lst (gs.map dT)).pd (D.lst []).pd = decide (gs = []) := eqvA_tt gs []
theorem eqv_tt1 (gs : List (List Int)) : PyData.eqv (D.lst []).pd (D.lst (gs.map dT)).pd = decide ([] = gs) := eqvA_tt [] gs
end Dl
set_option Elab.async false
set_option maxRecDepth 100000
set_option maxHeartbeats 400000
namespace Dl
open PySem L2
local macro_rules | `(tactic| walk_at "s") => `(tactic| simp (disch := first | assumption | omega) only [ci_isint, renLs, lowG, refL, refLs, lk_l, lk_r, Nat.sub_self, Nat.add_sub_cancel_left, Nat.add_sub_cancel, eqv_im, eqv_mi, okd_im, eqv_mm, List.map_id_fun', id_eq, closed_app, closed_fl, okr_a, okd_a, okrr_a, rep_i, List.length_replicate, Int.reduceToNat, exI_l0, exI_l1, exI_l2, exI_l3, exI_l4, exI_l5, exI_l6, exI_l7, exI_e1, exI_e2, exI_e3, exI_e4, exI_e5, ↓rWkF_e, frzG_0, frzG_s, datM, cut_m, okd_ints, okd_nil, eqv_ints, eqv_ints0, eqv_ints1, eqv_nil, srtI_i, srtI_p, srtI_0, ↓lcq_i1, ↓lcq_i2, ↓lcq_i3, ↓lcq_i4, all_tt, any_ff, Int.toNat_natCast, List.length_append, Option.isSome_some, Option.isSome_none, ↓rLcG_e, ↓lcq_enum, ↓lcq_rng0, ↓lcq_rng, ↓lcq_zip, ↓lcq_map, lcq_map, lcq_flt, lcq_all, lcq_fltc, lcq_allc, imR_e, ife_t, ife_f, andE_j, orE_j, andT_j, orT_j, ifV_j, andE_t, andE_f, orE_t, orE_f, andT_t, andT_f, orT_t, orT_f, ifV_t, ifV_f, blsI_m, intsI_m, intsI_i, blsI_0, intsI_0, blsI_1, blsI_2, blsI_3, blsI_4, szd_lt, szd_le, dr_le, dr_lt, dr_leN, dr_ltN, mulc_l, mulc_r, ifc_y, ifc_no, exI_int, zipIdx_m, zip_m, dec_and, dec_or, dec_not, List.length_map, List.length_range, List.length_zipIdx, List.length_zip, and_self, closed, Bool.and_true, Bool.true_and, Bool.and_false, Bool.false_and, Bool.or_true, Bool.true_or, Bool.or_false, Bool.false_or, cond_true, cond_false, Bool.not_not, Int.zero_add, List.all_cons, List.all_nil, List.any_cons, List.any_nil, allIm_ims, List.append_nil, seqOf, k1_e, k1X_e, ow1, lo0, tyT, excOf, Option.getD_none, Option.getD_some, isI_a, isI_b, isI_c, isI_d, isI_e, isI_f, isI_g, isI_h, isI_i, List.take_succ_cons, List.take_zero, ↓reduceIte, Nat.reduceEqDiff, frG, frL, frLs, frM, ↓oReprR_e, D.flt, datM, List.getElem?_concat_length, set_concat, Nat.add_zero, ↓ifp_i, ifb_t, ifb_f, ifb_d, ifb_n, ifc_t, ifc_f, ifc_n, exI_s, kw_K, kD_im, kD_ow, kD_im2, kD_tp, kDX_e, kP_e, kF_e, renL, renM, flatM, Int.reduceLT, Int.reduceLE, Int.reduceAdd, Int.reduceSub, Int.reduceMul, Int.reduceNeg, Int.reduceEq, Int.reduceNe, ↓rFz_e, ↓rFor_e, ↓rLcB_e, outF_e, outO_e, ↓rVar_e, ↓rCon_e, ↓qOp_e, ↓qUn_e, ↓qCa_e, ↓rNil_e, ↓rCons_e, ↓rTup_e, ↓rLst_e, ↓rLstO_e, ↓rB_e, ↓rAndT_j, ↓rOrT_j, ↓rNotT_e, ↓rAndV_j, ↓rOrV_j, ↓rNotV_e, ↓rIfE_j, ↓rChain_j, ↓rNext_e, ↓rSeq_e, ↓rDrop_e, ↓rRet_e, ↓rIf_e, ↓rNever_e, ↓rName_e, ↓rGNil_e, ↓rGCons_e, ↓rGTup_e, ↓rGSub_e, ↓rAsg_e, ↓rPar_e, ↓rYes_e, ↓oEqG_e, ↓oI_e, ↓oI0_e, ↓oNeg_e, ↓oAdd_e, ↓oMul_e, ↓oIn_e, ↓oIx_e, ↓rONone_e, ↓rOSome_e, ↓rSl_e, ↓oLen_e, ↓oInt_e, ↓oMin_e, ↓oMax_e, ↓oSum_e, ↓oBls_e, ↓oList_e, ↓oTuple_e, ↓oSorted_i, ↓oStr_e, ↓oIsi_e, ↓rIList_e, ↓rITup_e, ↓rIRan1_e, ↓rIEnum_e, ↓rMe_e, ↓rMe0_e, ↓oAppend_e, ↓oExtend_e, ↓oPopAt_e, ↓rLstRg_e, ↓rStar_e, ↓rCallD_e, ↓rCallP_e, ↓rIs_e, all_map, any_map, List.getElem?_cons_zero, List.getElem?_cons_succ, List.getElem?_nil, List.set_cons_zero, List.set_cons_succ, List.length_cons, List.length_nil, allIm, id_eq, Bool.not_true, Bool.not_false, Option.map_some, Option.map_none, isi_int_int, kb_int_int, isi_int_bool, kb_int_bool, isi_int_list, kb_int_list, isi_int_tuple, kb_int_tuple, isi_int_str, kb_int_str, isi_int_dict, kb_int_dict, isi_bool_int, kb_bool_int, isi_bool_bool, kb_bool_bool, isi_bool_list, kb_bool_list, isi_bool_tuple, kb_bool_tuple, isi_bool_str, kb_bool_str, isi_bool_dict, kb_bool_dict, isi_list_int, kb_list_int, isi_list_bool, kb_list_bool, isi_list_list, kb_list_list, isi_list_tuple, kb_list_tuple, isi_list_str, kb_list_str, isi_list_dict, kb_list_dict, isi_tuple_int, kb_tuple_int, isi_tuple_bool, kb_tuple_bool, isi_tuple_list, kb_tuple_list, isi_tuple_tuple, kb_tuple_tuple, isi_tuple_str, kb_tuple_str, isi_tuple_dict, kb_tuple_dict, isi_str_int, kb_str_int, isi_str_bool, kb_str_bool, isi_str_list, kb_str_list, isi_str_tuple, kb_str_tuple, isi_str_str, kb_str_str, isi_str_dict, kb_str_dict, isi_dict_int, kb_dict_int, isi_dict_bool, kb_dict_bool, isi_dict_list, kb_dict_list, isi_dict_tuple, kb_dict_tuple, isi_dict_str, kb_dict_str, isi_dict_dict, kb_dict_dict, isi_NoneType_int, kb_NoneType_int, isi_NoneType_bool, kb_NoneType_bool, isi_NoneType_list, kb_NoneType_list, isi_NoneType_tuple, kb_NoneType_tuple, isi_NoneType_str, kb_NoneType_str, isi_NoneType_dict, kb_NoneType_dict, sl_0, st_0, sl_1, st_1, sl_2, st_2, sl_3, st_3, sl_4, st_4, sl_5, st_5, sl_6, st_6, sl_7, st_7, sl_8, st_8, sl_9, st_9, sl_10, st_10, sl_11, st_11, sl_12, st_12, sl_13, st_13, sl_14, st_14, sl_15, st_15, sl_16, st_16, isTy_l, decide_true, decide_false, unows, unow, wipeG, gam0_e, List.map_cons, List.map_nil, repl_s, List.replicate_zero, List.cons_append, List.nil_append, tyL, D.tyn, Option.some.injEq, exists_eq_left, exists_eq_left', exists_eq_right, true_and, and_true, not_true_eq_false, not_false_eq_true, reduceCtorEq, Nat.reduceAdd, Nat.reduceSub, Nat.reduceLT, false_implies, true_implies, implies_true, forall_const, eq_self_iff_true, snap, lenOf, eqk, Bool.not_eq_true, decide_eq_true_eq, decide_eq_false_iff_not, Decidable.not_not, rangeD_len])
local macro_rules | `(tactic| walk_at "u") => `(tactic| (simp only [Option.isSome_some, Option.isSome_none, jn_e, jt_e]; walk_at "s"))
local macro_rules | `(tactic| walk_at "menu") => `(tactic| (simp only [List.forall_mem_cons, List.forall_mem_nil, List.not_mem_nil, false_implies, implies_true, D.int.injEq, exists_eq_left', and_true]; omega))
local macro_rules | `(tactic| walk_at "len") => `(tactic| (simp only [List.length_cons, List.length_nil, List.length_map, List.length_append]; omega))
local macro_rules | `(tactic| walk_at "d") => `(tactic| (refine draw_ok (by assumption) (by omega) (by omega) (by omega) ?_; intro _ _ _ _ _ _; walk_at "s"))
theorem seqIx {q : Int} {n : Nat} (h0 : 0 ≤ q) (h : q < n) : seqIndex? q n = some q.toNat := by
  unfold seqIndex?
  have e : ¬ q < 0 := by omega
  have e2 : ¬ (q < 0 ∨ (n : Int) ≤ q) := by omega
  simp [e, e2]
  omega
theorem erase_perm : ∀ {rest : List D} {j : Nat} (h : j < rest.length), (rest[j] :: rest.eraseIdx j).Perm rest
  | x :: r, 0, _ => List.Perm.refl _
  | x :: r, j + 1, h => by
    show (r[j]'(by simpa using h) :: x :: r.eraseIdx j).Perm (x :: r)
    exact (List.Perm.swap _ _ _).trans (List.Perm.cons _ (erase_perm (by simpa using h)))
def sp_l_some : DSp := fun ls M Kd _ => ∃ (B : Int) (ns : List Int) (i c : Int) (pool : List D) (most : Int), ls = [.ow 0, .im (.lst pool), .im (.int most)] ∧ M = [pn ns i c] ∧ PenC B i c ∧ B < 100000000000 ∧ 0 ≤ most ∧ pool.length ≤ 100000 ∧
  ∀ (i' c' : Int) (rs rest : List D), PenC (B + pool.length + 1) i' c' → (rs ++ rest).Perm pool → rs.length ≤ most → Kd (.im (.lst rs)) [pn ns i' c']
theorem len_l_some : ∀ ls M Kd Ed, sp_l_some ls M Kd Ed → ls.length = 3 := fun ls M Kd Ed ⟨_, _, _, _, _, _, e, _⟩ => by rw [e]; rfl
def n_l_some : List Str := ["_law_pen_here", "_law_pool", "_law_most", "_law_rest", "_law_turn"]
def rd_l_some (ex : EX) : RS := (rSeq (rAsg (qCa (oList outO) (rCons (rVar 1) rNil)) (rName 3))
  (rRet (rLcB outF (rIRan1 (rCons (rCallP sp_l_draw (rCons (rVar 0) (rCons (qOp (oAdd outF) (qCa oMin (rCons (rVar 2) (rCons (qCa oLen (rCons (rVar 3) rNil)) rNil))) (rCon (.int 1))) rNil))) rNil)) (rName 4) rYes (rMe "list" oPopAt (rVar 3) (rCons (rCallP sp_l_draw (rCons (rVar 0) (rCons (qCa oLen (rCons (rVar 3) rNil)) rNil))) rNil)) [4])))
theorem m_l_some : MtX sp_l_some rd_l_some n_l_some := fun {ls M Kd Ed} h => by
  obtain ⟨B, ns, i, c, pool, most, rfl, rfl, hp, hB, h0, hl, k⟩ := h
  unfold rd_l_some n_l_some
  walk_at "s"
  walk_at "d"
  rename_i i1 c1 r hp1 hr0 hr
  refine ⟨fun j acc M' => ∃ i c rest, M' = [pn ns i c, .li rest] ∧ PenC (B + 1 + j) i c ∧ (acc ++ rest).Perm pool ∧ acc.length = j, ⟨_, _, _, rfl, hp1.up (by omega), List.Perm.refl _, rfl⟩, ?_, ?_⟩
  · rintro j d acc M' hd ⟨i2, c2, rest, rfl, hp2, hpm, hln⟩
    obtain ⟨hj, rfl⟩ := rangeD_get.mp hd
    have hpl := hpm.length_eq
    rw [List.length_append] at hpl
    refine ⟨rfl, ?_⟩
    walk_at "s"
    walk_at "d"
    rename_i i3 c3 q hp3 hq0 hq
    have hq' : q.toNat < rest.length := by omega
    refine ⟨q.toNat, rest[q.toNat], seqIx hq0 hq, List.getElem?_eq_getElem hq', i3, c3, _, rfl, hp3.up (by omega), ?_, hln⟩
    rw [List.append_assoc]
    exact (List.Perm.append_left acc (erase_perm hq')).trans hpm
  · rintro acc M' ⟨i2, c2, rest, rfl, hp2, hpm, hln⟩
    refine ⟨rfl, by walk_at "s", ?_⟩
    walk_at "s"
    rw [rangeD_len] at hp2 hln
    exact back1 rfl (k i2 c2 acc rest (hp2.up (by omega)) hpm (by omega))
end Dl
set_option Elab.async false
set_option maxRecDepth 100000
set_option maxHeartbeats 1000000
namespace Dl
open PySem PySem.Spec PyProof.Rows L2
def LiP (k : Nat) (ds : List D) : Led → Prop := fun M => M[k]? = some (.li ds)
def YesP : Led → Prop := fun _ => True
def rIOwn (b : Nat) (te : RE) : RIP := fun Γ M K => te Γ M fun l M1 => match l with
  | .ow k => match M1[k]? with
    | some (.li ds) => k < b ∧ K ds (LiP k ds) M1
    | _ => False
  | .im (.lst ds) => K ds YesP M1
  | _ => False
theorem rIOwn_e (b : Nat) (te : RE) : ∀ Γ M K, rIOwn b te Γ M K = (te Γ M fun l M1 => match l with
  | .ow k => match M1[k]? with
    | some (.li ds) => k < b ∧ K ds (LiP k ds) M1
    | _ => False
  | .im (.lst ds) => K ds YesP M1
  | _ => False) := fun _ _ _ => rfl
theorem liP_e {k : Nat} {ds : List D} {M : Led} : LiP k ds M = (M[k]? = some (.li ds)) := rfl
theorem yesP_e {M : Led} : YesP M = True := rfl
section
variable {C : Fc} {X : Cx} {tg e : Expr} {te : RE}
theorem q_iown (hK : C.K = X.K) (he : QE C X e te) : QIP C X tg e (rIOwn C.Ab.length te) := PI.imp (pi_list he) fun σ H R ⟨As, G, Γ, M, K, S, t, q⟩ => ⟨As, G, Γ, M, _, S, t, fun l M1 v As1 G1 H1 g1 rv t1 => by
  split at t1
  · rename_i k
    split at t1
    · rename_i ds e
      obtain ⟨hb, t2⟩ := t1
      obtain ⟨a, ha⟩ := ab_get hb
      have h1 := pre_get g1.sat.ba ha
      obtain ⟨a', q1, rfl⟩ := rv
      rw [h1] at q1
      cases q1
      obtain ⟨_, o, h0, xs, rfl, rx⟩ := g1.sat.own k a _ h1 e (by intro z; cases z)
      refine ⟨a, rfl, ⟨_, SqL.of h0⟩, q ds (LiP k ds) M1 As1 G1 H1 _ g1 (fun i As2 G2 H2 Γ2 M2 σ2 S2 sg p => ?_) (fun M p m => ?_) t2⟩
      · have p : M2[k]? = some (.li ds) := p
        obtain ⟨_, o2, h2, ys, rfl, ry⟩ := S2.own k a _ (pre_get S2.ba ha) p (by intro z; cases z)
        refine ⟨fun d hd => ?_, fun hi => ⟨_, SqL.of h2, by rw [ry.length]; exact hi⟩⟩
        obtain ⟨w, hw, rw'⟩ := ry.get hd
        refine ⟨⟨_, w, SqL.of h2, hw⟩, fun y H' hy => ?_⟩
        obtain ⟨rfl, hy⟩ := hy
        have := hy _ (SqL.of h2)
        rw [hw] at this
        cases this
        exact ⟨G2, Gr.refl S2, rw'⟩
      · have p : M[k]? = some _ := p
        show (M ++ [m])[k]? = _
        rw [List.getElem?_append_left (List.getElem?_eq_some_iff.mp p).1]
        exact p
    · exact t1.elim
  · rename_i ds
    cases rv with
    | lst h r =>
      refine ⟨_, rfl, ⟨_, SqL.of (g1.sat.le _ _ h)⟩, q ds YesP M1 As1 G1 H1 _ g1 (fun i As2 G2 H2 Γ2 M2 σ2 S2 sg _ => ⟨fun d hd => ?_, fun hi => ?_⟩) (fun _ _ _ => trivial) t1⟩
      · have h2 := S2.le _ _ (sg _ _ h)
        obtain ⟨w, hw, rw'⟩ := (r.mono sg).get hd
        refine ⟨⟨_, w, SqL.of h2, hw⟩, fun y H' hy => ?_⟩
        obtain ⟨rfl, hy⟩ := hy
        have := hy _ (SqL.of h2)
        rw [hw] at this
        cases this
        exact ⟨G2, Gr.refl S2, rw'⟩
      · exact ⟨_, SqL.of (S2.le _ _ (sg _ _ h)), by rw [r.length]; exact hi⟩
  · exact t1.elim⟩
/-- from here on no object of before goes -/
def rBase (t : Nat → RS) : RS := fun N Γ M => t M.length N Γ M
theorem q_base {st : Stmt} {t : Nat → RS} (h : ∀ (Ab : List Addr) (Gb : Hp), QS { C with Ab := Ab, Gb := Gb } X st (t Ab.length)) : QS C X st (rBase t) := ⟨fun pins s σ H D I ⟨As, G, Γ, M, N, S, t0, f⟩ =>
  (h As G).run pins s σ H D I ⟨As, G, Γ, M, N, Fc_in S, by
    have t1 : t M.length N Γ M := t0
    rw [← S.al] at t1
    exact t1, Fin_try S.ba S.bg f⟩⟩
theorem rBase_e (t : Nat → RS) : ∀ N Γ M, rBase t N Γ M = t M.length N Γ M := fun _ _ _ => rfl
end
end Dl
set_option Elab.async false
set_option maxRecDepth 100000
set_option maxHeartbeats 1000000
namespace Dl
open PySem PySem.Spec PyProof.Rows L2
theorem LRpL.cut {K : PySem.W.Frag} {Ab As : List Addr} {G : Hp} (p : Ab <+: As) {xs : List V} {ls : List Lo} (r : LRpS K As G xs ls) (h : refLs (· < Ab.length) ls) : LRpS K Ab G xs ls := by
  have q := LRpS.ren (Au := Ab) (f := fun k => k) (P := (· < Ab.length)) (fun k a hk e => by
    obtain ⟨t, rfl⟩ := p
    rwa [List.getElem?_append_left hk] at e) r h
  rwa [renLs_id] at q
section
variable {C : Fc} {X : Cx} {tg e : Expr} {te : RE} {pos : Pos}
def unr (g : RG) (tb : RS) (N : Nd) : List Lo → Gam → Led → Prop
  | [], Γ, M => N.nx Γ M
  | l :: r, Γ, M => g l Γ M fun Γ2 M2 => tb ⟨unr g tb N r, N.rt, N.nx, unr g tb N r⟩ Γ2 M2
end
def FrT (ls : List Lo) (Γ : Gam) (M : Led) [w : KW (RG × RS × Nd)] : Prop := unr w.K.1 w.K.2.1 w.K.2.2 ls Γ M
theorem frT_0 {g : RG} {tb : RS} {N : Nd} {Γ : Gam} {M : Led} : @FrT [] Γ M ⟨(g, tb, N)⟩ = N.nx Γ M := rfl
theorem frT_c {g : RG} {tb : RS} {N : Nd} {Γ : Gam} {M : Led} {l : Lo} {r : List Lo} : @FrT (l :: r) Γ M ⟨(g, tb, N)⟩ = (g l Γ M fun Γ2 M2 => tb ⟨fun Γ3 M3 => @FrT r Γ3 M3 ⟨(g, tb, N)⟩, N.rt, N.nx, fun Γ3 M3 => @FrT r Γ3 M3 ⟨(g, tb, N)⟩⟩ Γ2 M2) := rfl
end Dl
set_option Elab.async false
set_option maxRecDepth 100000
set_option maxHeartbeats 400000
namespace Dl
open PySem L2
local macro_rules | `(tactic| walk_at "s") => `(tactic| simp (disch := first | assumption | omega) only [ci_isint, ↓rFld_e, ↓rSetF_e, ↓rSelf_e, ↓rCallU_e, ↓rMake_e, ↓rProp_e, ↓oEqO_e, ↓oNeO_e, kNe_e, ↓rSrtSet_e, callU_e, kU_e, kUX_e, insOf, reach, kids, PickOk, pick, put, putI, loc, ren, refMs, refM, List.idxOf_cons, List.getD_cons_zero, List.getD_cons_succ, List.getD_nil, List.drop_succ_cons, List.drop_zero, List.drop_nil, List.lookup_cons, List.lookup_nil, str_beq, str_eq, putL, List.nodup_cons, List.nodup_nil, List.mem_cons, List.not_mem_nil, List.forall_mem_cons, List.forall_mem_nil, or_false, false_or, or_true, true_or, Nat.reduceBEq, beq_self_eq_true, String.reduceEq, String.reduceNe, ↓rLcL_e, lkP_e, ndL_nx, ndL_rt, ndL_bk, ndL_ct, dct_o, dct_i, key_i, key_s, pSl_e, pFl_e, ↓lcq_itm, ↓rTupRg_e, ↓rTupRg2_e, okd_tup, okd_tt, okd_tup0, eqv_tup, eqv_tup0, eqv_tup1, eqv_tt, eqv_tt0, eqv_tt1, forall_eq_or_imp, forall_eq, ↓rIOwn_e, liP_e, yesP_e, ↓rBase_e, frT_0, frT_c, Bool.false_xor, Bool.true_xor, Bool.xor_false, Bool.xor_true, renLs, lowG, refL, refLs, lk_l, lk_r, Nat.sub_self, Nat.add_sub_cancel_left, Nat.add_sub_cancel, eqv_im, eqv_mi, okd_im, eqv_mm, List.map_id_fun', id_eq, closed_app, closed_fl, okr_a, okd_a, okrr_a, rep_i, List.length_replicate, Int.reduceToNat, exI_l0, exI_l1, exI_l2, exI_l3, exI_l4, exI_l5, exI_l6, exI_l7, exI_e1, exI_e2, exI_e3, exI_e4, exI_e5, ↓rWkF_e, frzG_0, frzG_s, datM, cut_m, okd_ints, okd_nil, eqv_ints, eqv_ints0, eqv_ints1, eqv_nil, srtI_i, srtI_p, srtI_0, ↓lcq_i1, ↓lcq_i2, ↓lcq_i3, ↓lcq_i4, all_tt, any_ff, Int.toNat_natCast, List.length_append, Option.isSome_some, Option.isSome_none, ↓rLcG_e, ↓lcq_enum, ↓lcq_rng0, ↓lcq_rng, ↓lcq_zip, ↓lcq_map, lcq_map, lcq_flt, lcq_all, lcq_fltc, lcq_allc, imR_e, ife_t, ife_f, andE_j, orE_j, andT_j, orT_j, ifV_j, andE_t, andE_f, orE_t, orE_f, andT_t, andT_f, orT_t, orT_f, ifV_t, ifV_f, blsI_m, intsI_m, intsI_i, blsI_0, intsI_0, blsI_1, blsI_2, blsI_3, blsI_4, szd_lt, szd_le, dr_le, dr_lt, dr_leN, dr_ltN, mulc_l, mulc_r, ifc_y, ifc_no, exI_int, zipIdx_m, zip_m, dec_and, dec_or, dec_not, List.length_map, List.length_range, List.length_zipIdx, List.length_zip, and_self, closed, Bool.and_true, Bool.true_and, Bool.and_false, Bool.false_and, Bool.or_true, Bool.true_or, Bool.or_false, Bool.false_or, cond_true, cond_false, Bool.not_not, Int.zero_add, List.all_cons, List.all_nil, List.any_cons, List.any_nil, allIm_ims, List.append_nil, seqOf, k1_e, k1X_e, ow1, lo0, tyT, excOf, Option.getD_none, Option.getD_some, isI_a, isI_b, isI_c, isI_d, isI_e, isI_f, isI_g, isI_h, isI_i, List.take_succ_cons, List.take_zero, ↓reduceIte, Nat.reduceEqDiff, frG, frL, frLs, frM, ↓oReprR_e, D.flt, datM, List.getElem?_concat_length, set_concat, Nat.add_zero, ↓ifp_i, ifb_t, ifb_f, ifb_d, ifb_n, ifc_t, ifc_f, ifc_n, exI_s, kw_K, kD_im, kD_ow, kD_im2, kD_tp, kDX_e, kP_e, kF_e, renL, renM, flatM, Int.reduceLT, Int.reduceLE, Int.reduceAdd, Int.reduceSub, Int.reduceMul, Int.reduceNeg, Int.reduceEq, Int.reduceNe, ↓rFz_e, ↓rFor_e, ↓rLcB_e, outF_e, outO_e, ↓rVar_e, ↓rCon_e, ↓qOp_e, ↓qUn_e, ↓qCa_e, ↓rNil_e, ↓rCons_e, ↓rTup_e, ↓rLst_e, ↓rLstO_e, ↓rB_e, ↓rAndT_j, ↓rOrT_j, ↓rNotT_e, ↓rAndV_j, ↓rOrV_j, ↓rNotV_e, ↓rIfE_j, ↓rChain_j, ↓rNext_e, ↓rSeq_e, ↓rDrop_e, ↓rRet_e, ↓rIf_e, ↓rNever_e, ↓rName_e, ↓rGNil_e, ↓rGCons_e, ↓rGTup_e, ↓rGSub_e, ↓rAsg_e, ↓rPar_e, ↓rYes_e, ↓oEqG_e, ↓oI_e, ↓oI0_e, ↓oNeg_e, ↓oAdd_e, ↓oMul_e, ↓oIn_e, ↓oIx_e, ↓rONone_e, ↓rOSome_e, ↓rSl_e, ↓oLen_e, ↓oInt_e, ↓oMin_e, ↓oMax_e, ↓oSum_e, ↓oBls_e, ↓oList_e, ↓oTuple_e, ↓oSorted_i, ↓oStr_e, ↓oIsi_e, ↓rIList_e, ↓rITup_e, ↓rIRan1_e, ↓rIEnum_e, ↓rMe_e, ↓rMe0_e, ↓oAppend_e, ↓oExtend_e, ↓oPopAt_e, ↓rLstRg_e, ↓rStar_e, ↓rCallD_e, ↓rCallP_e, ↓rIs_e, all_map, any_map, List.getElem?_cons_zero, List.getElem?_cons_succ, List.getElem?_nil, List.set_cons_zero, List.set_cons_succ, List.length_cons, List.length_nil, allIm, id_eq, Bool.not_true, Bool.not_false, Option.map_some, Option.map_none, isi_int_int, kb_int_int, isi_int_bool, kb_int_bool, isi_int_list, kb_int_list, isi_int_tuple, kb_int_tuple, isi_int_str, kb_int_str, isi_int_dict, kb_int_dict, isi_bool_int, kb_bool_int, isi_bool_bool, kb_bool_bool, isi_bool_list, kb_bool_list, isi_bool_tuple, kb_bool_tuple, isi_bool_str, kb_bool_str, isi_bool_dict, kb_bool_dict, isi_list_int, kb_list_int, isi_list_bool, kb_list_bool, isi_list_list, kb_list_list, isi_list_tuple, kb_list_tuple, isi_list_str, kb_list_str, isi_list_dict, kb_list_dict, isi_tuple_int, kb_tuple_int, isi_tuple_bool, kb_tuple_bool, isi_tuple_list, kb_tuple_list, isi_tuple_tuple, kb_tuple_tuple, isi_tuple_str, kb_tuple_str, isi_tuple_dict, kb_tuple_dict, isi_str_int, kb_str_int, isi_str_bool, kb_str_bool, isi_str_list, kb_str_list, isi_str_tuple, kb_str_tuple, isi_str_str, kb_str_str, isi_str_dict, kb_str_dict, isi_dict_int, kb_dict_int, isi_dict_bool, kb_dict_bool, isi_dict_list, kb_dict_list, isi_dict_tuple, kb_dict_tuple, isi_dict_str, kb_dict_str, isi_dict_dict, kb_dict_dict, isi_NoneType_int, kb_NoneType_int, isi_NoneType_bool, kb_NoneType_bool, isi_NoneType_list, kb_NoneType_list, isi_NoneType_tuple, kb_NoneType_tuple, isi_NoneType_str, kb_NoneType_str, isi_NoneType_dict, kb_NoneType_dict, sl_0, st_0, sl_1, st_1, sl_2, st_2, sl_3, st_3, sl_4, st_4, sl_5, st_5, sl_6, st_6, sl_7, st_7, sl_8, st_8, sl_9, st_9, sl_10, st_10, sl_11, st_11, sl_12, st_12, sl_13, st_13, sl_14, st_14, sl_15, st_15, sl_16, st_16, isTy_l, decide_true, decide_false, unows, unow, wipeG, gam0_e, List.map_cons, List.map_nil, repl_s, List.replicate_zero, List.cons_append, List.nil_append, tyL, D.tyn, Option.some.injEq, exists_eq_left, exists_eq_left', exists_eq_right, true_and, and_true, not_true_eq_false, not_false_eq_true, reduceCtorEq, Nat.reduceAdd, Nat.reduceSub, Nat.reduceLT, false_implies, true_implies, implies_true, forall_const, eq_self_iff_true, snap, lenOf, eqk, Bool.not_eq_true, decide_eq_true_eq, decide_eq_false_iff_not, Decidable.not_not, rangeD_len])
local macro_rules | `(tactic| walk_at "u") => `(tactic| (simp only [Option.isSome_some, Option.isSome_none, jn_e, jt_e]; walk_at "s"))
local macro_rules | `(tactic| walk_at "menu") => `(tactic| (simp only [List.forall_mem_cons, List.forall_mem_nil, List.not_mem_nil, false_implies, implies_true, D.int.injEq, exists_eq_left', and_true]; omega))
local macro_rules | `(tactic| walk_at "len") => `(tactic| (simp only [List.length_cons, List.length_nil, List.length_map, List.length_append]; omega))
local macro_rules | `(tactic| walk_at "d") => `(tactic| (refine draw_ok (by assumption) (by omega) (by omega) (by omega) ?_; intro _ _ _ _ _ _; walk_at "s"))
structure GOk (n : Int) (g : List Int) : Prop where
  ne : g ≠ []
  pw : g.Pairwise (· < ·)
  rg : ∀ x ∈ g, 0 ≤ x ∧ x < n
theorem pw_len {n : Int} : ∀ {g : List Int} {lo : Int}, g.Pairwise (· < ·) → (∀ x ∈ g, lo ≤ x ∧ x < n) → lo ≤ n → (g.length : Int) ≤ n - lo
  | [], lo, _, _, h => by
    show (0 : Int) ≤ _
    omega
  | x :: r, lo, h, q, _ => by
    obtain ⟨h1, h2⟩ := List.pairwise_cons.mp h
    have hx := q x List.mem_cons_self
    have ih := pw_len (lo := x + 1) h2 (fun y hy => ⟨by have := h1 y hy; omega, (q y (List.mem_cons_of_mem _ hy)).2⟩) (by omega)
    rw [List.length_cons]
    omega
theorem GOk.len {n : Int} {g : List Int} (h : GOk n g) (h0 : 0 ≤ n) : (g.length : Int) ≤ n := by
  have := pw_len h.pw h.rg h0
  omega
structure Cv (n : Int) (gs : List (List Int)) : Prop where
  n0 : 0 ≤ n
  n1 : n ≤ 24
  ln : gs.length ≤ 16
  ok : ∀ g ∈ gs, GOk n g
def vecs (n : Int) (gs : List (List Int)) : List Int := (List.range n.toNat).map (fun k => 1 * 2 ^ k) ++ gs.map fun g => (g.map fun x => 1 * 2 ^ x.toNat).sum
abbrev cvI (n : Int) (gs : List (List Int)) : D := .ins "Cover" [("known", .int n), ("mixtures", .lst (gs.map dT)), ("vectors", .lst ((vecs n gs).map D.int))]
def sp_is_set : DSp := fun ls M Kd _ => ∃ (n : Int) (g : List Int), ls = [.im (dT g), .im (.int n)] ∧ M = [] ∧ n ≤ 24 ∧ GOk n g ∧ Kd (.im (.bl true)) []
theorem len_is_set : ∀ ls M Kd Ed, sp_is_set ls M Kd Ed → ls.length = 2 := fun ls M Kd Ed ⟨_, _, e, _⟩ => by rw [e]; rfl
def n_is_set : List Str := ["thing", "count", "number"]
def rd_is_set (ex : EX) : RS := (rSeq (rIf (rOrT (rNotT (rB (qUn (oIsi "tuple") (rVar 0)))) (rOrT (rB (qOp oEq (rVar 0) (rTup rNil))) (rNotT (rB (qCa (oBls fun bs => bs.all _root_.id) (rCons (rLcG outF (rITup (rVar 0)) (rName 2) rYes (rCallD sp_is_integer exF (rCons (rVar 2) rNil)) [2]) rNil)))))) (rRet (rCon (.bl false))) rNext)
  (rRet (rAndV (qOp oEq (qCa (oList outF) (rCons (rVar 0) rNil)) (rSrtSet outF (rVar 0))) (rAndV (qOp oGe (qOp oIx (rVar 0) (rCon (.int 0))) (rCon (.int 0))) (qOp oLt (qOp oIx (rVar 0) (qUn oNeg (rCon (.int 1)))) (rVar 1))))))
theorem m_is_set : MtX sp_is_set rd_is_set n_is_set := fun {ls M Kd Ed} h => by
  obtain ⟨n, g, rfl, rfl, hn, hg, k⟩ := h
  have hl := hg.len (by have := hg.ne; cases g with | nil => exact absurd rfl this | cons x r => have := hg.rg x List.mem_cons_self; omega)
  unfold rd_is_set n_is_set
  walk_at "s"
  refine ifc (fun z => absurd z hg.ne) fun _ => ?_
  walk_at "s"
  rw [srtU_self hg.pw, decide_eq_true rfl]
  refine andE_of (fun _ => ?_) (fun z => nomatch z)
  obtain ⟨x, r, rfl⟩ : ∃ x r, g = x :: r := by
    cases g with
    | nil => exact absurd rfl hg.ne
    | cons x r => exact ⟨x, r, rfl⟩
  have h0 := hg.rg x List.mem_cons_self
  refine exI_of (d := .int x) (by rw [atI_nat (by decide)]; rfl) ?_
  walk_at "s"
  rw [decide_eq_true h0.1]
  refine andE_of (fun _ => ?_) (fun z => nomatch z)
  obtain ⟨d, hd, e⟩ := atI_last (xs := (x :: r).map D.int) (by simp)
  obtain ⟨y, hy, rfl⟩ := List.mem_map.mp hd
  refine exI_of e ?_
  have h1 := hg.rg y hy
  walk_at "s"
  rw [decide_eq_true h1.2]
  walk_at "u"
  exact back0 k
def sp_Cover_init : DSp := fun ls M Kd _ => ∃ (n : Int) (gs : List (List Int)), ls = [.ow 0, .im (.int n), .im (.lst (gs.map dT))] ∧ M = [.ob "Cover" []] ∧ Cv n gs ∧ Kd (.im .non) [.ob "Cover" [("known", .im (.int n)), ("mixtures", .ow 1), ("vectors", .ow 2)], .li (gs.map dT), .li ((vecs n gs).map D.int)]
theorem len_Cover_init : ∀ ls M Kd Ed, sp_Cover_init ls M Kd Ed → ls.length = 3 := fun ls M Kd Ed ⟨_, _, e, _⟩ => by rw [e]; rfl
def n_Cover_init : List Str := ["self", "count", "sets", "some", "number"]
def rd_Cover_init (ex : EX) : RS := (rSeq (rIf (rOrT (rNotT (rB (rCallD sp_is_integer ex (rCons (rVar 1) rNil)))) (rNotT (rB (rChain oLe oLe (rCon (.int 0)) (rVar 1) (rCon (.int 24)))))) rNever rNext)
  (rSeq (rIf (rOrT (rNotT (rB (qUn (oIsi "list") (rVar 2)))) (rOrT (rB (qOp oGt (qCa oLen (rCons (rVar 2) rNil)) (rCon (.int 16)))) (rNotT (rB (qCa (oBls fun bs => bs.all _root_.id) (rCons (rLcG outF (rIList (rVar 2)) (rName 3) rYes (rCallD sp_is_set exF (rCons (rVar 3) (rCons (rVar 1) rNil))) [3]) rNil)))))) rNever rNext)
  (rSeq (rSetF ["Cover"] "known" (rVar 0) (rVar 1))
  (rSeq (rSetF ["Cover"] "mixtures" (rVar 0) (qCa (oList outO) (rCons (rVar 2) rNil)))
  (rSeq (rSetF ["Cover"] "vectors" (rVar 0) (rLcG outO (rIRan1 (rCons (rVar 1) rNil)) (rName 4) rYes (qOp oShl (rCon (.int 1)) (rVar 4)) [4]))
  (rDrop (rMe "list" oExtend (rFld ["Cover"] "vectors" (rVar 0)) (rCons (rLcG outF (rIList (rVar 2)) (rName 3) rYes (qCa oSum (rCons (rLcG outF (rITup (rVar 3)) (rName 4) rYes (qOp oShl (rCon (.int 1)) (rVar 4)) [4]) rNil)) [3]) rNil))))))))
theorem m_Cover_init : MtX sp_Cover_init rd_Cover_init n_Cover_init := fun {ls M Kd Ed} h => by
  obtain ⟨n, gs, rfl, rfl, cv, k⟩ := h
  obtain ⟨n0, n1, ln, ok⟩ := id cv
  unfold rd_Cover_init n_Cover_init
  walk_at "s"
  have e : ¬ (16 : Int) < (gs.length : Int) := by omega
  rw [decide_eq_false e]
  refine orT_of (fun z => nomatch z) fun _ => ?_
  refine orT_of (fun z => nomatch z) fun _ => ?_
  refine lcq_of1 (fun _ => .bl true) (by omega) (fun g hg acc R R2 q => ⟨n, g, rfl, rfl, n1, ok g hg, by walk_at "s"; exact q⟩) ?_
  walk_at "u"
  refine ⟨fun x hx => by have := List.mem_range.mp hx; exact ⟨by omega, by decide⟩, ?_⟩
  refine lcq_of1 (fun g => .int ((g.map fun x => 1 * 2 ^ x.toNat).sum)) (by omega) (fun g hg acc R R2 q => ?_) ?_
  · have hl := (ok g hg).len n0
    refine ⟨by rw [sizeLine_eq]; omega, fun x hx => ?_, q⟩
    have := (ok g hg).rg x hx
    exact ⟨this.1, by omega, by decide⟩
  · walk_at "s"
    refine ⟨[0, 1, 2], rfl, ?_, ?_, ?_⟩
    · walk_at "s"
    · walk_at "s"
    · walk_at "s"
      have e : (vecs n gs).map D.int = List.map (fun x : Nat => D.int (1 * 2 ^ x)) (List.range n.toNat) ++ List.map (fun g => D.int (List.map (fun x => 1 * 2 ^ x.toNat) g).sum) gs := by
        unfold vecs
        rw [List.map_append, List.map_map, List.map_map]
        rfl
      rw [← e]
      exact k
def ioI (a : Int) (k : Nat) : List Int := (List.range k).map fun i : Nat => a + i
theorem rangeD_io {a : Int} {k : Nat} : rangeD a k = (ioI a k).map D.int := by
  unfold rangeD ioI
  rw [List.map_map]
  rfl
theorem ioI_len {a : Int} {k : Nat} : (ioI a k).length = k := by simp [ioI]
theorem ioI_mem {a x : Int} {k : Nat} : x ∈ ioI a k ↔ a ≤ x ∧ x < a + k := by
  unfold ioI
  rw [List.mem_map]
  constructor
  · rintro ⟨i, hi, rfl⟩
    have := List.mem_range.mp hi
    omega
  · intro h
    exact ⟨(x - a).toNat, List.mem_range.mpr (by omega), by omega⟩
theorem ioI_pw {a : Int} {k : Nat} : (ioI a k).Pairwise (· < ·) := by
  unfold ioI
  rw [List.pairwise_map]
  exact List.pairwise_lt_range.imp fun h => by omega
theorem ioI_ok {a n : Int} {k : Nat} (h0 : 0 ≤ a) (hk : 0 < k) (h : a + k ≤ n) : GOk n (ioI a k) :=
  ⟨fun e => by have := congrArg List.length e; rw [ioI_len] at this; simp at this; omega, ioI_pw, fun x hx => by have := ioI_mem.mp hx; omega⟩
theorem fin_g {n bg : Int} {g : List Int} (h0 : 0 ≤ bg) (h1 : bg < n) (hg : g ≠ [] → GOk n g) : ∃ g', GOk n g' ∧ (bif decide (¬ g = []) then D.tup (g.map D.int) else D.tup [D.int bg]) = dT g' := by
  by_cases e : g = []
  · exact ⟨[bg], ⟨by simp, by simp, fun x hx => by rw [List.mem_singleton.mp hx]; exact ⟨h0, h1⟩⟩, by rw [decide_eq_false (fun z => z e)]; rfl⟩
  · exact ⟨g, hg e, by rw [decide_eq_true e]; rfl⟩
theorem ints_of : ∀ {ds : List D}, (∀ d ∈ ds, ∃ t : Int, d = .int t) → ∃ zs : List Int, ds = zs.map D.int
  | [], _ => ⟨[], rfl⟩
  | d :: r, h => by
    obtain ⟨t, rfl⟩ := h d List.mem_cons_self
    obtain ⟨zs, rfl⟩ := ints_of (ds := r) fun d hd => h d (List.mem_cons_of_mem _ hd)
    exact ⟨t :: zs, rfl⟩
theorem io_nodup {a : Int} {k : Nat} : (ioI a k).Nodup := ioI_pw.imp fun h => Int.ne_of_lt h
/-- what is drawn out of a run of ints -/
theorem some_ints {a : Int} {k : Nat} {rs rest : List D} (h : (rs ++ rest).Perm (rangeD a k)) : ∃ zs : List Int, rs = zs.map D.int ∧ zs.Nodup ∧ ∀ x ∈ zs, a ≤ x ∧ x < a + k := by
  rw [rangeD_io] at h
  obtain ⟨zs, rfl⟩ := ints_of (ds := rs) fun d hd => by
    obtain ⟨t, _, rfl⟩ := List.mem_map.mp (h.mem_iff.mp (List.mem_append_left _ hd))
    exact ⟨t, rfl⟩
  obtain ⟨ws, rfl⟩ := ints_of (ds := rest) fun d hd => by
    obtain ⟨t, _, rfl⟩ := List.mem_map.mp (h.mem_iff.mp (List.mem_append_right _ hd))
    exact ⟨t, rfl⟩
  have hn : ((ioI a k).map D.int).Nodup := List.Pairwise.map _ (fun x y (q : x ≠ y) z => q (D.int.inj z)) io_nodup
  have hn2 := (h.nodup_iff.mpr hn)
  have hz := (List.nodup_append.mp hn2).1
  refine ⟨zs, rfl, List.Pairwise.of_map D.int (fun x y q z => q (by rw [z])) hz, fun x hx => ?_⟩
  obtain ⟨t, ht, e⟩ := List.mem_map.mp (h.mem_iff.mp (List.mem_append_left _ (List.mem_map.mpr ⟨x, hx, rfl⟩)))
  cases e
  exact ioI_mem.mp ht
theorem srt_ok {n : Int} {zs : List Int} (hz : zs.Nodup) (hr : ∀ x ∈ zs, 0 ≤ x ∧ x < n) (hne : srt zs ≠ []) : GOk n (srt zs) := by
  refine ⟨hne, ?_, fun x hx => hr x ((srt_perm zs).mem_iff.mp hx)⟩
  have h1 := srt_pw zs
  have h2 : (srt zs).Nodup := (srt_perm zs).nodup_iff.mpr hz
  exact (List.pairwise_and_iff.mpr ⟨h1, h2⟩).imp fun h => by have := h.1; have := h.2; omega
def sp_l_groups : DSp := fun ls M Kd _ => ∃ (B : Int) (ns : List Int) (i c n most : Int), ls = [.ow 0, .im (.int n), .im (.int most)] ∧ M = [pn ns i c] ∧ PenC B i c ∧ B < 2000000000 ∧ 0 ≤ n ∧ n ≤ 24 ∧ 0 ≤ most ∧ most ≤ 16 ∧
  ∀ (i' c' : Int) (gs : List (List Int)), PenC (B + 500) i' c' → gs.length ≤ most → (∀ g ∈ gs, GOk n g) → Kd (.im (.lst (gs.map dT))) [pn ns i' c']
theorem len_l_groups : ∀ ls M Kd Ed, sp_l_groups ls M Kd Ed → ls.length = 3 := fun ls M Kd Ed ⟨_, _, _, _, _, _, e, _⟩ => by rw [e]; rfl
theorem ml_l_groups {ls : List Lo} {M : Led} {Kd : Lo → Led → Prop} {Ed : Exn → Led → Prop} (h : sp_l_groups ls M Kd Ed) : M.length ≤ 1 := by
  obtain ⟨_, _, _, _, _, _, _, e, _⟩ := h
  rw [e]
  exact Nat.le_refl _
def n_l_groups : List Str := ["_law_pen_here", "_law_many", "_law_most", "_law_found", "_law_turn", "_law_road", "_law_begin", "_law_group"]
def rd_l_groups (ex : EX) : RS := (rSeq (rAsg (rLstO rNil) (rName 3))
  (rSeq (rFor (rIRan1 (rCons (rIfE (rB (qOp oGt (rVar 1) (rCon (.int 0)))) (rCallP sp_l_draw (rCons (rVar 0) (rCons (qOp (oAdd outF) (rVar 2) (rCon (.int 1))) rNil))) (rCon (.int 0))) rNil)) (rName 4) (rSeq (rPar 5 6 (rCons (rCallP sp_l_draw (rCons (rVar 0) (rCons (rCon (.int 7)) rNil))) (rCons (rCallP sp_l_draw (rCons (rVar 0) (rCons (rVar 1) rNil))) rNil)))
  (rSeq (rAsg (rTupRg2 (rVar 6) (qCa oMin (rCons (rVar 1) (rCons (qOp (oAdd outF) (qOp (oAdd outF) (rVar 6) (rCon (.int 1))) (rCallP sp_l_draw (rCons (rVar 0) (rCons (rCon (.int 3)) rNil)))) rNil)))) (rName 7))
  (rSeq (rIf (rB (qOp oEq (rVar 5) (rCon (.int 0)))) (rAsg (rTupRg (rVar 1)) (rName 7)) (rIf (rAndT (rB (qOp oEq (rVar 5) (rCon (.int 1)))) (rB (qOp oNe (rVar 3) (rLst rNil)))) (rAsg (qOp oIx (rVar 3) (rCallP sp_l_draw (rCons (rVar 0) (rCons (qCa oLen (rCons (rVar 3) rNil)) rNil)))) (rName 7)) (rIf (rB (qOp oGt (rVar 5) (rCon (.int 3)))) (rAsg (qCa oTuple (rCons (qCa (oSorted outF) (rCons (rCallP sp_l_some (rCons (rVar 0) (rCons (rLstRg outF (rVar 1)) (rCons (rVar 1) rNil)))) rNil)) rNil)) (rName 7)) rNext)))
  (rDrop (rMe "list" oAppend (rVar 3) (rCons (rIfE (rB (qOp oNe (rVar 7) (rTup rNil))) (rVar 7) (rTup (rCons (rVar 6) rNil))) rNil)))))))
  (rWkF 1 (rRet (rVar 3)))))
theorem m_l_groups : MtX sp_l_groups rd_l_groups n_l_groups := fun {ls M Kd Ed} h => by
  obtain ⟨B, ns, i, c, n, most, rfl, rfl, hp, hB, n0, n1, h0, h1, k⟩ := h
  unfold rd_l_groups n_l_groups
  walk_at "s"
  refine ifV_of (fun hn => ?_) fun hn => ?_
  rotate_left
  · walk_at "u"
    refine ⟨fun j Γ' M' => Γ' = _ ∧ M' = _, ⟨rfl, rfl⟩, fun j d Γ' M' hd => absurd (rangeD_get.mp hd).1 (Nat.not_lt_zero _), ?_⟩
    rintro Γ' M' ⟨rfl, rfl⟩
    walk_at "s"
    exact back1 rfl (k i c [] (hp.up (by omega)) h0 (by simp))
  have hn := of_decide_eq_true hn
  walk_at "d"
  rename_i i1 c1 m hp1 hm0 hm
  walk_at "u"
  refine ⟨fun j Γ' M' => ∃ a b d e i c gs, Γ' = [_, _, _, _, a, b, d, e] ∧ M' = [pn ns i c, .li (gs.map dT)] ∧ PenC (B + 1 + 28 * j) i c ∧ gs.length = j ∧ ∀ g ∈ gs, GOk n g, ⟨_, _, _, _, _, _, [], rfl, rfl, hp1.up (by omega), rfl, by simp⟩, ?_, ?_⟩
  · rintro j d Γ' M' hd ⟨a, b, d, e, i2, c2, gs, rfl, rfl, hp2, hgl, hgs⟩
    obtain ⟨hj, rfl⟩ := rangeD_get.mp hd
    walk_at "s"
    walk_at "d"
    rename_i i3 c3 road hp3 hr0 hr
    walk_at "d"
    rename_i i4 c4 bg hp4 hb0 hb
    walk_at "d"
    rename_i i5 c5 w hp5 hw0 hw
    refine ⟨⟨by omega, by omega, by omega, by omega, by omega⟩, ?_⟩
    have fin : ∀ (g' : List Int), GOk n g' → ∀ g ∈ gs ++ [g'], GOk n g := fun g' h g hm => by
      rcases List.mem_append.mp hm with hm | hm
      · exact hgs g hm
      · rw [List.mem_singleton.mp hm]
        exact h
    have dflt : GOk n (ioI bg (min n (bg + 1 + w) - bg).toNat) := ioI_ok hb0 (by omega) (by omega)
    refine ifc (fun hr => ?_) fun hr => ?_
    · walk_at "s"
      rw [rangeD_io]
      walk_at "s"
      refine ⟨⟨by omega, by omega, by omega, by omega, by omega⟩, ?_⟩
      obtain ⟨g', e1, e2⟩ := fin_g (g := ioI 0 n.toNat) hb0 hb fun _ => ioI_ok (by omega) (by omega) (by omega)
      rw [e2]
      exact ⟨_, _, _, _, i5, c5, gs ++ [g'], rfl, by rw [List.map_append]; rfl, hp5.up (by omega), by rw [List.length_append, hgl]; rfl, fin g' e1⟩
    · walk_at "s"
      refine ifc (fun hr => ?_) fun hr => ?_
      · walk_at "s"
        have hl : 0 < gs.length := List.length_pos_iff.mpr hr.2
        walk_at "d"
        rename_i i6 c6 q hp6 hq0 hq
        refine exI_q (by omega) (by rw [List.length_map]; omega) fun d hd => ?_
        obtain ⟨g0, hg0, rfl⟩ := List.mem_map.mp hd
        walk_at "s"
        obtain ⟨g', e1, e2⟩ := fin_g (g := g0) hb0 hb fun _ => hgs g0 hg0
        rw [e2]
        exact ⟨_, _, _, _, i6, c6, gs ++ [g'], rfl, by rw [List.map_append]; rfl, hp6.up (by omega), by rw [List.length_append, hgl]; rfl, fin g' e1⟩
      · walk_at "s"
        refine ifc (fun hr => ?_) fun hr => ?_
        · walk_at "s"
          refine ⟨B + 1 + 28 * j + 3, ns, i5, c5, rangeD 0 n.toNat, n, rfl, rfl, hp5.up (by omega), by omega, by omega, by rw [rangeD_len]; omega, fun i6 c6 rs rest hp6 hpm hln => ?_⟩
          rw [rangeD_len] at hp6
          obtain ⟨zs, rfl, hz, hzr⟩ := some_ints hpm
          walk_at "s"
          obtain ⟨g', e1, e2⟩ := fin_g (g := srt zs) hb0 hb fun hne => srt_ok hz (fun x hx => by have := hzr x hx; omega) hne
          rw [e2]
          exact ⟨_, _, _, _, i6, c6, gs ++ [g'], rfl, by rw [List.map_append]; rfl, hp6.up (by omega), by rw [List.length_append, hgl]; rfl, fin g' e1⟩
        · walk_at "s"
          rw [rangeD_io]
          walk_at "s"
          obtain ⟨g', e1, e2⟩ := fin_g (g := ioI bg (min n (bg + 1 + w) - bg).toNat) hb0 hb fun _ => dflt
          rw [e2]
          exact ⟨_, _, _, _, i5, c5, gs ++ [g'], rfl, by rw [List.map_append]; rfl, hp5.up (by omega), by rw [List.length_append, hgl]; rfl, fin g' e1⟩
  · rintro Γ' M' ⟨a, b, d, e, i2, c2, gs, rfl, rfl, hp2, hgl, hgs⟩
    rw [rangeD_len] at hp2 hgl
    walk_at "s"
    exact back1 rfl (k i2 c2 gs (hp2.up (by omega)) (by omega) hgs)
end Dl
set_option Elab.async false
set_option maxRecDepth 100000
set_option maxHeartbeats 1000000
namespace Dl
open PySem PySem.Spec PyProof.Rows L2
def Lc2Q (ds : List D) (S : D → List D → (List D → (D → List D → (D → Prop) → Prop) → Prop) → Prop) [w : KW (List D → Prop)] : Prop :=
  ∃ (f : D → List D) (h : D → D → D), (∀ d ∈ ds, ∀ (acc : List D) (R : List D → (D → List D → (D → Prop) → Prop) → Prop), (∀ T : D → List D → (D → Prop) → Prop, (∀ e ∈ f d, ∀ (acc1 : List D) (R1 : D → Prop), R1 (h d e) → T e acc1 R1) → R (f d) T) → S d acc R) ∧
    (ds.flatMap fun d => (f d).map (h d)).length ≤ 1000000 ∧ w.K (ds.flatMap fun d => (f d).map (h d))
def rLc2 (out : List D → Led → (Lo → Led → Prop) → Prop) (ti : RI) (g : RG) (tt : RT) (ti1 : RI) (g1 : RG) (tt1 : RT) (te : RE) (vs vs1 : List Nat) : RE := fun Γ M K => ti Γ M fun ds M1 => closed M1.length M1 ∧
  @Lc2Q ds (fun d acc R => g (.im d) (wipeG Γ vs) (M1 ++ [.li acc]) fun Γ2 M2 => tt Γ2 M2 fun b M3 =>
    IfP b (ti1 Γ2 M3 fun es M4 => M4 = M1 ++ [.li acc] ∧ R es fun e acc1 R1 => g1 (.im e) (wipeG Γ2 vs1) (M1 ++ [.li acc1]) fun Γ5 M5 => tt1 Γ5 M5 fun b M6 =>
      IfP b (te Γ5 M6 fun l M7 => M7 = M1 ++ [.li acc1] ∧ ImR l R1) False) False) ⟨fun zs => out zs M1 K⟩
section
variable {C : Fc} {X : Cx} {tg tg1 e : Expr} {te : RE}
theorem up_lc2 {out : List D → Led → (Lo → Led → Prop) → Prop} (hout : OutOk out) {is is1 vs vs1 : List Nat} {ti ti1 : RI} {g g1 : RG} {tt tt1 : RT} {te : RE} (his : ∀ j ∈ is, j ∈ vs) (his1 : ∀ j ∈ is1, j ∈ vs1) :
    ∀ σ H Q, UE C (rLc2 out ti g tt ti1 g1 tt1 te vs vs1) σ H Q → tLc2 (UI C ti) (UG C is g) (UT C tt) (UI C ti1) (UG C is1 g1) (UT C tt1) (UE C te) vs vs1 σ H Q :=
  fun σ H Q ⟨As, G, Γ, M, K, S, t, q⟩ => ⟨As, G, Γ, M, _, S, t, fun ds M1 As1 G1 H1 J ge1 hJ ⟨hc0, f, h, stepS, hsz, hk0⟩ Dd hD => by
    have hn : As1.length = M1.length := ge1.sat.al
    generalize hfl : (fun d => (f d).map (h d)) = fl at hsz hk0
    have hfd : ∀ d, fl d = (f d).map (h d) := fun d => by rw [← hfl]
    have sub : ∀ i, ((ds.take i).flatMap fl).length ≤ (ds.flatMap fl).length := fun i => by
      conv => rhs; rw [← List.take_append_drop i ds, List.flatMap_append, List.length_append]
      omega
    have tk : ∀ i (hi : i < ds.length), (ds.take (i + 1)).flatMap fl = (ds.take i).flatMap fl ++ (f ds[i]).map (h ds[i]) := fun i hi => by
      rw [List.take_add_one, List.getElem?_eq_getElem hi, List.flatMap_append, ← hfd, Option.toList_some, List.flatMap_cons, List.flatMap_nil, List.append_nil]
    have hA : (As1 ++ [Dd])[M1.length]? = some Dd := by rw [← hn]; simp
    have eMx : ∀ acc : List D, (M1 ++ [MO.li acc])[M1.length]? = some (.li acc) := fun acc => by simp
    have fin : ∀ {G3 : Hp} {As6 : List Addr} {G6 H6 : Hp} {Γ6 : Gam} {σ6 : L2.St} {acc : List D}, Gr C (As1 ++ [Dd]) G3 As6 G6 H6 Γ6 (M1 ++ [.li acc]) σ6 → As6 = As1 ++ [Dd] := fun {G3 As6 G6 H6 Γ6 σ6 acc} g6 => by
      have ll := g6.sat.al
      obtain ⟨tl, htl⟩ := g6.p
      have l3 : As6.length = M1.length + 1 + tl.length := by
        rw [← htl, List.length_append, List.length_append, List.length_singleton, hn]
      rw [List.length_append, List.length_singleton] at ll
      have tl0 : tl = [] := List.length_eq_zero_iff.mp (by omega)
      subst tl0
      rw [List.append_nil] at htl
      exact htl.symm
    refine ⟨fun i m Hc => m = ds.length - i ∧ i ≤ ds.length ∧ ∃ G' acc, Gr C As1 G1 (As1 ++ [Dd]) G' Hc Γ (M1 ++ [.li acc]) σ ∧ acc = (ds.take i).flatMap fl,
      ⟨_, rfl, Nat.zero_le _, G1, [], Gr.alloc (m := .li []) ge1.sat hD ⟨[], rfl, .nil⟩, rfl⟩, ?_⟩
    rintro i m Hc ⟨rfl, hi, G2, acc, g2, iv⟩
    obtain ⟨hgo, hst⟩ := hJ i _ G2 Hc Γ _ σ g2.sat g2.g
    by_cases hlt : i < ds.length
    · refine .inr ⟨(hgo ds[i] (by simp [hlt])).1, fun H' => ∃ G' acc', Gr C As1 G1 (As1 ++ [Dd]) G' H' Γ (M1 ++ [.li acc']) σ ∧ acc' = (ds.take (i + 1)).flatMap fl, fun H' ⟨G', acc', h2, h3⟩ => ⟨ds.length - (i + 1), by omega, rfl, hlt, G', acc', h2, h3⟩, fun x H3 y => ?_⟩
      obtain ⟨G3, g3, r3⟩ := (hgo ds[i] (by simp [hlt])).2 x H3 y
      have st := stepS ds[i] (List.getElem_mem hlt) acc (fun es T => es = f ds[i] ∧ ∀ e ∈ f ds[i], ∀ (acc1 : List D) (R1 : D → Prop), R1 (h ds[i] e) → T e acc1 R1) fun T hT => ⟨rfl, hT⟩
      have lim := sub (i + 1)
      rw [tk i hlt, List.length_append, List.length_map] at lim
      refine ⟨_, G3, wipeG Γ _, _, .im ds[i], _, g3.sat.wipe _, r3, st, fun Γ4 M4 σ4 As4 G4 H4 g4 k4 l4 t4 => ⟨?_, As4, G4, Γ4, M4, _, g4.sat, t4, fun b M5 As5 G5 H5 g5 t5 => ?_⟩⟩
      · rw [← wipe_wipe (σ := σ)]
        exact wipe_eq l4 fun j hj => k4 j fun z => hj (his j z)
      · have g35 := g4.trans g5
        cases b with
        | false =>
          exact (t5.2 rfl).elim
        | true =>
          show UI C ti1 σ4 H5 _
          refine ⟨As5, G5, Γ4, M5, _, g5.sat, t5.1 rfl, fun es M6 As6 G6 H6 J1 g6 hJ1 k => ?_⟩
          obtain ⟨e6, ees, step1⟩ := k
          subst e6 ees
          have g36 := g35.trans g6
          have eA := fin g36
          subst eA
          refine ⟨fun j k H => k = (f ds[i]).length - j ∧ j ≤ (f ds[i]).length ∧ ∃ G' acc1, Gr C (As1 ++ [Dd]) G6 (As1 ++ [Dd]) G' H Γ4 (M1 ++ [.li acc1]) σ4 ∧ acc1 = acc ++ ((f ds[i]).take j).map (h ds[i]), ⟨_, rfl, Nat.zero_le _, G6, acc, Gr.refl g6.sat, by simp⟩, ?_⟩
          rintro j k Hd ⟨rfl, hj, G7, acc1, g7, jv⟩
          obtain ⟨hgo1, hst1⟩ := hJ1 j _ G7 Hd Γ4 _ σ4 g7.sat g7.g
          by_cases hlt1 : j < (f ds[i]).length
          · refine .inr ⟨(hgo1 (f ds[i])[j] (by simp [hlt1])).1, fun H' => ∃ G' acc', Gr C (As1 ++ [Dd]) G6 (As1 ++ [Dd]) G' H' Γ4 (M1 ++ [.li acc']) σ4 ∧ acc' = acc ++ ((f ds[i]).take (j + 1)).map (h ds[i]), fun H' ⟨G', acc', h2, h3⟩ => ⟨(f ds[i]).length - (j + 1), by omega, rfl, hlt1, G', acc', h2, h3⟩, fun x H8 y => ?_⟩
            obtain ⟨G8, g8, r8⟩ := (hgo1 (f ds[i])[j] (by simp [hlt1])).2 x H8 y
            have st1 := step1 (f ds[i])[j] (List.getElem_mem hlt1) acc1 (fun z => z = h ds[i] (f ds[i])[j]) rfl
            refine ⟨_, G8, wipeG Γ4 _, _,   .im (f ds[i])[j], _, g8.sat.wipe _, r8, st1, fun Γ9 M9 σ9 As9 G9 H9 g9 k9 l9 t9 => ⟨?_, As9, G9, Γ9, M9, _, g9.sat, t9, fun b M10 As10 G10 H10 g10 t10 => ?_⟩⟩
            · rw [← wipe_wipe (σ := σ4)]
              exact wipe_eq l9 fun j hj => k9 j fun z => hj (his1 j z)
            · have g90 := g9.trans g10
              cases b with
              | false =>
                exact (t10.2 rfl).elim
              | true =>
                show UE C te σ9 H10 _
                refine ⟨As10, G10, Γ9, M10, _, g10.sat, t10.1 rfl, fun l M11 v As11 G11 H11 g11 rv k => ?_⟩
                obtain ⟨e6, k⟩ := k
                subst e6
                cases l with
                | ow _ => exact k.elim
                | tp _ => exact k.elim
                | im x' =>
                  have iv' : x' = h ds[i] (f ds[i])[j] := k
                  subst iv'
                  have hz : acc1.length < sizeLine := by
                    rw [jv, iv, List.length_append, List.length_map, List.length_take, sizeLine_eq]
                    omega
                  have g91 := g90.trans g11
                  have eA := fin g91
                  subst eA
                  obtain ⟨g0, o, h0, xs, rfl, rx⟩ := g91.sat.own _ _ _ hA (eMx acc1) (by intro z; cases z)
                  refine ⟨xs, h0, by rw [rx.length]; exact hz, G11, acc1 ++ [h ds[i] (f ds[i])[j]], ?_, by rw [jv, List.take_add_one, List.getElem?_eq_getElem hlt1, Option.toList_some, List.map_append, List.map_cons, List.map_nil, List.append_assoc]⟩
                  have W := g91.sat.write (o := .lst (xs ++ [v])) (m' := .li (acc1 ++ [h ds[i] (f ds[i])[j]])) hA (eMx acc1) (by intro z; cases z) ⟨_, rfl, rx.app (.one rv)⟩
                  rw [List.set_append_right _ _ (Nat.le_refl _), Nat.sub_self] at W
                  exact Gr.back g6.sat (g7.trans (g8.trans ⟨W, g91.g, g91.p⟩))
          · have e : j = (f ds[i]).length := by omega
            subst e
            refine .inl ⟨hst1 (Nat.le_refl _), G7, acc1, ?_, by rw [jv, iv, tk i hlt, List.take_length]⟩
            exact Gr.back ge1.sat (g2.trans (g3.trans (g36.trans g7)))
    · have e : i = ds.length := by omega
      subst e
      rw [List.take_length] at iv
      subst iv
      exact .inl ⟨hst (Nat.le_refl _), hout ge1.sat g2 rfl hc0 hk0 fun l M2 v As2 G2 H2 g' rv k => q l M2 v As2 G2 H2 (ge1.trans g') rv k⟩⟩
theorem q_lc2 {out : List D → Led → (Lo → Led → Prop) → Prop} (hout : OutOk out) {elt iter iter1 : Expr} {pos : Pos} {ifs ifs1 : List Expr} {scope : Scope} {own : List (Str × Nat)} {vs1 is is1 : List Nat} {ti ti1 : RI} {g g1 : RG} {tt tt1 : RT} {te : RE} (hc : X.calm = true) (hN : X.N.Nodup) (ok : BlkOk X.N X.env.scope scope own) (his : ∀ j ∈ is, j ∈ own.map (·.2)) (his1 : ∀ j ∈ is1, j ∈ vs1) (hv : ∀ j ∈ vs1, j ∈ own.map (·.2)) (hi : QI C X tg iter ti)
    (hg : ∀ (s : Shared) (H : Hp) (Cc : Addr) (cl : List (Str × Addr)) (fp : List Addr), QG C (X.blk s H scope (compEnvC scope cl Cc X.env) fp) tg is g) (ht : ∀ (s : Shared) (H : Hp) (Cc : Addr) (cl : List (Str × Addr)) (fp : List Addr), PTs (X.blk s H scope (compEnvC scope cl Cc X.env) fp) ifs (UT C tt))
    (hi1 : ∀ (s : Shared) (H : Hp) (Cc : Addr) (cl : List (Str × Addr)) (fp : List Addr), QI C (X.blk s H scope (compEnvC scope cl Cc X.env) fp) tg1 iter1 ti1)
    (hg1 : ∀ (s : Shared) (H : Hp) (Cc : Addr) (cl : List (Str × Addr)) (fp : List Addr), QG C (X.blk s H scope (compEnvC scope cl Cc X.env) fp) tg1 is1 g1) (ht1 : ∀ (s : Shared) (H : Hp) (Cc : Addr) (cl : List (Str × Addr)) (fp : List Addr), PTs (X.blk s H scope (compEnvC scope cl Cc X.env) fp) ifs1 (UT C tt1))
    (he : ∀ (s : Shared) (H : Hp) (Cc : Addr) (cl : List (Str × Addr)) (fp : List Addr), QE C (X.blk s H scope (compEnvC scope cl Cc X.env) fp) elt te) (hs : ∀ x, foldedSetIterable iter X.env x = pure x := by intro _; rfl) (hs1 : ∀ env x, foldedSetIterable iter1 env x = pure x := by intro _ _; rfl) :
    QE C X (.ListComp elt [⟨tg, iter, ifs, 0⟩, ⟨tg1, iter1, ifs1, 0⟩] scope pos) (rLc2 out ti g tt ti1 g1 tt1 te (own.map (·.2)) vs1) := PE.imp (pe_lc2 hc hN hi ok hv hg ht hi1 hg1 ht1 he hs hs1) (up_lc2 hout his his1)
end
theorem rLc2_e (out : List D → Led → (Lo → Led → Prop) → Prop) (ti : RI) (g : RG) (tt : RT) (ti1 : RI) (g1 : RG) (tt1 : RT) (te : RE) (vs vs1 : List Nat) : ∀ Γ M K, rLc2 out ti g tt ti1 g1 tt1 te vs vs1 Γ M K = ti Γ M fun ds M1 => closed M1.length M1 ∧
  @Lc2Q ds (fun d acc R => g (.im d) (wipeG Γ vs) (M1 ++ [.li acc]) fun Γ2 M2 => tt Γ2 M2 fun b M3 =>
    IfE b (ti1 Γ2 M3 fun es M4 => M4 = M1 ++ [.li acc] ∧ R es fun e acc1 R1 => g1 (.im e) (wipeG Γ2 vs1) (M1 ++ [.li acc1]) fun Γ5 M5 => tt1 Γ5 M5 fun b M6 =>
      IfE b (te Γ5 M6 fun l M7 => M7 = M1 ++ [.li acc1] ∧ ImR l R1) False) False) ⟨fun zs => out zs M1 K⟩ := fun _ _ _ => rfl
/-- each item's row, each with its datum -/
theorem lc2_of {ds : List D} {S : D → List D → (List D → (D → List D → (D → Prop) → Prop) → Prop) → Prop} {k : List D → Prop} (f : D → List D) (h : D → D → D)
    (st : ∀ d ∈ ds, ∀ (acc : List D) (R : List D → (D → List D → (D → Prop) → Prop) → Prop), (∀ T : D → List D → (D → Prop) → Prop, (∀ e ∈ f d, ∀ (acc1 : List D) (R1 : D → Prop), R1 (h d e) → T e acc1 R1) → R (f d) T) → S d acc R)
    (hl : (ds.flatMap fun d => (f d).map (h d)).length ≤ 1000000) (hk : k (ds.flatMap fun d => (f d).map (h d))) : @Lc2Q ds S ⟨k⟩ := ⟨f, h, st, hl, hk⟩
end Dl
set_option Elab.async false
set_option maxRecDepth 100000
set_option maxHeartbeats 400000
namespace Dl
open PySem L2
local macro_rules | `(tactic| walk_at "s") => `(tactic| simp (disch := first | assumption | omega) only [ci_isint, ↓rFld_e, ↓rSetF_e, ↓rSelf_e, ↓rCallU_e, ↓rMake_e, ↓rProp_e, ↓oEqO_e, ↓oNeO_e, kNe_e, ↓rSrtSet_e, callU_e, kU_e, kUX_e, insOf, reach, kids, PickOk, pick, put, putI, loc, ren, refMs, refM, List.idxOf_cons, List.getD_cons_zero, List.getD_cons_succ, List.getD_nil, List.drop_succ_cons, List.drop_zero, List.drop_nil, List.lookup_cons, List.lookup_nil, str_beq, str_eq, putL, List.nodup_cons, List.nodup_nil, List.mem_cons, List.not_mem_nil, List.forall_mem_cons, List.forall_mem_nil, or_false, false_or, or_true, true_or, Nat.reduceBEq, beq_self_eq_true, String.reduceEq, String.reduceNe, ↓rLcL_e, lkP_e, ndL_nx, ndL_rt, ndL_bk, ndL_ct, dct_o, dct_i, key_i, key_s, pSl_e, pFl_e, ↓lcq_itm, ↓rTupRg_e, ↓rTupRg2_e, okd_tup, okd_tt, okd_tup0, eqv_tup, eqv_tup0, eqv_tup1, eqv_tt, eqv_tt0, eqv_tt1, forall_eq_or_imp, forall_eq, ↓rIOwn_e, liP_e, yesP_e, ↓rBase_e, frT_0, frT_c, Bool.false_xor, Bool.true_xor, Bool.xor_false, Bool.xor_true, ↓rLc2_e, renLs, lowG, refL, refLs, lk_l, lk_r, Nat.sub_self, Nat.add_sub_cancel_left, Nat.add_sub_cancel, eqv_im, eqv_mi, okd_im, eqv_mm, List.map_id_fun', id_eq, closed_app, closed_fl, okr_a, okd_a, okrr_a, rep_i, List.length_replicate, Int.reduceToNat, exI_l0, exI_l1, exI_l2, exI_l3, exI_l4, exI_l5, exI_l6, exI_l7, exI_e1, exI_e2, exI_e3, exI_e4, exI_e5, ↓rWkF_e, frzG_0, frzG_s, datM, cut_m, okd_ints, okd_nil, eqv_ints, eqv_ints0, eqv_ints1, eqv_nil, srtI_i, srtI_p, srtI_0, ↓lcq_i1, ↓lcq_i2, ↓lcq_i3, ↓lcq_i4, all_tt, any_ff, Int.toNat_natCast, List.length_append, Option.isSome_some, Option.isSome_none, ↓rLcG_e, ↓lcq_enum, ↓lcq_rng0, ↓lcq_rng, ↓lcq_zip, ↓lcq_map, lcq_map, lcq_flt, lcq_all, lcq_fltc, lcq_allc, imR_e, ife_t, ife_f, andE_j, orE_j, andT_j, orT_j, ifV_j, andE_t, andE_f, orE_t, orE_f, andT_t, andT_f, orT_t, orT_f, ifV_t, ifV_f, blsI_m, intsI_m, intsI_i, blsI_0, intsI_0, blsI_1, blsI_2, blsI_3, blsI_4, szd_lt, szd_le, dr_le, dr_lt, dr_leN, dr_ltN, mulc_l, mulc_r, ifc_y, ifc_no, exI_int, zipIdx_m, zip_m, dec_and, dec_or, dec_not, List.length_map, List.length_range, List.length_zipIdx, List.length_zip, and_self, closed, Bool.and_true, Bool.true_and, Bool.and_false, Bool.false_and, Bool.or_true, Bool.true_or, Bool.or_false, Bool.false_or, cond_true, cond_false, Bool.not_not, Int.zero_add, List.all_cons, List.all_nil, List.any_cons, List.any_nil, allIm_ims, List.append_nil, seqOf, k1_e, k1X_e, ow1, lo0, tyT, excOf, Option.getD_none, Option.getD_some, isI_a, isI_b, isI_c, isI_d, isI_e, isI_f, isI_g, isI_h, isI_i, List.take_succ_cons, List.take_zero, ↓reduceIte, Nat.reduceEqDiff, frG, frL, frLs, frM, ↓oReprR_e, D.flt, datM, List.getElem?_concat_length, set_concat, Nat.add_zero, ↓ifp_i, ifb_t, ifb_f, ifb_d, ifb_n, ifc_t, ifc_f, ifc_n, exI_s, kw_K, kD_im, kD_ow, kD_im2, kD_tp, kDX_e, kP_e, kF_e, renL, renM, flatM, Int.reduceLT, Int.reduceLE, Int.reduceAdd, Int.reduceSub, Int.reduceMul, Int.reduceNeg, Int.reduceEq, Int.reduceNe, ↓rFz_e, ↓rFor_e, ↓rLcB_e, outF_e, outO_e, ↓rVar_e, ↓rCon_e, ↓qOp_e, ↓qUn_e, ↓qCa_e, ↓rNil_e, ↓rCons_e, ↓rTup_e, ↓rLst_e, ↓rLstO_e, ↓rB_e, ↓rAndT_j, ↓rOrT_j, ↓rNotT_e, ↓rAndV_j, ↓rOrV_j, ↓rNotV_e, ↓rIfE_j, ↓rChain_j, ↓rNext_e, ↓rSeq_e, ↓rDrop_e, ↓rRet_e, ↓rIf_e, ↓rNever_e, ↓rName_e, ↓rGNil_e, ↓rGCons_e, ↓rGTup_e, ↓rGSub_e, ↓rAsg_e, ↓rPar_e, ↓rYes_e, ↓oEqG_e, ↓oI_e, ↓oI0_e, ↓oNeg_e, ↓oAdd_e, ↓oMul_e, ↓oIn_e, ↓oIx_e, ↓rONone_e, ↓rOSome_e, ↓rSl_e, ↓oLen_e, ↓oInt_e, ↓oMin_e, ↓oMax_e, ↓oSum_e, ↓oBls_e, ↓oList_e, ↓oTuple_e, ↓oSorted_i, ↓oStr_e, ↓oIsi_e, ↓rIList_e, ↓rITup_e, ↓rIRan1_e, ↓rIEnum_e, ↓rMe_e, ↓rMe0_e, ↓oAppend_e, ↓oExtend_e, ↓oPopAt_e, ↓rLstRg_e, ↓rStar_e, ↓rCallD_e, ↓rCallP_e, ↓rIs_e, all_map, any_map, List.getElem?_cons_zero, List.getElem?_cons_succ, List.getElem?_nil, List.set_cons_zero, List.set_cons_succ, List.length_cons, List.length_nil, allIm, id_eq, Bool.not_true, Bool.not_false, Option.map_some, Option.map_none, isi_int_int, kb_int_int, isi_int_bool, kb_int_bool, isi_int_list, kb_int_list, isi_int_tuple, kb_int_tuple, isi_int_str, kb_int_str, isi_int_dict, kb_int_dict, isi_bool_int, kb_bool_int, isi_bool_bool, kb_bool_bool, isi_bool_list, kb_bool_list, isi_bool_tuple, kb_bool_tuple, isi_bool_str, kb_bool_str, isi_bool_dict, kb_bool_dict, isi_list_int, kb_list_int, isi_list_bool, kb_list_bool, isi_list_list, kb_list_list, isi_list_tuple, kb_list_tuple, isi_list_str, kb_list_str, isi_list_dict, kb_list_dict, isi_tuple_int, kb_tuple_int, isi_tuple_bool, kb_tuple_bool, isi_tuple_list, kb_tuple_list, isi_tuple_tuple, kb_tuple_tuple, isi_tuple_str, kb_tuple_str, isi_tuple_dict, kb_tuple_dict, isi_str_int, kb_str_int, isi_str_bool, kb_str_bool, isi_str_list, kb_str_list, isi_str_tuple, kb_str_tuple, isi_str_str, kb_str_str, isi_str_dict, kb_str_dict, isi_dict_int, kb_dict_int, isi_dict_bool, kb_dict_bool, isi_dict_list, kb_dict_list, isi_dict_tuple, kb_dict_tuple, isi_dict_str, kb_dict_str, isi_dict_dict, kb_dict_dict, isi_NoneType_int, kb_NoneType_int, isi_NoneType_bool, kb_NoneType_bool, isi_NoneType_list, kb_NoneType_list, isi_NoneType_tuple, kb_NoneType_tuple, isi_NoneType_str, kb_NoneType_str, isi_NoneType_dict, kb_NoneType_dict, sl_0, st_0, sl_1, st_1, sl_2, st_2, sl_3, st_3, sl_4, st_4, sl_5, st_5, sl_6, st_6, sl_7, st_7, sl_8, st_8, sl_9, st_9, sl_10, st_10, sl_11, st_11, sl_12, st_12, sl_13, st_13, sl_14, st_14, sl_15, st_15, sl_16, st_16, isTy_l, decide_true, decide_false, unows, unow, wipeG, gam0_e, List.map_cons, List.map_nil, repl_s, List.replicate_zero, List.cons_append, List.nil_append, tyL, D.tyn, Option.some.injEq, exists_eq_left, exists_eq_left', exists_eq_right, true_and, and_true, not_true_eq_false, not_false_eq_true, reduceCtorEq, Nat.reduceAdd, Nat.reduceSub, Nat.reduceLT, false_implies, true_implies, implies_true, forall_const, eq_self_iff_true, snap, lenOf, eqk, Bool.not_eq_true, decide_eq_true_eq, decide_eq_false_iff_not, Decidable.not_not, rangeD_len])
local macro_rules | `(tactic| walk_at "u") => `(tactic| (simp only [Option.isSome_some, Option.isSome_none, jn_e, jt_e]; walk_at "s"))
local macro_rules | `(tactic| walk_at "menu") => `(tactic| (simp only [List.forall_mem_cons, List.forall_mem_nil, List.not_mem_nil, false_implies, implies_true, D.int.injEq, exists_eq_left', and_true]; omega))
local macro_rules | `(tactic| walk_at "len") => `(tactic| (simp only [List.length_cons, List.length_nil, List.length_map, List.length_append]; omega))
local macro_rules | `(tactic| walk_at "d") => `(tactic| (refine draw_ok (by assumption) (by omega) (by omega) (by omega) ?_; intro _ _ _ _ _ _; walk_at "s"))
def PkOk (w : Nat) (b : List Int) : Prop := b.length = w ∧ ∀ x ∈ b, 0 ≤ x ∧ x ≤ 255
def sp_is_byte : DSp := fun ls M Kd _ => ∃ x : Int, ls = [.im (.int x)] ∧ M = [] ∧ Kd (.im (.bl (decide (0 ≤ x ∧ x ≤ 255)))) []
theorem len_is_byte : ∀ ls M Kd Ed, sp_is_byte ls M Kd Ed → ls.length = 1 := fun ls M Kd Ed ⟨_, e, _⟩ => by rw [e]; rfl
def n_is_byte : List Str := ["thing"]
def rd_is_byte (ex : EX) : RS := (rRet (rAndV (rCallD sp_is_integer ex (rCons (rVar 0) rNil)) (rChain oLe oLe (rCon (.int 0)) (rVar 0) (rCon (.int 255)))))
theorem m_is_byte : MtX sp_is_byte rd_is_byte n_is_byte := fun {ls M Kd Ed} h => by
  obtain ⟨x, rfl, rfl, k⟩ := h
  unfold rd_is_byte n_is_byte
  walk_at "s"
  exact back0 k
def sp_is_packet : DSp := fun ls M Kd _ => ∃ (b : List Int) (w : Nat), ls = [.im (.tup (b.map D.int)), .im (.int w)] ∧ M = [] ∧ b.length ≤ 1000 ∧ PkOk w b ∧ Kd (.im (.bl true)) []
theorem len_is_packet : ∀ ls M Kd Ed, sp_is_packet ls M Kd Ed → ls.length = 2 := fun ls M Kd Ed ⟨_, _, e, _⟩ => by rw [e]; rfl
def n_is_packet : List Str := ["thing", "size", "byte"]
def rd_is_packet (ex : EX) : RS := (rRet (rAndV (qUn (oIsi "tuple") (rVar 0)) (rAndV (qOp oEq (qCa oLen (rCons (rVar 0) rNil)) (rVar 1)) (qCa (oBls fun bs => bs.all _root_.id) (rCons (rLcG outF (rITup (rVar 0)) (rName 2) rYes (rCallD sp_is_byte exF (rCons (rVar 2) rNil)) [2]) rNil)))))
theorem m_is_packet : MtX sp_is_packet rd_is_packet n_is_packet := fun {ls M Kd Ed} h => by
  obtain ⟨b, w, rfl, rfl, hl, ⟨hw, hb⟩, k⟩ := h
  unfold rd_is_packet n_is_packet
  walk_at "s"
  refine andE_of (fun _ => ?_) fun z => Bool.noConfusion z
  refine andE_of (fun _ => ?_) fun z => absurd (show ((b.length : Nat) : Int) = w by rw [hw]) (of_decide_eq_false z)
  refine lcq_of1 (fun _ => .bl true) (by omega) (fun x hx acc R R2 q => ⟨x, rfl, rfl, ?_⟩) ?_
  · rw [decide_eq_true (hb x hx)]
    walk_at "s"
    exact q
  · walk_at "u"
    exact back0 k
def sp_is_size : DSp := fun ls M Kd _ => ∃ x : Int, ls = [.im (.int x)] ∧ M = [] ∧ Kd (.im (.bl (decide (1 ≤ x ∧ x ≤ 8)))) []
theorem len_is_size : ∀ ls M Kd Ed, sp_is_size ls M Kd Ed → ls.length = 1 := fun ls M Kd Ed ⟨_, e, _⟩ => by rw [e]; rfl
def n_is_size : List Str := ["thing"]
def rd_is_size (ex : EX) : RS := (rRet (rAndV (rCallD sp_is_integer ex (rCons (rVar 0) rNil)) (rChain oLe oLe (rCon (.int 1)) (rVar 0) (rCon (.int 8)))))
theorem m_is_size : MtX sp_is_size rd_is_size n_is_size := fun {ls M Kd Ed} h => by
  obtain ⟨x, rfl, rfl, k⟩ := h
  unfold rd_is_size n_is_size
  walk_at "s"
  exact back0 k
abbrev pkD (b : List Int) : D := .tup (b.map D.int)
def sp_Cover_sets : DSp := fun ls M Kd _ => ∃ (n : Int) (gs : List (List Int)), ls = [.im (cvI n gs)] ∧ M = [] ∧ Cv n gs ∧ Kd (.im (.lst (gs.map dT))) []
theorem len_Cover_sets : ∀ ls M Kd Ed, sp_Cover_sets ls M Kd Ed → ls.length = 1 := fun ls M Kd Ed ⟨_, _, e, _⟩ => by rw [e]; rfl
def n_Cover_sets : List Str := ["self"]
def rd_Cover_sets (ex : EX) : RS := (rRet (qCa (oList outF) (rCons (rFld ["Cover", "Film"] "mixtures" (rVar 0)) rNil)))
theorem m_Cover_sets : MtX sp_Cover_sets rd_Cover_sets n_Cover_sets := fun {ls M Kd Ed} h => by
  obtain ⟨n, gs, rfl, rfl, cv, k⟩ := h
  unfold rd_Cover_sets n_Cover_sets
  walk_at "s"
  exact back0 k
end Dl
set_option Elab.async false
set_option maxRecDepth 100000
set_option maxHeartbeats 400000
namespace Dl
open PySem L2
local macro_rules | `(tactic| walk_at "s") => `(tactic| simp (disch := first | assumption | omega) only [ci_isint, ↓rFld_e, ↓rSetF_e, ↓rSelf_e, ↓rCallU_e, ↓rMake_e, ↓rProp_e, ↓oEqO_e, ↓oNeO_e, kNe_e, ↓rSrtSet_e, callU_e, kU_e, kUX_e, insOf, reach, kids, PickOk, pick, put, putI, loc, ren, refMs, refM, List.idxOf_cons, List.getD_cons_zero, List.getD_cons_succ, List.getD_nil, List.drop_succ_cons, List.drop_zero, List.drop_nil, List.lookup_cons, List.lookup_nil, str_beq, str_eq, putL, List.nodup_cons, List.nodup_nil, List.mem_cons, List.not_mem_nil, List.forall_mem_cons, List.forall_mem_nil, or_false, false_or, or_true, true_or, Nat.reduceBEq, beq_self_eq_true, String.reduceEq, String.reduceNe, ↓rLcL_e, lkP_e, ndL_nx, ndL_rt, ndL_bk, ndL_ct, dct_o, dct_i, key_i, key_s, pSl_e, pFl_e, ↓lcq_itm, ↓rTupRg_e, ↓rTupRg2_e, okd_tup, okd_tt, okd_tup0, eqv_tup, eqv_tup0, eqv_tup1, eqv_tt, eqv_tt0, eqv_tt1, forall_eq_or_imp, forall_eq, ↓rIOwn_e, liP_e, yesP_e, ↓rBase_e, frT_0, frT_c, Bool.false_xor, Bool.true_xor, Bool.xor_false, Bool.xor_true, ↓rLc2_e, renLs, lowG, refL, refLs, lk_l, lk_r, Nat.sub_self, Nat.add_sub_cancel_left, Nat.add_sub_cancel, eqv_im, eqv_mi, okd_im, eqv_mm, List.map_id_fun', id_eq, closed_app, closed_fl, okr_a, okd_a, okrr_a, rep_i, List.length_replicate, Int.reduceToNat, exI_l0, exI_l1, exI_l2, exI_l3, exI_l4, exI_l5, exI_l6, exI_l7, exI_e1, exI_e2, exI_e3, exI_e4, exI_e5, ↓rWkF_e, frzG_0, frzG_s, datM, cut_m, okd_ints, okd_nil, eqv_ints, eqv_ints0, eqv_ints1, eqv_nil, srtI_i, srtI_p, srtI_0, ↓lcq_i1, ↓lcq_i2, ↓lcq_i3, ↓lcq_i4, all_tt, any_ff, Int.toNat_natCast, List.length_append, Option.isSome_some, Option.isSome_none, ↓rLcG_e, ↓lcq_enum, ↓lcq_rng0, ↓lcq_rng, ↓lcq_zip, ↓lcq_map, lcq_map, lcq_flt, lcq_all, lcq_fltc, lcq_allc, imR_e, ife_t, ife_f, andE_j, orE_j, andT_j, orT_j, ifV_j, andE_t, andE_f, orE_t, orE_f, andT_t, andT_f, orT_t, orT_f, ifV_t, ifV_f, blsI_m, intsI_m, intsI_i, blsI_0, intsI_0, blsI_1, blsI_2, blsI_3, blsI_4, szd_lt, szd_le, dr_le, dr_lt, dr_leN, dr_ltN, mulc_l, mulc_r, ifc_y, ifc_no, exI_int, zipIdx_m, zip_m, dec_and, dec_or, dec_not, List.length_map, List.length_range, List.length_zipIdx, List.length_zip, and_self, closed, Bool.and_true, Bool.true_and, Bool.and_false, Bool.false_and, Bool.or_true, Bool.true_or, Bool.or_false, Bool.false_or, cond_true, cond_false, Bool.not_not, Int.zero_add, List.all_cons, List.all_nil, List.any_cons, List.any_nil, allIm_ims, List.append_nil, seqOf, k1_e, k1X_e, ow1, lo0, tyT, excOf, Option.getD_none, Option.getD_some, isI_a, isI_b, isI_c, isI_d, isI_e, isI_f, isI_g, isI_h, isI_i, List.take_succ_cons, List.take_zero, ↓reduceIte, Nat.reduceEqDiff, frG, frL, frLs, frM, ↓oReprR_e, D.flt, datM, List.getElem?_concat_length, set_concat, Nat.add_zero, ↓ifp_i, ifb_t, ifb_f, ifb_d, ifb_n, ifc_t, ifc_f, ifc_n, exI_s, kw_K, kD_im, kD_ow, kD_im2, kD_tp, kDX_e, kP_e, kF_e, renL, renM, flatM, Int.reduceLT, Int.reduceLE, Int.reduceAdd, Int.reduceSub, Int.reduceMul, Int.reduceNeg, Int.reduceEq, Int.reduceNe, ↓rFz_e, ↓rFor_e, ↓rLcB_e, outF_e, outO_e, ↓rVar_e, ↓rCon_e, ↓qOp_e, ↓qUn_e, ↓qCa_e, ↓rNil_e, ↓rCons_e, ↓rTup_e, ↓rLst_e, ↓rLstO_e, ↓rB_e, ↓rAndT_j, ↓rOrT_j, ↓rNotT_e, ↓rAndV_j, ↓rOrV_j, ↓rNotV_e, ↓rIfE_j, ↓rChain_j, ↓rNext_e, ↓rSeq_e, ↓rDrop_e, ↓rRet_e, ↓rIf_e, ↓rNever_e, ↓rName_e, ↓rGNil_e, ↓rGCons_e, ↓rGTup_e, ↓rGSub_e, ↓rAsg_e, ↓rPar_e, ↓rYes_e, ↓oEqG_e, ↓oI_e, ↓oI0_e, ↓oNeg_e, ↓oAdd_e, ↓oMul_e, ↓oIn_e, ↓oIx_e, ↓rONone_e, ↓rOSome_e, ↓rSl_e, ↓oLen_e, ↓oInt_e, ↓oMin_e, ↓oMax_e, ↓oSum_e, ↓oBls_e, ↓oList_e, ↓oTuple_e, ↓oSorted_i, ↓oStr_e, ↓oIsi_e, ↓rIList_e, ↓rITup_e, ↓rIRan1_e, ↓rIEnum_e, ↓rMe_e, ↓rMe0_e, ↓oAppend_e, ↓oExtend_e, ↓oPopAt_e, ↓rLstRg_e, ↓rStar_e, ↓rCallD_e, ↓rCallP_e, ↓rIs_e, all_map, any_map, List.getElem?_cons_zero, List.getElem?_cons_succ, List.getElem?_nil, List.set_cons_zero, List.set_cons_succ, List.length_cons, List.length_nil, allIm, id_eq, Bool.not_true, Bool.not_false, Option.map_some, Option.map_none, isi_int_int, kb_int_int, isi_int_bool, kb_int_bool, isi_int_list, kb_int_list, isi_int_tuple, kb_int_tuple, isi_int_str, kb_int_str, isi_int_dict, kb_int_dict, isi_bool_int, kb_bool_int, isi_bool_bool, kb_bool_bool, isi_bool_list, kb_bool_list, isi_bool_tuple, kb_bool_tuple, isi_bool_str, kb_bool_str, isi_bool_dict, kb_bool_dict, isi_list_int, kb_list_int, isi_list_bool, kb_list_bool, isi_list_list, kb_list_list, isi_list_tuple, kb_list_tuple, isi_list_str, kb_list_str, isi_list_dict, kb_list_dict, isi_tuple_int, kb_tuple_int, isi_tuple_bool, kb_tuple_bool, isi_tuple_list, kb_tuple_list, isi_tuple_tuple, kb_tuple_tuple, isi_tuple_str, kb_tuple_str, isi_tuple_dict, kb_tuple_dict, isi_str_int, kb_str_int, isi_str_bool, kb_str_bool, isi_str_list, kb_str_list, isi_str_tuple, kb_str_tuple, isi_str_str, kb_str_str, isi_str_dict, kb_str_dict, isi_dict_int, kb_dict_int, isi_dict_bool, kb_dict_bool, isi_dict_list, kb_dict_list, isi_dict_tuple, kb_dict_tuple, isi_dict_str, kb_dict_str, isi_dict_dict, kb_dict_dict, isi_NoneType_int, kb_NoneType_int, isi_NoneType_bool, kb_NoneType_bool, isi_NoneType_list, kb_NoneType_list, isi_NoneType_tuple, kb_NoneType_tuple, isi_NoneType_str, kb_NoneType_str, isi_NoneType_dict, kb_NoneType_dict, sl_0, st_0, sl_1, st_1, sl_2, st_2, sl_3, st_3, sl_4, st_4, sl_5, st_5, sl_6, st_6, sl_7, st_7, sl_8, st_8, sl_9, st_9, sl_10, st_10, sl_11, st_11, sl_12, st_12, sl_13, st_13, sl_14, st_14, sl_15, st_15, sl_16, st_16, isTy_l, decide_true, decide_false, unows, unow, wipeG, gam0_e, List.map_cons, List.map_nil, repl_s, List.replicate_zero, List.cons_append, List.nil_append, tyL, D.tyn, Option.some.injEq, exists_eq_left, exists_eq_left', exists_eq_right, true_and, and_true, not_true_eq_false, not_false_eq_true, reduceCtorEq, Nat.reduceAdd, Nat.reduceSub, Nat.reduceLT, false_implies, true_implies, implies_true, forall_const, eq_self_iff_true, snap, lenOf, eqk, Bool.not_eq_true, decide_eq_true_eq, decide_eq_false_iff_not, Decidable.not_not, rangeD_len])
local macro_rules | `(tactic| walk_at "u") => `(tactic| (simp only [Option.isSome_some, Option.isSome_none, jn_e, jt_e]; walk_at "s"))
local macro_rules | `(tactic| walk_at "menu") => `(tactic| (simp only [List.forall_mem_cons, List.forall_mem_nil, List.not_mem_nil, false_implies, implies_true, D.int.injEq, exists_eq_left', and_true]; omega))
local macro_rules | `(tactic| walk_at "len") => `(tactic| (simp only [List.length_cons, List.length_nil, List.length_map, List.length_append]; omega))
local macro_rules | `(tactic| walk_at "d") => `(tactic| (refine draw_ok (by assumption) (by omega) (by omega) (by omega) ?_; intro _ _ _ _ _ _; walk_at "s"))
abbrev Frm := List (List Int) × List Int
abbrev fmD (f : Frm) : D := .tup [.tup (f.1.map pkD), .tup (f.2.map D.int)]
structure FrmOk (w : Nat) (j : Int) (f : Frm) : Prop where
  ne : f.1 ≠ []
  ln : f.1.length ≤ 1000
  pk : ∀ p ∈ f.1, PkOk w p
  rf : f.2 = [] ∨ GOk j f.2
theorem ft_pk {w : Nat} {p : List Int} (hw : w ≤ 8) (h : PkOk w p) : Ft 1 348 (pkD p) := (ft_tup (k := 0) (m := 41) 8 (fun d hd => by
  obtain ⟨x, hx, rfl⟩ := List.mem_map.mp hd
  have := h.2 x hx
  exact ft_int (by omega)) (by rw [List.length_map, h.1]; exact hw))
theorem ft_pks {w : Nat} {ps : List (List Int)} (hw : w ≤ 8) (h : ∀ p ∈ ps, PkOk w p) (hl : ps.length ≤ 1000) : Ft 2 350004 (.tup (ps.map pkD)) := (ft_tup (k := 1) (m := 348) 1000 (fun d hd => by
  obtain ⟨p, hp, rfl⟩ := List.mem_map.mp hd
  exact ft_pk hw (h p hp)) (by rw [List.length_map]; exact hl))
def sp_is_frame : DSp := fun ls M Kd _ => ∃ (w : Nat) (j : Int) (f : Frm), ls = [.im (fmD f), .im (.int w), .im (.int j)] ∧ M = [] ∧ w ≤ 8 ∧ j ≤ 24 ∧ FrmOk w j f ∧ Kd (.im (.bl true)) []
theorem len_is_frame : ∀ ls M Kd Ed, sp_is_frame ls M Kd Ed → ls.length = 3 := fun ls M Kd Ed ⟨_, _, _, e, _⟩ => by rw [e]; rfl
def n_is_frame : List Str := ["thing", "size", "number", "packet"]
def rd_is_frame (ex : EX) : RS := (rSeq (rIf (rOrT (rNotT (rB (qUn (oIsi "tuple") (rVar 0)))) (rOrT (rB (qOp oNe (qCa oLen (rCons (rVar 0) rNil)) (rCon (.int 2)))) (rOrT (rNotT (rB (qUn (oIsi "tuple") (qOp oIx (rVar 0) (rCon (.int 0)))))) (rB (qOp oEq (qOp oIx (rVar 0) (rCon (.int 0))) (rTup rNil)))))) (rRet (rCon (.bl false))) rNext)
  (rSeq (rIf (rNotT (rB (qCa (oBls fun bs => bs.all _root_.id) (rCons (rLcG outF (rITup (qOp oIx (rVar 0) (rCon (.int 0)))) (rName 3) rYes (rCallD sp_is_packet exF (rCons (rVar 3) (rCons (rVar 1) rNil))) [3]) rNil)))) (rRet (rCon (.bl false))) rNext)
  (rRet (rOrV (rAndV (qOp oEq (qOp oIx (rVar 0) (rCon (.int 1))) (rTup rNil)) (qUn (oIsi "tuple") (qOp oIx (rVar 0) (rCon (.int 1))))) (rCallD sp_is_set ex (rCons (qOp oIx (rVar 0) (rCon (.int 1))) (rCons (rVar 2) rNil)))))))
theorem m_is_frame : MtX sp_is_frame rd_is_frame n_is_frame := fun {ls M Kd Ed} h => by
  obtain ⟨w, j, ⟨ps, rs⟩, rfl, rfl, hw, hj, fo, k⟩ := h
  have hne := fo.ne
  have hln := fo.ln
  have hok := (ft_pks hw fo.pk hln).okd
  have he : PyData.eqv (D.tup (ps.map pkD)).pd (D.tup []).pd = false := by
    cases ps with
    | nil => exact absurd rfl hne
    | cons a b => rfl
  have hr : rs.length ≤ 24 ∧ ∀ x ∈ rs, 0 ≤ x ∧ x < 24 := by
    rcases fo.rf with h | h
    · have h : rs = [] := h
      subst h
      exact ⟨by decide, by simp⟩
    · have h : GOk j rs := h
      have j0 : 0 ≤ j := by
        obtain ⟨x, hx⟩ := List.exists_mem_of_ne_nil _ h.ne
        have := h.rg x hx
        omega
      have := pw_len (lo := 0) (n := j) h.pw (fun x hx => h.rg x hx) j0
      exact ⟨by omega, fun x hx => by have := h.rg x hx; omega⟩
  have hok2 : okd (.tup (rs.map D.int)) = true := (ft_tup (k := 0) (m := 41) 24 (fun d hd => by
    obtain ⟨x, hx, rfl⟩ := List.mem_map.mp hd
    have := hr.2 x hx
    exact ft_int (by omega)) (by rw [List.length_map]; exact hr.1)).okd
  unfold rd_is_frame n_is_frame
  walk_at "s"
  rw [he, Bool.or_false, decide_eq_false (fun h => h rfl)]
  walk_at "s"
  refine lcq_of1 (fun _ => .bl true) (by have : ps.length ≤ 1000 := hln; omega) (fun p hp acc R R2 q => ?_) ?_
  · have hpk := fo.pk p hp
    refine ⟨p, w, rfl, rfl, by rw [hpk.1]; omega, hpk, ?_⟩
    walk_at "s"
    exact q
  · walk_at "s"
    refine orE_of (fun _ => ?_) fun hn => ?_
    · walk_at "u"
      exact back0 k
    · have hg : GOk j rs := fo.rf.elim (fun h => absurd h (of_decide_eq_false hn)) fun h => h
      refine ⟨j, rs, rfl, rfl, hj, hg, ?_⟩
      walk_at "u"
      exact back0 k
def flatF (fs : List Frm) : List (List Int) := fs.flatMap fun f => f.1
def ownF (fs : List Frm) : List Int := fs.zipIdx.flatMap fun f => f.1.1.map fun _ => (f.2 : Int)
structure FmOk (w : Nat) (fs : List Frm) (gs : List (List Int)) : Prop where
  w1 : 1 ≤ w
  w8 : w ≤ 8
  fr : ∀ (j : Nat) (f : Frm), fs[j]? = some f → FrmOk w j f
  cv : Cv (flatF fs).length gs
theorem flat_len : ∀ {fs : List Frm}, (∀ f ∈ fs, f.1 ≠ []) → fs.length ≤ (flatF fs).length
  | [], _ => Nat.zero_le _
  | f :: fs, h => by
    have ih := flat_len (fs := fs) fun g hg => h g (List.mem_cons_of_mem _ hg)
    have h1 := List.length_pos_iff.mpr (h f List.mem_cons_self)
    show fs.length + 1 ≤ ((f :: fs).flatMap fun f => f.1).length
    rw [List.flatMap_cons, List.length_append]
    have : (fs.flatMap fun f => f.1).length = (flatF fs).length := rfl
    omega
theorem FmOk.ne {w : Nat} {fs : List Frm} {gs : List (List Int)} (h : FmOk w fs gs) : ∀ f ∈ fs, f.1 ≠ [] := fun f hf => by
  obtain ⟨j, hj⟩ := List.mem_iff_getElem?.mp hf
  exact (h.fr j f hj).ne
theorem FmOk.ln {w : Nat} {fs : List Frm} {gs : List (List Int)} (h : FmOk w fs gs) : fs.length ≤ 24 ∧ (flatF fs).length ≤ 24 := by
  have := flat_len h.ne
  have := h.cv.n1
  omega
def frmP : D → List D
  | .tup [.tup ps, _] => ps
  | _ => []
theorem flat_eq (fs : List Frm) : ((fs.map fmD).flatMap fun d => (frmP d).map fun e => e) = (flatF fs).map pkD := by
  induction fs with
  | nil => rfl
  | cons f fs ih =>
    show (frmP (fmD f)).map (fun e => e) ++ ((fs.map fmD).flatMap fun d => (frmP d).map fun e => e) = (f.1 ++ flatF fs).map pkD
    rw [ih, List.map_append, List.map_id']
    rfl
def frmP2 : D → List D
  | .tup [_, d] => frmP d
  | _ => []
def hdD : D → D
  | .tup (x :: _) => x
  | _ => .non
theorem own_eq (fs : List Frm) : ((enumD (fs.map fmD)).flatMap fun d => (frmP2 d).map fun _ => hdD d) = (ownF fs).map D.int := by
  have go : ∀ (fs : List Frm) (k : Nat), (((fs.map fmD).zipIdx k).map fun p : D × Nat => D.tup [.int (p.2 : Nat), p.1]).flatMap (fun d => (frmP2 d).map fun _ => hdD d) = ((fs.zipIdx k).flatMap fun f => f.1.1.map fun _ => (f.2 : Int)).map D.int := fun fs => by
    induction fs with
    | nil => intro k; rfl
    | cons f fs ih =>
      intro k
      rw [List.map_cons, List.zipIdx_cons, List.zipIdx_cons, List.map_cons, List.flatMap_cons, List.flatMap_cons, ih, List.map_append]
      congr 1
      show ((f.1.map pkD).map fun _ => D.int (k : Nat)) = (f.1.map fun _ => (k : Int)).map D.int
      rw [List.map_map, List.map_map]
      rfl
  exact go fs 0
theorem own_len (fs : List Frm) : (ownF fs).length = (flatF fs).length := by
  have go : ∀ (fs : List Frm) (k : Nat), ((fs.zipIdx k).flatMap fun f => f.1.1.map fun _ => (f.2 : Int)).length = (fs.flatMap fun f => f.1).length := fun fs => by
    induction fs with
    | nil => intro k; rfl
    | cons f fs ih =>
      intro k
      rw [List.zipIdx_cons, List.flatMap_cons, List.flatMap_cons, List.length_append, List.length_append, ih, List.length_map]
  exact go fs 0
def sp_Film_init : DSp := fun ls M Kd _ => ∃ (w : Nat) (fs : List Frm) (gs : List (List Int)), ls = [.ow 0, .im (.int w), .im (.lst (fs.map fmD)), .im (.lst (gs.map dT))] ∧ M = [.ob "Film" []] ∧ FmOk w fs gs ∧
  Kd (.im .non) [.ob "Film" [("width", .im (.int w)), ("rows", .ow 1), ("flat", .ow 2), ("owners", .ow 3), ("mixtures", .ow 4)], .li (fs.map fmD), .li ((flatF fs).map pkD), .li ((ownF fs).map D.int), .ob "Cover" [("known", .im (.int (flatF fs).length)), ("mixtures", .ow 5), ("vectors", .ow 6)], .li (gs.map dT), .li ((vecs (flatF fs).length gs).map D.int)]
theorem len_Film_init : ∀ ls M Kd Ed, sp_Film_init ls M Kd Ed → ls.length = 4 := fun ls M Kd Ed ⟨_, _, _, e, _⟩ => by rw [e]; rfl
def n_Film_init : List Str := ["self", "size", "frames", "sets", "number", "frame", "packets", "references", "packet", "error"]
def rd_Film_init (ex : EX) : RS := (rSeq (rIf (rNotT (rB (rCallD sp_is_size ex (rCons (rVar 1) rNil)))) rNever rNext)
  (rSeq (rIf (rNotT (rB (qUn (oIsi "list") (rVar 2)))) rNever rNext)
  (rSeq (rIf (rNotT (rB (qCa (oBls fun bs => bs.all _root_.id) (rCons (rLcG outF (rIEnum (rCons (rVar 2) rNil)) (rGTup 2 (rGCons (rName 4) (rGCons (rName 5) rGNil))) rYes (rCallD sp_is_frame exF (rCons (rVar 5) (rCons (rVar 1) (rCons (rVar 4) rNil)))) [4, 5]) rNil)))) rNever rNext)
  (rSeq (rSetF ["Film"] "width" (rVar 0) (rVar 1))
  (rSeq (rSetF ["Film"] "rows" (rVar 0) (qCa (oList outO) (rCons (rVar 2) rNil)))
  (rSeq (rSetF ["Film"] "flat" (rVar 0) (rLc2 outO (rIList (rVar 2)) (rGTup 2 (rGCons (rName 6) (rGCons (rName 7) rGNil))) rYes (rITup (rVar 6)) (rName 8) rYes (rVar 8) [6, 7, 8] [8]))
  (rSeq (rSetF ["Film"] "owners" (rVar 0) (rLc2 outO (rIEnum (rCons (rVar 2) rNil)) (rGTup 2 (rGCons (rName 4) (rGCons (rGTup 2 (rGCons (rName 6) (rGCons (rName 7) rGNil))) rGNil))) rYes (rITup (rVar 6)) (rName 8) rYes (rVar 4) [4, 6, 7, 8] [8]))
  (rSetF ["Cover", "Film"] "mixtures" (rVar 0) (rMake "Cover" sp_Cover_init exF (rCons (qCa oLen (rCons (rFld ["Film"] "flat" (rVar 0)) rNil)) (rCons (rVar 3) rNil)))))))))))
theorem m_Film_init : MtX sp_Film_init rd_Film_init n_Film_init := fun {ls M Kd Ed} h => by
  obtain ⟨w, fs, gs, rfl, rfl, fo, k⟩ := h
  have w1 := fo.w1
  have w8 := fo.w8
  unfold rd_Film_init n_Film_init
  walk_at "s"
  refine ⟨w, rfl, rfl, ?_⟩
  rw [decide_eq_true (by omega : 1 ≤ (w : Int) ∧ (w : Int) ≤ 8)]
  walk_at "s"
  obtain ⟨l1, l2⟩ := fo.ln
  refine lcq_of1 (fun _ => .bl true) (by rw [List.length_zipIdx]; omega) (fun x hx acc R R2 q => ?_) ?_
  · have hj := List.mem_zipIdx_iff_getElem?.mp hx
    have hlt := (List.getElem?_eq_some_iff.mp hj).1
    refine ⟨w, _, x.1, rfl, rfl, w8, by omega, fo.fr _ _ hj, ?_⟩
    walk_at "s"
    exact q
  · walk_at "s"
    refine lc2_of frmP (fun _ e => e) (fun d hd acc R hR => ?_) ?_ ?_
    · obtain ⟨f, hf, rfl⟩ := List.mem_map.mp hd
      walk_at "s"
      exact hR _ fun e he acc1 R1 q => q
    · rw [flat_eq, List.length_map]
      omega
    · rw [flat_eq]
      walk_at "s"
      refine lc2_of frmP2 (fun d _ => hdD d) (fun d hd acc R hR => ?_) ?_ ?_
      · obtain ⟨p, hp, rfl⟩ := List.mem_map.mp hd
        obtain ⟨f, hf, e⟩ := List.mem_map.mp (List.mem_of_getElem? (List.mem_zipIdx_iff_getElem?.mp hp))
        rw [← e] at hR ⊢
        walk_at "s"
        exact hR _ fun e he acc1 R1 q => q
      · rw [own_eq, List.length_map]
        have hol : (ownF fs).length = (flatF fs).length := own_len fs
        omega
      · rw [own_eq]
        walk_at "s"
        refine ⟨(flatF fs).length, gs, rfl, rfl, fo.cv, ?_⟩
        walk_at "s"
        refine ⟨[0, 1, 2, 3, 4, 5, 6], rfl, ?_, ?_, ?_⟩ <;> walk_at "s"
        exact k
/-- a film, frozen; its shape in the laws -/
abbrev filmI (w : Nat) (fs : List Frm) (gs : List (List Int)) : D := .ins "Film" [("width", .int (w : Nat)), ("rows", .lst (fs.map fmD)), ("flat", .lst ((flatF fs).map pkD)), ("owners", .lst ((ownF fs).map D.int)), ("mixtures", cvI (flatF fs).length gs)]
abbrev shD (w : Nat) (fs : List Frm) (gs : List (List Int)) : D := .tup [.int (w : Nat), .lst (fs.map fmD), .lst (gs.map dT)]
def sp_l_film : DSp := fun ls M Kd _ => ∃ (w : Nat) (fs : List Frm) (gs : List (List Int)), ls = [.im (shD w fs gs)] ∧ M = [] ∧ FmOk w fs gs ∧ Kd (.im (filmI w fs gs)) []
theorem len_l_film : ∀ ls M Kd Ed, sp_l_film ls M Kd Ed → ls.length = 1 := fun ls M Kd Ed ⟨_, _, _, e, _⟩ => by rw [e]; rfl
def n_l_film : List Str := ["_law_shape_here"]
def rd_l_film (ex : EX) : RS := (rRet (rFz (rMake "Film" sp_Film_init ex (rCons (qOp oIx (rVar 0) (rCon (.int 0))) (rCons (qOp oIx (rVar 0) (rCon (.int 1))) (rCons (qOp oIx (rVar 0) (rCon (.int 2))) rNil))))))
theorem m_l_film : MtX sp_l_film rd_l_film n_l_film := fun {ls M Kd Ed} h => by
  obtain ⟨w, fs, gs, rfl, rfl, fo, k⟩ := h
  unfold rd_l_film n_l_film
  walk_at "s"
  refine ⟨w, fs, gs, rfl, rfl, fo, ?_⟩
  walk_at "s"
  refine exI_of (d := filmI w fs gs) rfl ?_
  walk_at "s"
  exact back0 k
def sp_Film_frames : DSp := fun ls M Kd _ => ∃ (w : Nat) (fs : List Frm) (gs : List (List Int)), ls = [.im (filmI w fs gs)] ∧ M = [] ∧ FmOk w fs gs ∧ Kd (.im (.lst (fs.map fmD))) []
theorem len_Film_frames : ∀ ls M Kd Ed, sp_Film_frames ls M Kd Ed → ls.length = 1 := fun ls M Kd Ed ⟨_, _, _, e, _⟩ => by rw [e]; rfl
def n_Film_frames : List Str := ["self"]
def rd_Film_frames (ex : EX) : RS := (rRet (qCa (oList outF) (rCons (rFld ["Film"] "rows" (rVar 0)) rNil)))
theorem m_Film_frames : MtX sp_Film_frames rd_Film_frames n_Film_frames := fun {ls M Kd Ed} h => by
  obtain ⟨w, fs, gs, rfl, rfl, fo, k⟩ := h
  unfold rd_Film_frames n_Film_frames
  walk_at "s"
  exact back0 k
theorem FmOk.pk {w : Nat} {fs : List Frm} {gs : List (List Int)} (h : FmOk w fs gs) : ∀ p ∈ flatF fs, PkOk w p := fun p hp => by
  obtain ⟨f, hf, hp⟩ := List.mem_flatMap.mp hp
  obtain ⟨j, hj⟩ := List.mem_iff_getElem?.mp hf
  exact (h.fr j f hj).pk p hp
end Dl
set_option Elab.async false
set_option maxRecDepth 100000
set_option maxHeartbeats 400000
namespace Dl
inductive Sp (vs : List Nat) : Nat → Prop
  | zero : Sp vs 0
  | add {x y : Nat} : x ∈ vs → Sp vs y → Sp vs (x ^^^ y)
theorem Sp.xor {vs : List Nat} {a b : Nat} (h : Sp vs a) (k : Sp vs b) : Sp vs (a ^^^ b) := by
  induction h with
  | zero => rwa [Nat.zero_xor]
  | add hx _ ih => rw [Nat.xor_assoc]; exact .add hx ih
theorem Sp.sub {vs ws : List Nat} {a : Nat} (h : ∀ x ∈ vs, Sp ws x) (k : Sp vs a) : Sp ws a := by
  induction k with
  | zero => exact .zero
  | add hx _ ih => exact (h _ hx).xor ih
theorem xor_l (a b : Nat) : a ^^^ (a ^^^ b) = b := by rw [← Nat.xor_assoc, Nat.xor_self, Nat.zero_xor]
theorem xor_lc (a b c : Nat) : a ^^^ (b ^^^ c) = b ^^^ (a ^^^ c) := by rw [← Nat.xor_assoc, ← Nat.xor_assoc, Nat.xor_comm a b]
theorem Sp.cons {vs : List Nat} {a x : Nat} (h : Sp (a :: vs) x) : Sp vs x ∨ Sp vs (a ^^^ x) := by
  induction h with
  | zero => exact .inl .zero
  | @add x y hx _ ih =>
    rcases List.mem_cons.mp hx with rfl | hx
    · rcases ih with ih | ih
      · right
        rwa [xor_l]
      · exact .inl ih
    · rcases ih with ih | ih
      · exact .inl (.add hx ih)
      · right
        rw [xor_lc]
        exact .add hx ih
end Dl
set_option Elab.async false
set_option maxRecDepth 100000
set_option maxHeartbeats 400000
namespace Dl
open PySem L2
local macro_rules | `(tactic| walk_at "s") => `(tactic| simp (disch := first | assumption | omega) only [ci_isint, ↓rFld_e, ↓rSetF_e, ↓rSelf_e, ↓rCallU_e, ↓rMake_e, ↓rProp_e, ↓oEqO_e, ↓oNeO_e, kNe_e, ↓rSrtSet_e, callU_e, kU_e, kUX_e, insOf, reach, kids, PickOk, pick, put, putI, loc, ren, refMs, refM, List.idxOf_cons, List.getD_cons_zero, List.getD_cons_succ, List.getD_nil, List.drop_succ_cons, List.drop_zero, List.drop_nil, List.lookup_cons, List.lookup_nil, str_beq, str_eq, putL, List.nodup_cons, List.nodup_nil, List.mem_cons, List.not_mem_nil, List.forall_mem_cons, List.forall_mem_nil, or_false, false_or, or_true, true_or, Nat.reduceBEq, beq_self_eq_true, String.reduceEq, String.reduceNe, ↓rLcL_e, lkP_e, ndL_nx, ndL_rt, ndL_bk, ndL_ct, dct_o, dct_i, key_i, key_s, pSl_e, pFl_e, ↓lcq_itm, ↓rTupRg_e, ↓rTupRg2_e, okd_tup, okd_tt, okd_tup0, eqv_tup, eqv_tup0, eqv_tup1, eqv_tt, eqv_tt0, eqv_tt1, forall_eq_or_imp, forall_eq, ↓rIOwn_e, liP_e, yesP_e, ↓rBase_e, frT_0, frT_c, Bool.false_xor, Bool.true_xor, Bool.xor_false, Bool.xor_true, renLs, lowG, refL, refLs, lk_l, lk_r, Nat.sub_self, Nat.add_sub_cancel_left, Nat.add_sub_cancel, eqv_im, eqv_mi, okd_im, eqv_mm, List.map_id_fun', id_eq, closed_app, closed_fl, okr_a, okd_a, okrr_a, rep_i, List.length_replicate, Int.reduceToNat, exI_l0, exI_l1, exI_l2, exI_l3, exI_l4, exI_l5, exI_l6, exI_l7, exI_e1, exI_e2, exI_e3, exI_e4, exI_e5, ↓rWkF_e, frzG_0, frzG_s, datM, cut_m, okd_ints, okd_nil, eqv_ints, eqv_ints0, eqv_ints1, eqv_nil, srtI_i, srtI_p, srtI_0, ↓lcq_i1, ↓lcq_i2, ↓lcq_i3, ↓lcq_i4, all_tt, any_ff, Int.toNat_natCast, List.length_append, Option.isSome_some, Option.isSome_none, ↓rLcG_e, ↓lcq_enum, ↓lcq_rng0, ↓lcq_rng, ↓lcq_zip, ↓lcq_map, lcq_map, lcq_flt, lcq_all, lcq_fltc, lcq_allc, imR_e, ife_t, ife_f, andE_j, orE_j, andT_j, orT_j, ifV_j, andE_t, andE_f, orE_t, orE_f, andT_t, andT_f, orT_t, orT_f, ifV_t, ifV_f, blsI_m, intsI_m, intsI_i, blsI_0, intsI_0, blsI_1, blsI_2, blsI_3, blsI_4, szd_lt, szd_le, dr_le, dr_lt, dr_leN, dr_ltN, mulc_l, mulc_r, ifc_y, ifc_no, exI_int, zipIdx_m, zip_m, dec_and, dec_or, dec_not, List.length_map, List.length_range, List.length_zipIdx, List.length_zip, and_self, closed, Bool.and_true, Bool.true_and, Bool.and_false, Bool.false_and, Bool.or_true, Bool.true_or, Bool.or_false, Bool.false_or, cond_true, cond_false, Bool.not_not, Int.zero_add, List.all_cons, List.all_nil, List.any_cons, List.any_nil, allIm_ims, List.append_nil, seqOf, k1_e, k1X_e, ow1, lo0, tyT, excOf, Option.getD_none, Option.getD_some, isI_a, isI_b, isI_c, isI_d, isI_e, isI_f, isI_g, isI_h, isI_i, List.take_succ_cons, List.take_zero, ↓reduceIte, Nat.reduceEqDiff, frG, frL, frLs, frM, ↓oReprR_e, D.flt, datM, List.getElem?_concat_length, set_concat, Nat.add_zero, ↓ifp_i, ifb_t, ifb_f, ifb_d, ifb_n, ifc_t, ifc_f, ifc_n, exI_s, kw_K, kD_im, kD_ow, kD_im2, kD_tp, kDX_e, kP_e, kF_e, renL, renM, flatM, Int.reduceLT, Int.reduceLE, Int.reduceAdd, Int.reduceSub, Int.reduceMul, Int.reduceNeg, Int.reduceEq, Int.reduceNe, ↓rFz_e, ↓rFor_e, ↓rLcB_e, outF_e, outO_e, ↓rVar_e, ↓rCon_e, ↓qOp_e, ↓qUn_e, ↓qCa_e, ↓rNil_e, ↓rCons_e, ↓rTup_e, ↓rLst_e, ↓rLstO_e, ↓rB_e, ↓rAndT_j, ↓rOrT_j, ↓rNotT_e, ↓rAndV_j, ↓rOrV_j, ↓rNotV_e, ↓rIfE_j, ↓rChain_j, ↓rNext_e, ↓rSeq_e, ↓rDrop_e, ↓rRet_e, ↓rIf_e, ↓rNever_e, ↓rName_e, ↓rGNil_e, ↓rGCons_e, ↓rGTup_e, ↓rGSub_e, ↓rAsg_e, ↓rPar_e, ↓rYes_e, ↓oEqG_e, ↓oI_e, ↓oI0_e, ↓oNeg_e, ↓oAdd_e, ↓oMul_e, ↓oIn_e, ↓oIx_e, ↓rONone_e, ↓rOSome_e, ↓rSl_e, ↓oLen_e, ↓oInt_e, ↓oMin_e, ↓oMax_e, ↓oSum_e, ↓oBls_e, ↓oList_e, ↓oTuple_e, ↓oSorted_i, ↓oStr_e, ↓oIsi_e, ↓rIList_e, ↓rITup_e, ↓rIRan1_e, ↓rIEnum_e, ↓rMe_e, ↓rMe0_e, ↓oAppend_e, ↓oExtend_e, ↓oPopAt_e, ↓rLstRg_e, ↓rStar_e, ↓rCallD_e, ↓rCallP_e, ↓rIs_e, all_map, any_map, List.getElem?_cons_zero, List.getElem?_cons_succ, List.getElem?_nil, List.set_cons_zero, List.set_cons_succ, List.length_cons, List.length_nil, allIm, id_eq, Bool.not_true, Bool.not_false, Option.map_some, Option.map_none, isi_int_int, kb_int_int, isi_int_bool, kb_int_bool, isi_int_list, kb_int_list, isi_int_tuple, kb_int_tuple, isi_int_str, kb_int_str, isi_int_dict, kb_int_dict, isi_bool_int, kb_bool_int, isi_bool_bool, kb_bool_bool, isi_bool_list, kb_bool_list, isi_bool_tuple, kb_bool_tuple, isi_bool_str, kb_bool_str, isi_bool_dict, kb_bool_dict, isi_list_int, kb_list_int, isi_list_bool, kb_list_bool, isi_list_list, kb_list_list, isi_list_tuple, kb_list_tuple, isi_list_str, kb_list_str, isi_list_dict, kb_list_dict, isi_tuple_int, kb_tuple_int, isi_tuple_bool, kb_tuple_bool, isi_tuple_list, kb_tuple_list, isi_tuple_tuple, kb_tuple_tuple, isi_tuple_str, kb_tuple_str, isi_tuple_dict, kb_tuple_dict, isi_str_int, kb_str_int, isi_str_bool, kb_str_bool, isi_str_list, kb_str_list, isi_str_tuple, kb_str_tuple, isi_str_str, kb_str_str, isi_str_dict, kb_str_dict, isi_dict_int, kb_dict_int, isi_dict_bool, kb_dict_bool, isi_dict_list, kb_dict_list, isi_dict_tuple, kb_dict_tuple, isi_dict_str, kb_dict_str, isi_dict_dict, kb_dict_dict, isi_NoneType_int, kb_NoneType_int, isi_NoneType_bool, kb_NoneType_bool, isi_NoneType_list, kb_NoneType_list, isi_NoneType_tuple, kb_NoneType_tuple, isi_NoneType_str, kb_NoneType_str, isi_NoneType_dict, kb_NoneType_dict, sl_0, st_0, sl_1, st_1, sl_2, st_2, sl_3, st_3, sl_4, st_4, sl_5, st_5, sl_6, st_6, sl_7, st_7, sl_8, st_8, sl_9, st_9, sl_10, st_10, sl_11, st_11, sl_12, st_12, sl_13, st_13, sl_14, st_14, sl_15, st_15, sl_16, st_16, isTy_l, decide_true, decide_false, unows, unow, wipeG, gam0_e, List.map_cons, List.map_nil, repl_s, List.replicate_zero, List.cons_append, List.nil_append, tyL, D.tyn, Option.some.injEq, exists_eq_left, exists_eq_left', exists_eq_right, true_and, and_true, not_true_eq_false, not_false_eq_true, reduceCtorEq, Nat.reduceAdd, Nat.reduceSub, Nat.reduceLT, false_implies, true_implies, implies_true, forall_const, eq_self_iff_true, snap, lenOf, eqk, Bool.not_eq_true, decide_eq_true_eq, decide_eq_false_iff_not, Decidable.not_not, rangeD_len])
local macro_rules | `(tactic| walk_at "u") => `(tactic| (simp only [Option.isSome_some, Option.isSome_none, jn_e, jt_e]; walk_at "s"))
local macro_rules | `(tactic| walk_at "menu") => `(tactic| (simp only [List.forall_mem_cons, List.forall_mem_nil, List.not_mem_nil, false_implies, implies_true, D.int.injEq, exists_eq_left', and_true]; omega))
local macro_rules | `(tactic| walk_at "len") => `(tactic| (simp only [List.length_cons, List.length_nil, List.length_map, List.length_append]; omega))
local macro_rules | `(tactic| walk_at "d") => `(tactic| (refine draw_ok (by assumption) (by omega) (by omega) (by omega) ?_; intro _ _ _ _ _ _; walk_at "s"))
end Dl
set_option Elab.async false
set_option maxRecDepth 100000
set_option maxHeartbeats 400000
namespace Dl
open PySem L2
local macro_rules | `(tactic| walk_at "s") => `(tactic| simp (disch := first | assumption | omega) only [ci_isint, ↓rFld_e, ↓rSetF_e, ↓rSelf_e, ↓rCallU_e, ↓rMake_e, ↓rProp_e, ↓oEqO_e, ↓oNeO_e, kNe_e, ↓rSrtSet_e, callU_e, kU_e, kUX_e, insOf, reach, kids, PickOk, pick, put, putI, loc, ren, refMs, refM, List.idxOf_cons, List.getD_cons_zero, List.getD_cons_succ, List.getD_nil, List.drop_succ_cons, List.drop_zero, List.drop_nil, List.lookup_cons, List.lookup_nil, str_beq, str_eq, putL, List.nodup_cons, List.nodup_nil, List.mem_cons, List.not_mem_nil, List.forall_mem_cons, List.forall_mem_nil, or_false, false_or, or_true, true_or, Nat.reduceBEq, beq_self_eq_true, String.reduceEq, String.reduceNe, ↓rLcL_e, lkP_e, ndL_nx, ndL_rt, ndL_bk, ndL_ct, dct_o, dct_i, key_i, key_s, pSl_e, pFl_e, ↓lcq_itm, ↓rTupRg_e, ↓rTupRg2_e, okd_tup, okd_tt, okd_tup0, eqv_tup, eqv_tup0, eqv_tup1, eqv_tt, eqv_tt0, eqv_tt1, forall_eq_or_imp, forall_eq, ↓rIOwn_e, liP_e, yesP_e, ↓rBase_e, frT_0, frT_c, renLs, lowG, refL, refLs, lk_l, lk_r, Nat.sub_self, Nat.add_sub_cancel_left, Nat.add_sub_cancel, eqv_im, eqv_mi, okd_im, eqv_mm, List.map_id_fun', id_eq, closed_app, closed_fl, okr_a, okd_a, okrr_a, rep_i, List.length_replicate, Int.reduceToNat, exI_l0, exI_l1, exI_l2, exI_l3, exI_l4, exI_l5, exI_l6, exI_l7, exI_e1, exI_e2, exI_e3, exI_e4, exI_e5, ↓rWkF_e, frzG_0, frzG_s, datM, cut_m, okd_ints, okd_nil, eqv_ints, eqv_ints0, eqv_ints1, eqv_nil, srtI_i, srtI_p, srtI_0, ↓lcq_i1, ↓lcq_i2, ↓lcq_i3, ↓lcq_i4, all_tt, any_ff, Int.toNat_natCast, List.length_append, Option.isSome_some, Option.isSome_none, ↓rLcG_e, ↓lcq_enum, ↓lcq_rng0, ↓lcq_rng, ↓lcq_zip, ↓lcq_map, lcq_map, lcq_flt, lcq_all, lcq_fltc, lcq_allc, imR_e, ife_t, ife_f, andE_j, orE_j, andT_j, orT_j, ifV_j, andE_t, andE_f, orE_t, orE_f, andT_t, andT_f, orT_t, orT_f, ifV_t, ifV_f, blsI_m, intsI_m, intsI_i, blsI_0, intsI_0, blsI_1, blsI_2, blsI_3, blsI_4, szd_lt, szd_le, dr_le, dr_lt, dr_leN, dr_ltN, mulc_l, mulc_r, ifc_y, ifc_no, exI_int, zipIdx_m, zip_m, dec_and, dec_or, dec_not, List.length_map, List.length_range, List.length_zipIdx, List.length_zip, and_self, closed, Bool.and_true, Bool.true_and, Bool.and_false, Bool.false_and, Bool.or_true, Bool.true_or, Bool.or_false, Bool.false_or, cond_true, cond_false, Bool.not_not, Int.zero_add, List.all_cons, List.all_nil, List.any_cons, List.any_nil, allIm_ims, List.append_nil, seqOf, k1_e, k1X_e, ow1, lo0, tyT, excOf, Option.getD_none, Option.getD_some, isI_a, isI_b, isI_c, isI_d, isI_e, isI_f, isI_g, isI_h, isI_i, List.take_succ_cons, List.take_zero, ↓reduceIte, Nat.reduceEqDiff, frG, frL, frLs, frM, ↓oReprR_e, D.flt, datM, List.getElem?_concat_length, set_concat, Nat.add_zero, ↓ifp_i, ifb_t, ifb_f, ifb_d, ifb_n, ifc_t, ifc_f, ifc_n, exI_s, kw_K, kD_im, kD_ow, kD_im2, kD_tp, kDX_e, kP_e, kF_e, renL, renM, flatM, Int.reduceLT, Int.reduceLE, Int.reduceAdd, Int.reduceSub, Int.reduceMul, Int.reduceNeg, Int.reduceEq, Int.reduceNe, ↓rFz_e, ↓rFor_e, ↓rLcB_e, outF_e, outO_e, ↓rVar_e, ↓rCon_e, ↓qOp_e, ↓qUn_e, ↓qCa_e, ↓rNil_e, ↓rCons_e, ↓rTup_e, ↓rLst_e, ↓rLstO_e, ↓rB_e, ↓rAndT_j, ↓rOrT_j, ↓rNotT_e, ↓rAndV_j, ↓rOrV_j, ↓rNotV_e, ↓rIfE_j, ↓rChain_j, ↓rNext_e, ↓rSeq_e, ↓rDrop_e, ↓rRet_e, ↓rIf_e, ↓rNever_e, ↓rName_e, ↓rGNil_e, ↓rGCons_e, ↓rGTup_e, ↓rGSub_e, ↓rAsg_e, ↓rPar_e, ↓rYes_e, ↓oEqG_e, ↓oI_e, ↓oI0_e, ↓oNeg_e, ↓oAdd_e, ↓oMul_e, ↓oIn_e, ↓oIx_e, ↓rONone_e, ↓rOSome_e, ↓rSl_e, ↓oLen_e, ↓oInt_e, ↓oMin_e, ↓oMax_e, ↓oSum_e, ↓oBls_e, ↓oList_e, ↓oTuple_e, ↓oSorted_i, ↓oStr_e, ↓oIsi_e, ↓rIList_e, ↓rITup_e, ↓rIRan1_e, ↓rIEnum_e, ↓rMe_e, ↓rMe0_e, ↓oAppend_e, ↓oExtend_e, ↓oPopAt_e, ↓rLstRg_e, ↓rStar_e, ↓rCallD_e, ↓rCallP_e, ↓rIs_e, all_map, any_map, List.getElem?_cons_zero, List.getElem?_cons_succ, List.getElem?_nil, List.set_cons_zero, List.set_cons_succ, List.length_cons, List.length_nil, allIm, id_eq, Bool.not_true, Bool.not_false, Option.map_some, Option.map_none, isi_int_int, kb_int_int, isi_int_bool, kb_int_bool, isi_int_list, kb_int_list, isi_int_tuple, kb_int_tuple, isi_int_str, kb_int_str, isi_int_dict, kb_int_dict, isi_bool_int, kb_bool_int, isi_bool_bool, kb_bool_bool, isi_bool_list, kb_bool_list, isi_bool_tuple, kb_bool_tuple, isi_bool_str, kb_bool_str, isi_bool_dict, kb_bool_dict, isi_list_int, kb_list_int, isi_list_bool, kb_list_bool, isi_list_list, kb_list_list, isi_list_tuple, kb_list_tuple, isi_list_str, kb_list_str, isi_list_dict, kb_list_dict, isi_tuple_int, kb_tuple_int, isi_tuple_bool, kb_tuple_bool, isi_tuple_list, kb_tuple_list, isi_tuple_tuple, kb_tuple_tuple, isi_tuple_str, kb_tuple_str, isi_tuple_dict, kb_tuple_dict, isi_str_int, kb_str_int, isi_str_bool, kb_str_bool, isi_str_list, kb_str_list, isi_str_tuple, kb_str_tuple, isi_str_str, kb_str_str, isi_str_dict, kb_str_dict, isi_dict_int, kb_dict_int, isi_dict_bool, kb_dict_bool, isi_dict_list, kb_dict_list, isi_dict_tuple, kb_dict_tuple, isi_dict_str, kb_dict_str, isi_dict_dict, kb_dict_dict, isi_NoneType_int, kb_NoneType_int, isi_NoneType_bool, kb_NoneType_bool, isi_NoneType_list, kb_NoneType_list, isi_NoneType_tuple, kb_NoneType_tuple, isi_NoneType_str, kb_NoneType_str, isi_NoneType_dict, kb_NoneType_dict, sl_0, st_0, sl_1, st_1, sl_2, st_2, sl_3, st_3, sl_4, st_4, sl_5, st_5, sl_6, st_6, sl_7, st_7, sl_8, st_8, sl_9, st_9, sl_10, st_10, sl_11, st_11, sl_12, st_12, sl_13, st_13, sl_14, st_14, sl_15, st_15, sl_16, st_16, isTy_l, decide_true, decide_false, unows, unow, wipeG, gam0_e, List.map_cons, List.map_nil, repl_s, List.replicate_zero, List.cons_append, List.nil_append, tyL, D.tyn, Option.some.injEq, exists_eq_left, exists_eq_left', exists_eq_right, true_and, and_true, not_true_eq_false, not_false_eq_true, reduceCtorEq, Nat.reduceAdd, Nat.reduceSub, Nat.reduceLT, false_implies, true_implies, implies_true, forall_const, eq_self_iff_true, snap, lenOf, eqk, Bool.not_eq_true, decide_eq_true_eq, decide_eq_false_iff_not, Decidable.not_not, rangeD_len])
local macro_rules | `(tactic| walk_at "u") => `(tactic| (simp only [Option.isSome_some, Option.isSome_none, jn_e, jt_e]; walk_at "s"))
local macro_rules | `(tactic| walk_at "menu") => `(tactic| (simp only [List.forall_mem_cons, List.forall_mem_nil, List.not_mem_nil, false_implies, implies_true, D.int.injEq, exists_eq_left', and_true]; omega))
local macro_rules | `(tactic| walk_at "len") => `(tactic| (simp only [List.length_cons, List.length_nil, List.length_map, List.length_append]; omega))
local macro_rules | `(tactic| walk_at "d") => `(tactic| (refine draw_ok (by assumption) (by omega) (by omega) (by omega) ?_; intro _ _ _ _ _ _; walk_at "s"))
end Dl
set_option Elab.async false
set_option maxRecDepth 100000
set_option maxHeartbeats 1000000
namespace Dl
open PySem PySem.Spec PyProof.Rows L2
section
variable {C : Fc}
theorem LRpL.zero {K : PySem.W.Frag} {As : List Addr} {G : Hp} {vs : List V} (r : LRpL K As G vs []) : vs = [] := by cases r; rfl
end
def kyOf : D → Option Key
  | .int i => some (.inl i)
  | .str x => some (.inr x)
  | _ => none
def prKD : D → Option (Key × D)
  | .tup [k, v] => (kyOf k).map fun k => (k, v)
  | _ => none
def prsKD : List D → Option (List (Key × D))
  | [] => some []
  | d :: ds => match prKD d, prsKD ds with
    | some p, some ps => some (p :: ps)
    | _, _ => none
end Dl
set_option Elab.async false
set_option maxRecDepth 100000
set_option maxHeartbeats 1000000
namespace Dl
open PySem PySem.Spec PyProof.Rows L2
theorem PK.imp {X : Cx} {kws : List Keyword} {t u : TA} (h : PK X kws t) (i : ∀ σ H Q, u σ H Q → t σ H Q) : PK X kws u := ⟨fun pos pins s σ H Q I q => h.run pos pins s σ H Q I (i σ H Q q)⟩
end Dl
set_option Elab.async false
set_option maxRecDepth 100000
set_option maxHeartbeats 400000
namespace Dl
open PySem L2
local macro_rules | `(tactic| walk_at "s") => `(tactic| first | (simp only [kw_K]; (try simp (disch := first | assumption | omega) only [ci_isint, ↓rFld_e, ↓rSetF_e, ↓rSelf_e, ↓rCallU_e, ↓rMake_e, ↓rProp_e, ↓oEqO_e, ↓oNeO_e, kNe_e, ↓rSrtSet_e, callU_e, kU_e, kUX_e, insOf, reach, kids, PickOk, pick, put, putI, loc, ren, refMs, refM, List.idxOf_cons, List.getD_cons_zero, List.getD_cons_succ, List.getD_nil, List.drop_succ_cons, List.drop_zero, List.drop_nil, List.lookup_cons, List.lookup_nil, str_beq, str_eq, putL, List.nodup_cons, List.nodup_nil, List.mem_cons, List.not_mem_nil, List.forall_mem_cons, List.forall_mem_nil, or_false, false_or, or_true, true_or, Nat.reduceBEq, beq_self_eq_true, String.reduceEq, String.reduceNe, ↓rLcL_e, lkP_e, ndL_nx, ndL_rt, ndL_bk, ndL_ct, dct_o, dct_i, key_i, key_s, pSl_e, pFl_e, ↓lcq_itm, ↓rTupRg_e, ↓rTupRg2_e, okd_tup, okd_tt, okd_tup0, eqv_tup, eqv_tup0, eqv_tup1, eqv_tt, eqv_tt0, eqv_tt1, forall_eq_or_imp, forall_eq, ↓rIOwn_e, liP_e, yesP_e, ↓rBase_e, frT_0, frT_c, Bool.false_xor, Bool.true_xor, Bool.xor_false, Bool.xor_true, kyOf, prKD, prsKD, ↓rLc2_e, renLs, lowG, refL, refLs, lk_l, lk_r, Nat.sub_self, Nat.add_sub_cancel_left, Nat.add_sub_cancel, eqv_im, eqv_mi, okd_im, eqv_mm, List.map_id_fun', id_eq, closed_app, closed_fl, okr_a, okd_a, okrr_a, rep_i, List.length_replicate, Int.reduceToNat, exI_l0, exI_l1, exI_l2, exI_l3, exI_l4, exI_l5, exI_l6, exI_l7, exI_e1, exI_e2, exI_e3, exI_e4, exI_e5, ↓rWkF_e, frzG_0, frzG_s, datM, cut_m, okd_ints, okd_nil, eqv_ints, eqv_ints0, eqv_ints1, eqv_nil, srtI_i, srtI_p, srtI_0, ↓lcq_i1, ↓lcq_i2, ↓lcq_i3, ↓lcq_i4, all_tt, any_ff, Int.toNat_natCast, List.length_append, Option.isSome_some, Option.isSome_none, ↓rLcG_e, ↓lcq_enum, ↓lcq_rng0, ↓lcq_rng, ↓lcq_zip, ↓lcq_map, lcq_map, lcq_flt, lcq_all, lcq_fltc, lcq_allc, imR_e, ife_t, ife_f, andE_j, orE_j, andT_j, orT_j, ifV_j, andE_t, andE_f, orE_t, orE_f, andT_t, andT_f, orT_t, orT_f, ifV_t, ifV_f, blsI_m, intsI_m, intsI_i, blsI_0, intsI_0, blsI_1, blsI_2, blsI_3, blsI_4, szd_lt, szd_le, dr_le, dr_lt, dr_leN, dr_ltN, mulc_l, mulc_r, ifc_y, ifc_no, exI_int, zipIdx_m, zip_m, dec_and, dec_or, dec_not, List.length_map, List.length_range, List.length_zipIdx, List.length_zip, and_self, closed, Bool.and_true, Bool.true_and, Bool.and_false, Bool.false_and, Bool.or_true, Bool.true_or, Bool.or_false, Bool.false_or, cond_true, cond_false, Bool.not_not, Int.zero_add, List.all_cons, List.all_nil, List.any_cons, List.any_nil, allIm_ims, List.append_nil, seqOf, k1_e, k1X_e, ow1, lo0, tyT, excOf, Option.getD_none, Option.getD_some, isI_a, isI_b, isI_c, isI_d, isI_e, isI_f, isI_g, isI_h, isI_i, List.take_succ_cons, List.take_zero, ↓reduceIte, Nat.reduceEqDiff, frG, frL, frLs, frM, ↓oReprR_e, D.flt, datM, List.getElem?_concat_length, set_concat, Nat.add_zero, ↓ifp_i, ifb_t, ifb_f, ifb_d, ifb_n, ifc_t, ifc_f, ifc_n, exI_s, kw_K, kD_im, kD_ow, kD_im2, kD_tp, kDX_e, kP_e, kF_e, renL, renM, flatM, Int.reduceLT, Int.reduceLE, Int.reduceAdd, Int.reduceSub, Int.reduceMul, Int.reduceNeg, Int.reduceEq, Int.reduceNe, ↓rFz_e, ↓rFor_e, ↓rLcB_e, outF_e, outO_e, ↓rVar_e, ↓rCon_e, ↓qOp_e, ↓qUn_e, ↓qCa_e, ↓rNil_e, ↓rCons_e, ↓rTup_e, ↓rLst_e, ↓rLstO_e, ↓rB_e, ↓rAndT_j, ↓rOrT_j, ↓rNotT_e, ↓rAndV_j, ↓rOrV_j, ↓rNotV_e, ↓rIfE_j, ↓rChain_j, ↓rNext_e, ↓rSeq_e, ↓rDrop_e, ↓rRet_e, ↓rIf_e, ↓rNever_e, ↓rName_e, ↓rGNil_e, ↓rGCons_e, ↓rGTup_e, ↓rGSub_e, ↓rAsg_e, ↓rPar_e, ↓rYes_e, ↓oEqG_e, ↓oI_e, ↓oI0_e, ↓oNeg_e, ↓oAdd_e, ↓oMul_e, ↓oIn_e, ↓oIx_e, ↓rONone_e, ↓rOSome_e, ↓rSl_e, ↓oLen_e, ↓oInt_e, ↓oMin_e, ↓oMax_e, ↓oSum_e, ↓oBls_e, ↓oList_e, ↓oTuple_e, ↓oSorted_i, ↓oStr_e, ↓oIsi_e, ↓rIList_e, ↓rITup_e, ↓rIRan1_e, ↓rIEnum_e, ↓rMe_e, ↓rMe0_e, ↓oAppend_e, ↓oExtend_e, ↓oPopAt_e, ↓rLstRg_e, ↓rStar_e, ↓rCallD_e, ↓rCallP_e, ↓rIs_e, all_map, any_map, List.getElem?_cons_zero, List.getElem?_cons_succ, List.getElem?_nil, List.set_cons_zero, List.set_cons_succ, List.length_cons, List.length_nil, allIm, id_eq, Bool.not_true, Bool.not_false, Option.map_some, Option.map_none, isi_int_int, kb_int_int, isi_int_bool, kb_int_bool, isi_int_list, kb_int_list, isi_int_tuple, kb_int_tuple, isi_int_str, kb_int_str, isi_int_dict, kb_int_dict, isi_bool_int, kb_bool_int, isi_bool_bool, kb_bool_bool, isi_bool_list, kb_bool_list, isi_bool_tuple, kb_bool_tuple, isi_bool_str, kb_bool_str, isi_bool_dict, kb_bool_dict, isi_list_int, kb_list_int, isi_list_bool, kb_list_bool, isi_list_list, kb_list_list, isi_list_tuple, kb_list_tuple, isi_list_str, kb_list_str, isi_list_dict, kb_list_dict, isi_tuple_int, kb_tuple_int, isi_tuple_bool, kb_tuple_bool, isi_tuple_list, kb_tuple_list, isi_tuple_tuple, kb_tuple_tuple, isi_tuple_str, kb_tuple_str, isi_tuple_dict, kb_tuple_dict, isi_str_int, kb_str_int, isi_str_bool, kb_str_bool, isi_str_list, kb_str_list, isi_str_tuple, kb_str_tuple, isi_str_str, kb_str_str, isi_str_dict, kb_str_dict, isi_dict_int, kb_dict_int, isi_dict_bool, kb_dict_bool, isi_dict_list, kb_dict_list, isi_dict_tuple, kb_dict_tuple, isi_dict_str, kb_dict_str, isi_dict_dict, kb_dict_dict, isi_NoneType_int, kb_NoneType_int, isi_NoneType_bool, kb_NoneType_bool, isi_NoneType_list, kb_NoneType_list, isi_NoneType_tuple, kb_NoneType_tuple, isi_NoneType_str, kb_NoneType_str, isi_NoneType_dict, kb_NoneType_dict, sl_0, st_0, sl_1, st_1, sl_2, st_2, sl_3, st_3, sl_4, st_4, sl_5, st_5, sl_6, st_6, sl_7, st_7, sl_8, st_8, sl_9, st_9, sl_10, st_10, sl_11, st_11, sl_12, st_12, sl_13, st_13, sl_14, st_14, sl_15, st_15, sl_16, st_16, isTy_l, decide_true, decide_false, unows, unow, wipeG, gam0_e, List.map_cons, List.map_nil, repl_s, List.replicate_zero, List.cons_append, List.nil_append, tyL, D.tyn, Option.some.injEq, exists_eq_left, exists_eq_left', exists_eq_right, true_and, and_true, not_true_eq_false, not_false_eq_true, reduceCtorEq, Nat.reduceAdd, Nat.reduceSub, Nat.reduceLT, false_implies, true_implies, implies_true, forall_const, eq_self_iff_true, snap, lenOf, eqk, Bool.not_eq_true, decide_eq_true_eq, decide_eq_false_iff_not, Decidable.not_not, rangeD_len])) | simp (disch := first | assumption | omega) only [ci_isint, ↓rFld_e, ↓rSetF_e, ↓rSelf_e, ↓rCallU_e, ↓rMake_e, ↓rProp_e, ↓oEqO_e, ↓oNeO_e, kNe_e, ↓rSrtSet_e, callU_e, kU_e, kUX_e, insOf, reach, kids, PickOk, pick, put, putI, loc, ren, refMs, refM, List.idxOf_cons, List.getD_cons_zero, List.getD_cons_succ, List.getD_nil, List.drop_succ_cons, List.drop_zero, List.drop_nil, List.lookup_cons, List.lookup_nil, str_beq, str_eq, putL, List.nodup_cons, List.nodup_nil, List.mem_cons, List.not_mem_nil, List.forall_mem_cons, List.forall_mem_nil, or_false, false_or, or_true, true_or, Nat.reduceBEq, beq_self_eq_true, String.reduceEq, String.reduceNe, ↓rLcL_e, lkP_e, ndL_nx, ndL_rt, ndL_bk, ndL_ct, dct_o, dct_i, key_i, key_s, pSl_e, pFl_e, ↓lcq_itm, ↓rTupRg_e, ↓rTupRg2_e, okd_tup, okd_tt, okd_tup0, eqv_tup, eqv_tup0, eqv_tup1, eqv_tt, eqv_tt0, eqv_tt1, forall_eq_or_imp, forall_eq, ↓rIOwn_e, liP_e, yesP_e, ↓rBase_e, frT_0, frT_c, Bool.false_xor, Bool.true_xor, Bool.xor_false, Bool.xor_true, kyOf, prKD, prsKD, ↓rLc2_e, renLs, lowG, refL, refLs, lk_l, lk_r, Nat.sub_self, Nat.add_sub_cancel_left, Nat.add_sub_cancel, eqv_im, eqv_mi, okd_im, eqv_mm, List.map_id_fun', id_eq, closed_app, closed_fl, okr_a, okd_a, okrr_a, rep_i, List.length_replicate, Int.reduceToNat, exI_l0, exI_l1, exI_l2, exI_l3, exI_l4, exI_l5, exI_l6, exI_l7, exI_e1, exI_e2, exI_e3, exI_e4, exI_e5, ↓rWkF_e, frzG_0, frzG_s, datM, cut_m, okd_ints, okd_nil, eqv_ints, eqv_ints0, eqv_ints1, eqv_nil, srtI_i, srtI_p, srtI_0, ↓lcq_i1, ↓lcq_i2, ↓lcq_i3, ↓lcq_i4, all_tt, any_ff, Int.toNat_natCast, List.length_append, Option.isSome_some, Option.isSome_none, ↓rLcG_e, ↓lcq_enum, ↓lcq_rng0, ↓lcq_rng, ↓lcq_zip, ↓lcq_map, lcq_map, lcq_flt, lcq_all, lcq_fltc, lcq_allc, imR_e, ife_t, ife_f, andE_j, orE_j, andT_j, orT_j, ifV_j, andE_t, andE_f, orE_t, orE_f, andT_t, andT_f, orT_t, orT_f, ifV_t, ifV_f, blsI_m, intsI_m, intsI_i, blsI_0, intsI_0, blsI_1, blsI_2, blsI_3, blsI_4, szd_lt, szd_le, dr_le, dr_lt, dr_leN, dr_ltN, mulc_l, mulc_r, ifc_y, ifc_no, exI_int, zipIdx_m, zip_m, dec_and, dec_or, dec_not, List.length_map, List.length_range, List.length_zipIdx, List.length_zip, and_self, closed, Bool.and_true, Bool.true_and, Bool.and_false, Bool.false_and, Bool.or_true, Bool.true_or, Bool.or_false, Bool.false_or, cond_true, cond_false, Bool.not_not, Int.zero_add, List.all_cons, List.all_nil, List.any_cons, List.any_nil, allIm_ims, List.append_nil, seqOf, k1_e, k1X_e, ow1, lo0, tyT, excOf, Option.getD_none, Option.getD_some, isI_a, isI_b, isI_c, isI_d, isI_e, isI_f, isI_g, isI_h, isI_i, List.take_succ_cons, List.take_zero, ↓reduceIte, Nat.reduceEqDiff, frG, frL, frLs, frM, ↓oReprR_e, D.flt, datM, List.getElem?_concat_length, set_concat, Nat.add_zero, ↓ifp_i, ifb_t, ifb_f, ifb_d, ifb_n, ifc_t, ifc_f, ifc_n, exI_s, kw_K, kD_im, kD_ow, kD_im2, kD_tp, kDX_e, kP_e, kF_e, renL, renM, flatM, Int.reduceLT, Int.reduceLE, Int.reduceAdd, Int.reduceSub, Int.reduceMul, Int.reduceNeg, Int.reduceEq, Int.reduceNe, ↓rFz_e, ↓rFor_e, ↓rLcB_e, outF_e, outO_e, ↓rVar_e, ↓rCon_e, ↓qOp_e, ↓qUn_e, ↓qCa_e, ↓rNil_e, ↓rCons_e, ↓rTup_e, ↓rLst_e, ↓rLstO_e, ↓rB_e, ↓rAndT_j, ↓rOrT_j, ↓rNotT_e, ↓rAndV_j, ↓rOrV_j, ↓rNotV_e, ↓rIfE_j, ↓rChain_j, ↓rNext_e, ↓rSeq_e, ↓rDrop_e, ↓rRet_e, ↓rIf_e, ↓rNever_e, ↓rName_e, ↓rGNil_e, ↓rGCons_e, ↓rGTup_e, ↓rGSub_e, ↓rAsg_e, ↓rPar_e, ↓rYes_e, ↓oEqG_e, ↓oI_e, ↓oI0_e, ↓oNeg_e, ↓oAdd_e, ↓oMul_e, ↓oIn_e, ↓oIx_e, ↓rONone_e, ↓rOSome_e, ↓rSl_e, ↓oLen_e, ↓oInt_e, ↓oMin_e, ↓oMax_e, ↓oSum_e, ↓oBls_e, ↓oList_e, ↓oTuple_e, ↓oSorted_i, ↓oStr_e, ↓oIsi_e, ↓rIList_e, ↓rITup_e, ↓rIRan1_e, ↓rIEnum_e, ↓rMe_e, ↓rMe0_e, ↓oAppend_e, ↓oExtend_e, ↓oPopAt_e, ↓rLstRg_e, ↓rStar_e, ↓rCallD_e, ↓rCallP_e, ↓rIs_e, all_map, any_map, List.getElem?_cons_zero, List.getElem?_cons_succ, List.getElem?_nil, List.set_cons_zero, List.set_cons_succ, List.length_cons, List.length_nil, allIm, id_eq, Bool.not_true, Bool.not_false, Option.map_some, Option.map_none, isi_int_int, kb_int_int, isi_int_bool, kb_int_bool, isi_int_list, kb_int_list, isi_int_tuple, kb_int_tuple, isi_int_str, kb_int_str, isi_int_dict, kb_int_dict, isi_bool_int, kb_bool_int, isi_bool_bool, kb_bool_bool, isi_bool_list, kb_bool_list, isi_bool_tuple, kb_bool_tuple, isi_bool_str, kb_bool_str, isi_bool_dict, kb_bool_dict, isi_list_int, kb_list_int, isi_list_bool, kb_list_bool, isi_list_list, kb_list_list, isi_list_tuple, kb_list_tuple, isi_list_str, kb_list_str, isi_list_dict, kb_list_dict, isi_tuple_int, kb_tuple_int, isi_tuple_bool, kb_tuple_bool, isi_tuple_list, kb_tuple_list, isi_tuple_tuple, kb_tuple_tuple, isi_tuple_str, kb_tuple_str, isi_tuple_dict, kb_tuple_dict, isi_str_int, kb_str_int, isi_str_bool, kb_str_bool, isi_str_list, kb_str_list, isi_str_tuple, kb_str_tuple, isi_str_str, kb_str_str, isi_str_dict, kb_str_dict, isi_dict_int, kb_dict_int, isi_dict_bool, kb_dict_bool, isi_dict_list, kb_dict_list, isi_dict_tuple, kb_dict_tuple, isi_dict_str, kb_dict_str, isi_dict_dict, kb_dict_dict, isi_NoneType_int, kb_NoneType_int, isi_NoneType_bool, kb_NoneType_bool, isi_NoneType_list, kb_NoneType_list, isi_NoneType_tuple, kb_NoneType_tuple, isi_NoneType_str, kb_NoneType_str, isi_NoneType_dict, kb_NoneType_dict, sl_0, st_0, sl_1, st_1, sl_2, st_2, sl_3, st_3, sl_4, st_4, sl_5, st_5, sl_6, st_6, sl_7, st_7, sl_8, st_8, sl_9, st_9, sl_10, st_10, sl_11, st_11, sl_12, st_12, sl_13, st_13, sl_14, st_14, sl_15, st_15, sl_16, st_16, isTy_l, decide_true, decide_false, unows, unow, wipeG, gam0_e, List.map_cons, List.map_nil, repl_s, List.replicate_zero, List.cons_append, List.nil_append, tyL, D.tyn, Option.some.injEq, exists_eq_left, exists_eq_left', exists_eq_right, true_and, and_true, not_true_eq_false, not_false_eq_true, reduceCtorEq, Nat.reduceAdd, Nat.reduceSub, Nat.reduceLT, false_implies, true_implies, implies_true, forall_const, eq_self_iff_true, snap, lenOf, eqk, Bool.not_eq_true, decide_eq_true_eq, decide_eq_false_iff_not, Decidable.not_not, rangeD_len])
local macro_rules | `(tactic| walk_at "u") => `(tactic| (simp only [Option.isSome_some, Option.isSome_none, jn_e, jt_e]; walk_at "s"))
local macro_rules | `(tactic| walk_at "menu") => `(tactic| (simp only [List.forall_mem_cons, List.forall_mem_nil, List.not_mem_nil, false_implies, implies_true, D.int.injEq, exists_eq_left', and_true]; omega))
local macro_rules | `(tactic| walk_at "len") => `(tactic| (simp only [List.length_cons, List.length_nil, List.length_map, List.length_append]; omega))
local macro_rules | `(tactic| walk_at "d") => `(tactic| (refine draw_ok (by assumption) (by omega) (by omega) (by omega) ?_; intro _ _ _ _ _ _; walk_at "s"))
def sp_l_bytes : DSp := fun ls M Kd _ => ∃ (B : Int) (ns : List Int) (i c : Int) (w : Nat), ls = [.ow 0, .im (.int (w : Nat))] ∧ M = [pn ns i c] ∧ PenC B i c ∧ B < 1000000000 ∧ w ≤ 8 ∧
  ∀ (i' c' : Int) (b : List Int), PenC (B + 20) i' c' → PkOk w b → Kd (.im (pkD b)) [pn ns i' c']
theorem len_l_bytes : ∀ ls M Kd Ed, sp_l_bytes ls M Kd Ed → ls.length = 2 := fun ls M Kd Ed ⟨_, _, _, _, _, e, _⟩ => by rw [e]; rfl
def n_l_bytes : List Str := ["_law_pen_here", "_law_wide", "_law_under", "_law_k"]
def rd_l_bytes (ex : EX) : RS := (rSeq (rAsg (qOp oIx (rLst (rCons (rCon (.int 2)) (rCons (rCon (.int 256)) (rCons (rCon (.int 8)) rNil)))) (rCallP sp_l_draw (rCons (rVar 0) (rCons (rCon (.int 3)) rNil)))) (rName 2))
  (rRet (qCa oTuple (rCons (rLcB outF (rIRan1 (rCons (rVar 1) rNil)) (rName 3) rYes (qOp oIx (rLst (rCons (rCallP sp_l_draw (rCons (rVar 0) (rCons (rVar 2) rNil))) (rCons (rCon (.int 255)) (rCons (rCon (.int 0)) rNil)))) (qCa oMax (rCons (rCon (.int 0)) (rCons (qOp oSub (rCallP sp_l_draw (rCons (rVar 0) (rCons (rCon (.int 8)) rNil))) (rCon (.int 5))) rNil)))) [3]) rNil))))
theorem m_l_bytes : MtX sp_l_bytes rd_l_bytes n_l_bytes := fun {ls M Kd Ed} h => by
  obtain ⟨B, ns, i, c, w, rfl, rfl, hp, hB, hw, k⟩ := h
  unfold rd_l_bytes n_l_bytes
  walk_at "s"
  walk_at "d"
  rename_i i1 c1 r hp1 hr0 hr
  obtain ⟨u, hu0, hu1, en⟩ : ∃ u : Int, 2 ≤ u ∧ u ≤ 256 ∧ atI ([D.int 2, D.int 256, D.int 8] : List D) r = some (.int u) := by
    have q : r = 0 ∨ r = 1 ∨ r = 2 := by omega
    rcases q with rfl | rfl | rfl
    · exact ⟨2, by decide, by decide, by rw [atI_nat (by decide)]; rfl⟩
    · exact ⟨256, by decide, by decide, by rw [atI_nat (by decide)]; rfl⟩
    · exact ⟨8, by decide, by decide, by rw [atI_nat (by decide)]; rfl⟩
  refine exI_of en ?_
  clear en
  walk_at "s"
  refine ⟨fun t acc M' => t ≤ w → ∃ (b : List Int) (i2 c2 : Int), M' = [pn ns i2 c2] ∧ acc = b.map D.int ∧ b.length = t ∧ (∀ x ∈ b, 0 ≤ x ∧ x ≤ 255) ∧ PenC (B + 2 + 2 * t) i2 c2, fun _ => ⟨[], i1, c1, rfl, rfl, rfl, by simp, hp1.up (by omega)⟩, ?_, ?_⟩
  · intro t d acc M' hd hI
    obtain ⟨ht, rfl⟩ := rangeD_get.mp hd
    have ht' : t < w := by omega
    obtain ⟨b, i2, c2, rfl, rfl, rfl, hb, hp2⟩ := hI (by omega)
    clear hI hd
    refine ⟨rfl, ?_⟩
    walk_at "s"
    walk_at "d"
    rename_i i3 c3 r3 hp3 h30 h31
    walk_at "d"
    rename_i i4 c4 r4 hp4 h40 h41
    obtain ⟨v, hv, en⟩ : ∃ v : Int, (0 ≤ v ∧ v ≤ 255) ∧ atI ([D.int r3, D.int 255, D.int 0] : List D) (max 0 (r4 - 5)) = some (.int v) := by
      have q : max 0 (r4 - 5) = 0 ∨ max 0 (r4 - 5) = 1 ∨ max 0 (r4 - 5) = 2 := by omega
      rcases q with q | q | q <;> rw [q]
      · exact ⟨r3, by omega, by rw [atI_nat (by decide)]; rfl⟩
      · exact ⟨255, by decide, by rw [atI_nat (by decide)]; rfl⟩
      · exact ⟨0, by decide, by rw [atI_nat (by decide)]; rfl⟩
    refine exI_of en ?_
    walk_at "s"
    exact fun _ => ⟨b ++ [v], i4, c4, rfl, by rw [List.map_append]; rfl, by rw [List.length_append]; rfl, fun x hx => (List.mem_append.mp hx).elim (hb x) fun hx => (by rw [List.mem_singleton.mp hx]; exact hv), hp4.up (by omega)⟩
  · intro acc M' hI
    rw [rangeD_len] at hI
    obtain ⟨b, i2, c2, rfl, rfl, hl, hb, hp2⟩ := hI (Nat.le_refl _)
    refine ⟨rfl, ?_⟩
    walk_at "s"
    exact back1 rfl (k i2 c2 b (hp2.up (by omega)) ⟨hl, hb⟩)
def sp_l_shape : DSp := fun ls M Kd _ => ∃ (B : Int) (ns : List Int) (i c m ms : Int), ls = [.ow 0, .im (.int m), .im (.int ms)] ∧ M = [pn ns i c] ∧ PenC B i c ∧ B < 100000000 ∧ 0 ≤ m ∧ m ≤ 6 ∧ 0 ≤ ms ∧ ms ≤ 16 ∧
  ∀ (i' c' : Int) (w : Nat) (fs : List Frm) (gs : List (List Int)), PenC (B + 2000) i' c' → w ≤ 3 → FmOk w fs gs → (fs.length : Int) ≤ m → (gs.length : Int) ≤ ms → Kd (.im (shD w fs gs)) [pn ns i' c']
theorem len_l_shape : ∀ ls M Kd Ed, sp_l_shape ls M Kd Ed → ls.length = 3 := fun ls M Kd Ed ⟨_, _, _, _, _, _, e, _⟩ => by rw [e]; rfl
theorem ml_l_shape {ls : List Lo} {M : Led} {Kd : Lo → Led → Prop} {Ed : Exn → Led → Prop} (h : sp_l_shape ls M Kd Ed) : M.length ≤ 1 := by
  obtain ⟨_, _, _, _, _, _, _, e, _⟩ := h
  rw [e]
  exact Nat.le_refl _
def n_l_shape : List Str := ["_law_pen_here", "_law_most", "_law_most_sets", "_law_wide", "_law_rows", "_law_many", "_law_k", "_law_some_here", "_law_turn"]
def rd_l_shape (ex : EX) : RS := (rSeq (rAsg (rTup (rCons (qOp (oAdd outF) (rCon (.int 1)) (rCallP sp_l_draw (rCons (rVar 0) (rCons (rCon (.int 3)) rNil)))) (rCons (rLstO rNil) (rCons (rCon (.int 0)) rNil)))) (rGTup 3 (rGCons (rName 3) (rGCons (rName 4) (rGCons (rName 5) rGNil)))))
  (rSeq (rFor (rIRan1 (rCons (rCallP sp_l_draw (rCons (rVar 0) (rCons (qOp (oAdd outF) (rVar 1) (rCon (.int 1))) rNil))) rNil)) (rName 6) (rSeq (rAsg (qCa oTuple (rCons (rLcB outF (rIRan1 (rCons (qOp (oAdd outF) (rCon (.int 1)) (rCallP sp_l_draw (rCons (rVar 0) (rCons (rCon (.int 3)) rNil)))) rNil)) (rName 8) rYes (rCallP sp_l_bytes (rCons (rVar 0) (rCons (rVar 3) rNil))) [8]) rNil)) (rName 7))
  (rSeq (rDrop (rMe "list" oAppend (rVar 4) (rCons (rTup (rCons (rVar 7) (rCons (qCa oTuple (rCons (qCa (oSorted outF) (rCons (rCallP sp_l_some (rCons (rVar 0) (rCons (rLstRg outF (rVar 6)) (rCons (rCon (.int 4)) rNil)))) rNil)) rNil)) rNil))) rNil)))
  (rAsg (qOp (oAdd outF) (rVar 5) (qCa oLen (rCons (rVar 7) rNil))) (rName 5)))))
  (rWkF 1 (rRet (rTup (rCons (rVar 3) (rCons (rVar 4) (rCons (rCallP sp_l_groups (rCons (rVar 0) (rCons (rVar 5) (rCons (rVar 2) rNil)))) rNil))))))))
theorem m_l_shape : MtX sp_l_shape rd_l_shape n_l_shape := fun {ls M Kd Ed} h => by
  obtain ⟨B, ns, i, c, m, ms, rfl, rfl, hp, hB, m0, m1, s0, s1, k⟩ := h
  unfold rd_l_shape n_l_shape
  walk_at "s"
  walk_at "d"
  rename_i i1 c1 r hp1 hr0 hr
  walk_at "d"
  rename_i i2 c2 r2 hp2 h20 h21
  obtain ⟨w, hw, hw1, hw3⟩ : ∃ w : Nat, 1 + r = w ∧ 1 ≤ w ∧ w ≤ 3 := ⟨(1 + r).toNat, by omega, by omega, by omega⟩
  rw [hw]
  refine ⟨fun t Γ' M' => t ≤ r2.toNat → ∃ (fs : List Frm) (a b d : Option Lo) (i3 c3 : Int), Γ' = [_, _, _, _, some (.ow 1), some (.im (.int ((flatF fs).length : Nat))), a, b, d] ∧ M' = [pn ns i3 c3, .li (fs.map fmD)] ∧ fs.length = t ∧ (∀ (j : Nat) (f : Frm), fs[j]? = some f → FrmOk w j f ∧ f.1.length ≤ 3) ∧ PenC (B + 2 + 100 * t) i3 c3, fun _ => ⟨[], _, _, _, i2, c2, rfl, rfl, rfl, by simp, hp2.up (by omega)⟩, ?_, ?_⟩
  · intro t dd Γ' M' hdd hI
    obtain ⟨ht, rfl⟩ := rangeD_get.mp hdd
    obtain ⟨fs, a, b, d, i3, c3, rfl, rfl, hfl, hfo, hp3⟩ := hI (by omega)
    clear hI hdd
    walk_at "s"
    walk_at "d"
    rename_i i4 c4 r4 hp4 h40 h41
    obtain ⟨N, hN, hN1, hN3⟩ : ∃ N : Nat, (1 + r4).toNat = N ∧ 1 ≤ N ∧ N ≤ 3 := ⟨_, rfl, by omega, by omega⟩
    rw [hN]
    refine ⟨fun t2 acc M' => t2 ≤ N → ∃ (ps : List (List Int)) (i5 c5 : Int), M' = [pn ns i5 c5, .li (fs.map fmD)] ∧ acc = ps.map pkD ∧ ps.length = t2 ∧ (∀ p ∈ ps, PkOk w p) ∧ PenC (B + 3 + 100 * t + 20 * t2) i5 c5, fun _ => ⟨[], i4, c4, rfl, rfl, rfl, by simp, hp4.up (by omega)⟩, ?_, ?_⟩
    · intro t2 dd acc M' hdd hI
      obtain ⟨ht2, rfl⟩ := rangeD_get.mp hdd
      obtain ⟨ps, i5, c5, rfl, rfl, rfl, hps, hp5⟩ := hI (by omega)
      clear hI hdd
      refine ⟨rfl, ?_⟩
      walk_at "s"
      refine ⟨_, ns, i5, c5, w, rfl, rfl, hp5, by omega, by omega, fun i6 c6 b6 hp6 hb6 => ?_⟩
      walk_at "s"
      exact fun _ => ⟨ps ++ [b6], i6, c6, rfl, by rw [List.map_append]; rfl, by rw [List.length_append]; rfl, fun p hp => (List.mem_append.mp hp).elim (hps p) fun hp => (by rw [List.mem_singleton.mp hp]; exact hb6), hp6.up (by omega)⟩
    · intro acc M' hI
      rw [rangeD_len] at hI
      obtain ⟨ps, i5, c5, rfl, rfl, hpl, hps, hp5⟩ := hI (Nat.le_refl _)
      refine ⟨rfl, ?_⟩
      walk_at "s"
      refine ⟨_, ns, i5, c5, rangeD 0 t, 4, rfl, rfl, hp5, by omega, by decide, by rw [rangeD_len]; omega, fun i6 c6 rs rest hp6 hpm hln => ?_⟩
      rw [rangeD_len] at hp6
      obtain ⟨zs, rfl, hz, hzr⟩ := some_ints hpm
      have zp := srt_perm zs
      have fo : FrmOk w t (ps, srt zs) ∧ ps.length ≤ 3 := by
        refine ⟨⟨fun z => ?_, by show ps.length ≤ 1000; omega, hps, ?_⟩, by omega⟩
        · have : ps = [] := z
          rw [this] at hpl
          rw [← hpl] at hN1
          exact absurd hN1 (by decide)
        · by_cases hz0 : srt zs = []
          · exact .inl hz0
          · exact .inr ⟨hz0, ((srt_pw zs).and (zp.nodup_iff.mpr hz)).imp fun ⟨a, b⟩ => by omega, fun x hx => by have := hzr x (zp.mem_iff.mp hx); omega⟩
      walk_at "s"
      intro _
      refine ⟨fs ++ [(ps, srt zs)], some (.im (.int (t : Nat))), some (.im (.tup (ps.map pkD))), d, i6, c6, ?_, by rw [List.map_append]; rfl, by rw [List.length_append, List.length_singleton, hfl], fun j f hj => ?_, hp6.up (by omega)⟩
      · have e : flatF (fs ++ [(ps, srt zs)]) = flatF fs ++ ps := by unfold flatF; rw [List.flatMap_append]; simp
        rw [e, List.length_append]
        push_cast
        rfl
      · by_cases hjl : j < fs.length
        · rw [List.getElem?_append_left hjl] at hj
          exact hfo j f hj
        · rw [List.getElem?_append_right (by omega)] at hj
          have hj0 : j - fs.length = 0 := by
            have := (List.getElem?_eq_some_iff.mp hj).1
            rw [List.length_singleton] at this
            omega
          rw [hj0] at hj
          cases hj
          rw [show (j : Int) = (t : Nat) by omega]
          exact fo
  · intro Γ' M' hI
    rw [rangeD_len] at hI
    obtain ⟨fs, a, b, d, i3, c3, rfl, rfl, hfl, hfo, hp3⟩ := hI (Nat.le_refl _)
    clear hI
    walk_at "s"
    have l18 : (flatF fs).length ≤ 3 * fs.length := by
      have go : ∀ fs : List Frm, (∀ f ∈ fs, f.1.length ≤ 3) → (flatF fs).length ≤ 3 * fs.length := fun fs => by
        induction fs with
        | nil => intro _; exact Nat.le_refl _
        | cons f fs ih =>
          intro h
          have h1 := h f List.mem_cons_self
          have h2 := ih fun g hg => h g (List.mem_cons_of_mem _ hg)
          show (f.1 ++ flatF fs).length ≤ _
          rw [List.length_append, List.length_cons]
          omega
      refine go fs fun f hf => ?_
      obtain ⟨j, hj⟩ := List.mem_iff_getElem?.mp hf
      exact (hfo j f hj).2
    refine ⟨_, ns, i3, c3, (flatF fs).length, ms, rfl, rfl, hp3, by omega, by omega, by omega, by omega, by omega, fun i4 c4 gs hp4 hgl hgs => ?_⟩
    walk_at "s"
    exact back1 rfl (k i4 c4 w fs gs (hp4.up (by omega)) hw3 ⟨hw1, by omega, fun j f h => (hfo j f h).1, ⟨by omega, by omega, by omega, hgs⟩⟩ (by omega) hgl)
end Dl
set_option Elab.async false
set_option maxRecDepth 100000
set_option maxHeartbeats 1000000
set_option Elab.async false
set_option maxRecDepth 100000
set_option maxHeartbeats 1000000
set_option Elab.async false
set_option maxRecDepth 100000
set_option maxHeartbeats 1000000
namespace Dl
open PySem PySem.Spec PyProof.Rows L2
section
variable {X : Cx}
def rEqTn (K : PySem.W.Frag) : R2 := fun x y H Q => ∃ a b xs, x = .ref a ∧ y = .ref b ∧ SqT K H a xs ∧ SqT K H b [] ∧ Q (.bl xs.isEmpty) H
theorem op_eqTn {k : Nat} (hr : Room k X.A) : OpR X (compareOp .Eq) (rEqTn X.K) := by
  intro pins s σ H x y v u Q I rx ry h
  obtain ⟨a, b, xs, rfl, rfl, ha, hb, q⟩ := h
  obtain rfl : v = Value.ref a := rx
  obtain rfl : u = Value.ref b := ry
  obtain ⟨its, rv, ⟨o, ho, hc, n, hd⟩, _⟩ := I.tuple ha
  obtain ⟨its2, rv2, ⟨o2, ho2, hc2, n2, hd2⟩, _⟩ := I.tuple hb
  cases rv2
  have l1 := rv.length
  refine SeqAt.RcAt.tuples (items := its.toArray) (items2 := ([] : List Value).toArray) (e := fun _ => true) ⟨o, ho, hc, n, hd⟩ ⟨o2, ho2, hc2, n2, hd2⟩ hr.units0 (fun j _ h2 => absurd h2 (by simp)) X.prog X.w _ _ ⟨.bl _, H, I, ?_, q⟩
  cases xs with
  | nil => cases rv; rfl
  | cons z xs => cases rv; rfl
end
def oEqT0 : R2L := fun x y M K => match x, y with
  | .im (.tup ds), .im (.tup []) => K (.im (.bl ds.isEmpty)) M
  | _, _ => False
theorem oEqT0_e : ∀ x y M K, oEqT0 x y M K = (match x, y with
  | .im (.tup ds), .im (.tup []) => K (.im (.bl ds.isEmpty)) M
  | _, _ => False) := fun _ _ _ _ => rfl
theorem eqT0L {C : Fc} : OpL C (rEqTn C.K) oEqT0 := fun {As G H Γ M σ x y lx ly K Q} S rx ry t q => by
  unfold oEqT0 at t
  split at t
  · rename_i ds
    obtain ⟨a, xs, rfl, h1, r1⟩ := S.imT rx
    obtain ⟨b, ys, rfl, h2, r2⟩ := S.imT ry
    cases r2
    have e : xs.isEmpty = ds.isEmpty := by cases r1 <;> rfl
    exact ⟨a, b, xs, rfl, rfl, SqT.of h1, SqT.of h2, by rw [e]; exact q (.im (.bl _)) M _ As G H (Gr.refl S) (Rp.bl _) t⟩
  · exact t.elim
end Dl
set_option Elab.async false
set_option maxRecDepth 100000
set_option maxHeartbeats 1000000
namespace Dl
open PySem PySem.Spec PyProof.Rows L2
theorem LRpL.split {K : PySem.W.Frag} {As : List Addr} {G : Hp} : ∀ {ls ks : List Lo} {vs : List V}, LRpL K As G vs (ls ++ ks) → ∃ ws us, vs = ws ++ us ∧ LRpL K As G ws ls ∧ LRpL K As G us ks
  | [], _, vs, h => ⟨[], vs, rfl, .nil, h⟩
  | l :: ls, ks, _, .cons (v := v) a r => by
    obtain ⟨ws, us, e, h1, h2⟩ := LRpL.split (ls := ls) (ks := ks) r
    exact ⟨v :: ws, us, by rw [e]; rfl, .cons a h1, h2⟩
end Dl
set_option Elab.async false
set_option maxRecDepth 100000
set_option maxHeartbeats 1000000
namespace Dl
open PySem PySem.Spec PyProof.Rows L2
section
variable {X : Cx}
def rEqLn (K : PySem.W.Frag) : R2 := fun x y H Q => ∃ a b xs ys, x = .ref a ∧ y = .ref b ∧ SqL K H a xs ∧ SqL K H b ys ∧ xs.length ≠ ys.length ∧ Q (.bl false) H
theorem op_eqLn (hu : X.A.units + 64 < cLine) : OpR X (compareOp .Eq) (rEqLn X.K) := by
  intro pins s σ H x y v u Q I rx ry h
  obtain ⟨a, b, xs, ys, rfl, rfl, ha, hb, hn, q⟩ := h
  obtain rfl : v = Value.ref a := rx
  obtain rfl : u = Value.ref b := ry
  obtain ⟨its, rv, ⟨o, n, ho, hc, hm, hd⟩, _⟩ := I.list ha
  obtain ⟨its2, rv2, ⟨o2, n2, ho2, hc2, hm2, hd2⟩, _⟩ := I.list hb
  have l1 := rv.length
  have l2 := rv2.length
  exact SeqAt.RcAt.lists_lengths (items := its.toArray) (items2 := its2.toArray) ⟨o, ho, hc, n, hd⟩ ⟨o2, ho2, hc2, n2, hd2⟩ (by simp; omega) (by omega) X.prog X.w _ _ ⟨.bl _, H, I, rfl, q⟩
def rEqV (K : PySem.W.Frag) : R2 := fun x y H Q => rEqU K x y H Q ∨ rEqLn K x y H Q
theorem op_eqV {k : Nat} (hr : Room k X.A) : OpR X (compareOp .Eq) (rEqV X.K) := (op_eqU hr).or (op_eqLn hr.units)
end
def oEq0 : R2L := fun x y M K => match snap M x, snap M y with
  | some (.lst ds), some (.lst []) => K (.im (.bl ds.isEmpty)) M
  | _, _ => False
theorem oEq0_e : ∀ x y M K, oEq0 x y M K = (match snap M x, snap M y with
  | some (.lst ds), some (.lst []) => K (.im (.bl ds.isEmpty)) M
  | _, _ => False) := fun _ _ _ _ => rfl
theorem eq0L {C : Fc} : OpL C (rEqV C.K) oEq0 := fun {As G H Γ M σ x y lx ly K Q} S rx ry t q => by
  unfold oEq0 at t
  split at t
  · rename_i ds e1 e2
    obtain ⟨a, xs, rfl, h1, r1⟩ := S.snapL rx e1
    obtain ⟨b, ys, rfl, h2, r2⟩ := S.snapL ry e2
    have hy : ys = [] := by cases r2; rfl
    subst hy
    cases ds with
    | nil =>
      have hx : xs = [] := by cases r1; rfl
      subst hx
      exact .inl (.inr ⟨.list [], .list [], .lst (SqL.of h1) .nil, .lst (SqL.of h2) .nil, rfl, rfl, q (.im (.bl _)) M _ As G H (Gr.refl S) (Rp.bl _) t⟩)
    | cons d ds =>
      have hl := r1.length
      exact .inr ⟨a, b, xs, [], rfl, rfl, SqL.of h1, SqL.of h2, by rw [List.length_nil]; simp at hl; omega, q (.im (.bl _)) M _ As G H (Gr.refl S) (Rp.bl _) t⟩
  · exact t.elim
end Dl
set_option Elab.async false
set_option maxRecDepth 100000
set_option maxHeartbeats 1000000
namespace Dl
open PySem PySem.Spec PyProof.Rows L2
section
variable {X : Cx}
def rNeLn (K : PySem.W.Frag) : R2 := fun x y H Q => ∃ a b xs ys, x = .ref a ∧ y = .ref b ∧ SqL K H a xs ∧ SqL K H b ys ∧ xs.length ≠ ys.length ∧ Q (.bl true) H
theorem op_neLn (hu : X.A.units + 64 < cLine) : OpR X (compareOp .NotEq) (rNeLn X.K) := by
  intro pins s σ H x y v u Q I rx ry h
  obtain ⟨a, b, xs, ys, rfl, rfl, ha, hb, hn, q⟩ := h
  obtain rfl : v = Value.ref a := rx
  obtain rfl : u = Value.ref b := ry
  obtain ⟨its, rv, ⟨o, n, ho, hc, hm, hd⟩, _⟩ := I.list ha
  obtain ⟨its2, rv2, ⟨o2, n2, ho2, hc2, hm2, hd2⟩, _⟩ := I.list hb
  have l1 := rv.length
  have l2 := rv2.length
  exact SeqAt.RcNeAt.lists_lengths (items := its.toArray) (items2 := its2.toArray) ⟨o, ho, hc, n, hd⟩ ⟨o2, ho2, hc2, n2, hd2⟩ (by simp; omega) (by omega) X.prog X.w _ _ ⟨.bl _, H, I, rfl, q⟩
def rNeV (K : PySem.W.Frag) : R2 := fun x y H Q => rNeU K x y H Q ∨ rNeLn K x y H Q
theorem op_neV {k : Nat} (hr : Room k X.A) : OpR X (compareOp .NotEq) (rNeV X.K) := (op_neU hr).or (op_neLn hr.units)
end
def oNe0 : R2L := fun x y M K => match snap M x, snap M y with
  | some (.lst ds), some (.lst []) => K (.im (.bl (!ds.isEmpty))) M
  | _, _ => False
theorem oNe0_e : ∀ x y M K, oNe0 x y M K = (match snap M x, snap M y with
  | some (.lst ds), some (.lst []) => K (.im (.bl (!ds.isEmpty))) M
  | _, _ => False) := fun _ _ _ _ => rfl
theorem ne0L {C : Fc} : OpL C (rNeV C.K) oNe0 := fun {As G H Γ M σ x y lx ly K Q} S rx ry t q => by
  unfold oNe0 at t
  split at t
  · rename_i ds e1 e2
    obtain ⟨a, xs, rfl, h1, r1⟩ := S.snapL rx e1
    obtain ⟨b, ys, rfl, h2, r2⟩ := S.snapL ry e2
    have hy : ys = [] := by cases r2; rfl
    subst hy
    cases ds with
    | nil =>
      have hx : xs = [] := by cases r1; rfl
      subst hx
      exact .inl (.inr ⟨.list [], .list [], .lst (SqL.of h1) .nil, .lst (SqL.of h2) .nil, rfl, rfl, q (.im (.bl _)) M _ As G H (Gr.refl S) (Rp.bl _) t⟩)
    | cons d ds =>
      have hl := r1.length
      exact .inr ⟨a, b, xs, [], rfl, rfl, SqL.of h1, SqL.of h2, by rw [List.length_nil]; simp at hl; omega, q (.im (.bl _)) M _ As G H (Gr.refl S) (Rp.bl _) t⟩
  · exact t.elim
end Dl
set_option Elab.async false
set_option maxRecDepth 100000
set_option maxHeartbeats 1000000
namespace Dl
open PySem PySem.Spec PyProof.Rows L2
section
variable {C : Fc}
def oPopL : RmL := fun l ls M K => match l with
  | .ow k => match M[k]? with
    | some (.li ds) => ls = [] ∧ ∃ d, ds[ds.length - 1]? = some d ∧ K (.im d) (M.set k (.li ds.dropLast))
    | _ => False
  | _ => False
theorem oPopL_e : ∀ l ls M K, oPopL l ls M K = (match l with
  | .ow k => match M[k]? with
    | some (.li ds) => ls = [] ∧ ∃ d, ds[ds.length - 1]? = some d ∧ K (.im d) (M.set k (.li ds.dropLast))
    | _ => False
  | _ => False) := fun _ _ _ _ => rfl
theorem popL : MeL C "list" rPop oPopL := fun {As G H Γ M σ x xs l ls K Q} S r rl t q => by
  unfold oPopL at t
  split at t
  · obtain ⟨a, ha, rfl⟩ := r
    split at t
    · rename_i ds e
      obtain ⟨rfl, d, hd, t⟩ := t
      obtain ⟨_, o, h0, ys, rfl, rx⟩ := S.own _ _ _ ha e (by intro z; cases z)
      obtain ⟨y, hy, ry⟩ := rx.get hd
      have hl : ys.length = ds.length := rx.length
      refine ⟨a, ys, y, rfl, rl.zero, h0, by rw [hl]; exact hy, q (.im d) _ _ As G _ ⟨S.write (m' := .li _) ha e (by intro z; cases z) ⟨_, rfl, ?_⟩, Same.refl _, List.prefix_refl _⟩ ry t⟩
      have := rx.erase (ds.length - 1)
      rwa [show ys.eraseIdx (ds.length - 1) = ys.dropLast by rw [← hl]; exact PyProof.Rows.Copied.eraseIdx_last ys, show ds.eraseIdx (ds.length - 1) = ds.dropLast from PyProof.Rows.Copied.eraseIdx_last ds] at this
    · exact t.elim
  · exact t.elim
end
end Dl
set_option Elab.async false
set_option maxRecDepth 100000
set_option maxHeartbeats 1000000
namespace Dl
open PySem L2
theorem isTy_str {M : Led} {a : Str} : isTy "str" M (.im (.str a)) = true := rfl
def strsOf : List D → Option (List Str)
  | [] => some []
  | .str x :: ds => (strsOf ds).map (x :: ·)
  | _ :: _ => none
theorem strsOf_map : ∀ ys : List Str, strsOf (ys.map D.str) = some ys
  | [] => rfl
  | y :: ys => by simp [strsOf, strsOf_map ys]
theorem strsOf_eq : ∀ {ds : List D} {ys : List Str}, strsOf ds = some ys → ds = ys.map D.str
  | [], ys, h => by cases h; rfl
  | d :: ds, ys, h => by
    cases d <;> simp only [strsOf] at h <;> try cases h
    rename_i x
    cases e : strsOf ds with
    | none => rw [e] at h; cases h
    | some zs => rw [e] at h; cases h; rw [strsOf_eq e]; rfl
section
variable {C : Fc}
def oSplit (out : Hand) : RmL := fun l ls M K => match l, ls with
  | .im (.str a), [.im (.str b)] => ((b.length == 0) = false ∧ a.length + 2 ≤ sizeLine) ∧ out ((Txt.split a b).map D.str) M K
  | _, _ => False
theorem oSplit_e (out : Hand) : ∀ l ls M K, oSplit out l ls M K = (match l, ls with
  | .im (.str a), [.im (.str b)] => ((b.length == 0) = false ∧ a.length + 2 ≤ sizeLine) ∧ out ((Txt.split a b).map D.str) M K
  | _, _ => False) := fun _ _ _ _ => rfl
theorem splitL {out : Hand} (hout : OutN out) : MeL C "str" (fun x xs H Q => ∃ a b, x = .str a ∧ xs = [.str b] ∧ (b.length == 0) = false ∧ a.length + 2 ≤ sizeLine ∧ rNewStrs (Txt.split a b) H Q) (oSplit out) := fun {As G H Γ M σ x xs l ls K Q} S r rl t q => by
  unfold oSplit at t
  split at t
  · obtain ⟨v, rfl, r2⟩ := rl.one
    exact ⟨_, _, str_of r, by rw [str_of r2], t.1.1, t.1.2, fun p hp => hout S hp (RpL.of_strs _) t.2 q⟩
  · exact t.elim
def oJoin : RmL := fun l ls M K => match l, ls with
  | .im (.str a), [y] => ∃ ys, (seqOf M y).bind strsOf = some ys ∧ (ys.map (·.length)).sum + ys.length * a.length ≤ 16777216 ∧ K (.im (.str (Txt.join a ys))) M
  | _, _ => False
theorem oJoin_e : ∀ l ls M K, oJoin l ls M K = (match l, ls with
  | .im (.str a), [y] => ∃ ys, (seqOf M y).bind strsOf = some ys ∧ (ys.map (·.length)).sum + ys.length * a.length ≤ 16777216 ∧ K (.im (.str (Txt.join a ys))) M
  | _, _ => False) := fun _ _ _ _ => rfl
theorem joinL : MeL C "str" (fun x xs H Q => ∃ a p, ∃ ys : List Str, x = .str a ∧ xs = [.ref p] ∧ (SqL C.K H p (ys.map V.str) ∨ SqT C.K H p (ys.map V.str)) ∧
    (ys.map (·.length)).sum + ys.length * a.length ≤ 16777216 ∧ Q (.str (Txt.join a ys)) H) oJoin := fun {As G H Γ M σ x xs l ls K Q} S r rl t q => by
  unfold oJoin at t
  split at t
  · obtain ⟨v, rfl, r2⟩ := rl.one
    obtain ⟨ys, e, hz, k⟩ := t
    obtain ⟨ds, e1, e2⟩ := Option.bind_eq_some_iff.mp e
    obtain ⟨a, us, rfl, h1, h2⟩ := S.seq r2 e1
    rw [strsOf_eq e2] at h2
    have := RpL.strs h2
    subst this
    exact ⟨_, _, ys, str_of r, rfl, h1, hz, q (.im (.str _)) M _ As G H (Gr.refl S) (Rp.str _) k⟩
  · exact t.elim
def oIntS : RnL := fun ls M K => match ls with
  | [.im (.str a)] => ∃ n, PySem.intText? a = some n ∧ a.length ≤ 640 ∧ K (.im (.int n)) M
  | _ => False
theorem oIntS_e : ∀ ls M K, oIntS ls M K = (match ls with
  | [.im (.str a)] => ∃ n, PySem.intText? a = some n ∧ a.length ≤ 640 ∧ K (.im (.int n)) M
  | _ => False) := fun _ _ _ => rfl
theorem intSL : CaL C (fun xs H Q => ∃ a n, xs = [.str a] ∧ PySem.intText? a = some n ∧ a.length ≤ 640 ∧ Q (.int n) H) oIntS := fun {As G H Γ M σ xs ls K Q} S rl t q => by
  unfold oIntS at t
  split at t
  · obtain ⟨v, rfl, r⟩ := rl.one
    obtain ⟨n, h1, h2, k⟩ := t
    exact ⟨_, n, by rw [str_of r], h1, h2, q (.im (.int _)) M _ As G H (Gr.refl S) (Rp.int _) k⟩
  · exact t.elim
/-- one sign in a text -/
def oInC (neg : Bool) : R2L := fun x y M K => match x, y with
  | .im (.str a), .im (.str z) => ∃ c : Nat, a = ⟨#[c]⟩ ∧ K (.im (.bl (if neg then !decide (c ∈ z.cps.toList) else decide (c ∈ z.cps.toList)))) M
  | _, _ => False
theorem oInC_e (neg : Bool) : ∀ x y M K, oInC neg x y M K = (match x, y with
  | .im (.str a), .im (.str z) => ∃ c : Nat, a = ⟨#[c]⟩ ∧ K (.im (.bl (if neg then !decide (c ∈ z.cps.toList) else decide (c ∈ z.cps.toList)))) M
  | _, _ => False) := fun _ _ _ _ => rfl
theorem inCL : OpL C (fun x y H Q => ∃ (c : Nat) (z : Str), x = .str ⟨#[c]⟩ ∧ y = .str z ∧ Q (.bl (decide (c ∈ z.cps.toList))) H) (oInC false) := fun {As G H Γ M σ x y lx ly K Q} S rx ry t q => by
  unfold oInC at t
  split at t
  · obtain ⟨c, e, k⟩ := t
    exact ⟨c, _, by rw [str_of rx, e], str_of ry, q (.im (.bl _)) M _ As G H (Gr.refl S) (Rp.bl _) k⟩
  · exact t.elim
end
section
variable {C : Fc} {X : Cx} {x : Str} {p pos tpos : Pos} {e e2 tg a b : Expr} {es : List Expr} {te : RE} {t : RA} {kk : Nat}
def sgnD (x : Str) : List D := x.cps.toList.map fun c => D.str ⟨#[c]⟩
theorem sgnD_get {x : Str} {i : Nat} {d : D} : (sgnD x)[i]? = some d ↔ ∃ c, x.cps[i]? = some c ∧ d = .str ⟨#[c]⟩ := by
  unfold sgnD
  rw [List.getElem?_map, Array.getElem?_toList]
  cases e : x.cps[i]? with
  | none => simp
  | some y => simp [eq_comm]
theorem sgnD_len {x : Str} : (sgnD x).length = x.cps.size := by simp [sgnD]
def rIStr (te : RE) : RI := fun Γ M K => te Γ M fun l M1 => match l with
  | .im (.str x) => K (sgnD x) M1
  | _ => False
theorem rIStr_e (te : RE) : ∀ Γ M K, rIStr te Γ M K = (te Γ M fun l M1 => match l with
  | .im (.str x) => K (sgnD x) M1
  | _ => False) := fun _ _ _ => rfl
theorem str_it {As1 : List Addr} {G1 : Hp} {x : Str} : ItD C As1 G1 (Its x) (sgnD x) := fun i As2 G2 H2 Γ2 M2 σ2 S2 sg => ⟨fun d hd => by
  obtain ⟨c, h1, rfl⟩ := sgnD_get.mp hd
  have hi : i < x.cps.size := by
    rcases Nat.lt_or_ge i x.cps.size with z | z
    · exact z
    · rw [Array.getElem?_eq_none z] at h1; cases h1
  refine ⟨hi, fun y H' hy => ?_⟩
  obtain ⟨rfl, c2, h2, rfl⟩ := hy
  rw [h1] at h2
  cases h2
  exact ⟨G2, Gr.refl S2, .str _⟩, fun hi => by rw [sgnD_len] at hi; exact hi⟩
theorem q_istr (he : QE C X e te) : QI C X tg e (rIStr te) :=
  PI.imp (pi_str he) fun σ H R ⟨As, G, Γ, M, K, S, t, q⟩ => ⟨As, G, Γ, M, _, S, t, fun l M1 v As1 G1 H1 g1 rv t1 => by
    split at t1
    · exact ⟨_, str_of rv, q _ M1 As1 G1 H1 _ g1 str_it t1⟩
    · exact t1.elim⟩
def IteF (K : PySem.W.Frag) (k : Int) (a : Addr) : It :=
  ⟨fun i H => ∃ (ys : List V) (y : V), SqL K H a ys ∧ ys[i]? = some y,
    fun i H v H' => ∃ P y, v = .ref P ∧ H P = none ∧ H' = upd H P (.tup [.int (k + (i : Int)), y]) ∧ ∀ ys, SqL K H a ys → ys[i]? = some y,
    fun i H => ∃ ys : List V, SqL K H a ys ∧ ys.length ≤ i⟩
theorem draws_over {prog : Program} {w : World} {A : Around} (hh : A.handled = none) (it l : Addr) (items : Array Value) (i : Nat) (hi : items.size ≤ i) :
    Draws prog w A it [it, l] i (fun _ _ => False) (fun j h => j = i ∧ h.IsListIter it l i ∧ h.IsList l items) where
  live := fun _ _ st => by obtain ⟨_, ⟨o, ho, _⟩, _⟩ := st; exact ⟨o, ho⟩
  frame := fun _ _ _ st hk => ⟨st.1, st.2.1.at fun o e => hk it (by simp) o e, st.2.2.at fun o e => hk l (by simp) o e⟩
  item := fun j s Q E hj st hQ => by have := st.1; omega
  done := fun s Q E st hE => wpAny_nextOf_list_end hh st.2.1 st.2.2 (Array.getElem?_eq_none hi) hE
theorem enum_ne {h : Heap} {e it a : Addr} {c : Int} {old : Value} {items : Array Value} (he : IsEnum h e it c old) (hl : h.IsList a items) : e ≠ a := fun z => by
  obtain ⟨o, ho, hc, _⟩ := hl
  rw [← z, he] at ho
  cases ho
  exact absurd (Value.type.inj hc) (by decide)
theorem liter_ne {h : Heap} {it a b : Addr} {i : Nat} {items : Array Value} (hi : h.IsListIter it b i) (hl : h.IsList a items) : a ≠ it := fun z => by
  obtain ⟨o, ho, hc, _⟩ := hl
  obtain ⟨o2, ho2, hc2, _⟩ := hi
  rw [z, ho2] at ho
  cases ho
  rw [hc2] at hc
  exact absurd (Value.type.inj hc) (by decide)
theorem turn_enumF {P : Program} {w : World} {K : PySem.W.Frag} {elts : List Expr} {kk : Nat} {tpos : Pos} (k : Int) (a e it : Addr) :
    Turn P w K (.Tuple elts kk tpos) (IteF K k a) [e, it] e (fun i h => (∃ old, IsEnum h e it (k + (i : Int)) old) ∧ h.IsListIter it a i ∧ e ≠ it) where
  mem := by simp
  obj := fun i h st b hb => by
    obtain ⟨⟨old, he⟩, ⟨o, ho, hc, hd⟩, _⟩ := st
    rcases (by simpa using hb : b = e ∨ b = it) with z | z
    · subst z; exact ⟨_, he, fun v q => nomatch q⟩
    · subst z; exact ⟨o, ho, fun v q => by rw [hd] at q; cases q⟩
  keep := fun i h h' st kp => by
    obtain ⟨⟨old, he⟩, hi, hne⟩ := st
    exact ⟨⟨old, kp e (by simp) _ he⟩, hi.at fun o q => kp it (by simp) o q, hne⟩
  item := by
    intro X hP hw hK hc i pins s σ H E I hf st hg
    subst hP hw hK
    obtain ⟨⟨old, he⟩, hit, hne⟩ := st
    obtain ⟨ys, y, hq, hy⟩ := hg
    obtain ⟨its, rv, p, hz⟩ := I.list hq
    obtain ⟨u, hu, ru⟩ := rv.get hy
    have hel : e < s.heap.objs.size := Heap.lt_size he
    have hil : it < s.heap.objs.size := by obtain ⟨_, q, _⟩ := hit; exact Heap.lt_size q
    have hlen : i < its.toArray.size := by
      rcases Nat.lt_or_ge i its.length with z | z
      · simpa using z
      · rw [List.getElem?_eq_none z] at hu; cases hu
    have D := Draws.list (prog := X.prog) (w := X.w) (A := X.A.in1) (I.ok.hd hc) it a (liter_ne hit p.isList) its.toArray
    refine wpAny_pyNext_enum_itemC (c := k + (i : Int)) D he ⟨hit, p.isList⟩ hlen hne (by simp only [List.mem_cons, List.not_mem_nil, or_false, not_or]; exact ⟨hne, enum_ne he p.isList⟩) fun x h' tk hx ho hst hT hsz hk => ?_
    replace hx : its.toArray[i]? = some x := hx
    have ex : x = u := by
      have : its.toArray[i]? = some u := by simpa using hu
      rw [hx] at this
      exact Option.some.inj this
    subst ex
    obtain ⟨hit', _⟩ := hst
    refine ⟨_, rfl, wpAny_letOwnedTupleGo_enum (s := { s with heap := h', toks := tk + 1 }) ho fun h'' he' sb => ?_⟩
    have hT2 : h''.get? s.heap.objs.size = some { cls := .type "tuple", data := .seq #[.int (k + (i : Int)) tk, x] } := (sb.2 _ (Nat.ne_of_gt hel)).trans hT
    have new : ObjOk X.prog X.w (upd H s.heap.objs.size (.tup [.int (k + (i : Int)), y])) h'' s.heap.objs.size (.tup [.int (k + (i : Int)), y]) :=
      ⟨by show 2 ≤ sizeLine; decide, [.int (k + (i : Int)) tk, x], .cons ⟨_, rfl⟩ (.cons ru .nil), ⟨_, hT2, rfl, _, rfl⟩⟩
    have I1 : Inv X pins σ (upd H s.heap.objs.size (.tup [.int (k + (i : Int)), y])) { s with heap := h'', toks := tk + 1 } :=
      I.turnedNew (ch := [e, it]) (fun b ob hb q => (sb.2 b (fun z => hb (by simp [z]))).trans (hk b ob (fun z => hb (by simp [z])) (fun z => hb (by simp [z])) q)) hf (Nat.le_refl _) new
    have e1 : k + ((i + 1 : Nat) : Int) = k + (i : Int) + 1 := by omega
    refine ⟨.ref s.heap.objs.size, _, I1, rfl, ⟨_, y, rfl, I.hok.fresh (Nat.le_refl _), rfl, fun zs hz2 => by rw [I.list_inj hz2 hq]; exact hy⟩, ⟨⟨x, by rw [e1]; exact he'⟩, hit'.at fun o q => (sb.2 it (Ne.symm hne)).trans q, hne⟩, fun b hb => ?_⟩
    have hb' : b < s.heap.objs.size := by
      rcases (by simpa using hb : b = e ∨ b = it) with z | z
      · rw [z]; exact hel
      · rw [z]; exact hil
    rw [upd_ne (Nat.ne_of_lt hb')]
    exact (hf b hb).1
  done := by
    intro X hP hw hK hc i pins s σ H E I hf st hg
    subst hP hw hK
    obtain ⟨⟨old, he⟩, hit, hne⟩ := st
    obtain ⟨ys, hq, hy⟩ := hg
    obtain ⟨its, rv, p, hz⟩ := I.list hq
    obtain ⟨f0, f1, f2, f3, f4, f5⟩ := hf it (by simp)
    have hl := rv.length
    exact wpAny_pyNext_enum_endD (draws_over (prog := X.prog) (w := X.w) (A := X.A.in1) (I.ok.hd hc) it a its.toArray i (by simp; omega)) he ⟨rfl, hit, p.isList⟩ fun h' eb => ⟨rfl, I.turned (t' := s.toks) (fun b o hb q => eb b o hb q) f0 f1 f3 f4 f5⟩
  self := fun A i s Q E st h => by
    obtain ⟨⟨_, he⟩, _⟩ := st
    exact wpAny_pyIter_enum he h
def iEnumF (K : PySem.W.Frag) (ta : TA) : TI := fun σ H R => ta σ H fun vs H1 => ∃ a k xs, vs = [.ref a, .int k] ∧ SqL K H1 a xs ∧ (-(2 ^ 63) ≤ k ∧ k < 2 ^ 63) ∧ R (IteF K k a) H1
theorem pi_enumF {ta : TA} {elts : List Expr} (hg : Gl X "enumerate") (hm : X.mg "enumerate" = none) (ha : PA X [a, b] ta) (hs : starEach [a, b] X.env = [(false, eval a X.env), (false, eval b X.env)] := by rfl) (hs2 : starEach [b] X.env = [(false, eval b X.env)] := by rfl) :
    PI X (.Tuple elts kk tpos) (.Call (.Name "enumerate" p) [a, b] [] pos) (iEnumF X.K ta) := by
  refine ⟨fun pins s σ H R I h => ?_⟩
  refine PyProof.Rows.Call_ (ld_blt I hg hm PyProof.Rows.boot_enumerate (PyProof.Rows.callWith_type1 (thn (ha.run pos pins s σ H _ I h) fun us s1 ⟨vs, H1, I1, r1, q1⟩ => ?_) (by rw [hs, hs2]) (by rw [hs2]; rfl)))
  obtain ⟨l, k, xs, ex, hq, ⟨k0, k1⟩, q⟩ := q1
  subst ex
  cases r1 with
  | cons r rr =>
    cases rr with
    | cons r' rr =>
      cases rr
      cases r
      obtain ⟨tt, rfl⟩ := r'
      obtain ⟨its, rv, p', hz⟩ := I1.list hq
      refine enum_begins (begins_list l its.toArray) p'.isList k0 k1 fun h' he hit hsz hk => wpAny_pyIter_enum he ?_
      have I2 : Inv X pins σ H1 { s1 with heap := h' } := I1.kept (t' := s1.toks) hk
      refine ⟨s1.heap.objs.size + 1, [s1.heap.objs.size + 1, s1.heap.objs.size], _, _, H1, rfl, I2, turn_enumF k l (s1.heap.objs.size + 1) s1.heap.objs.size, ⟨⟨.none, by simpa using he⟩, ⟨_, hit, rfl, rfl⟩, Nat.succ_ne_self _⟩, fun c hc => ?_, q⟩
      have hle : s1.heap.objs.size ≤ c := by
        rcases (by simpa using hc : c = s1.heap.objs.size + 1 ∨ c = s1.heap.objs.size) with z | z <;> rw [z] <;> omega
      exact I1.fpOk hle (I1.hok.fresh hle)
def enumF (k : Int) (ds : List D) : List D := ds.zipIdx.map fun q => .tup [.int (k + (q.2 : Nat)), q.1]
theorem enumF_get {k : Int} {ds : List D} {i : Nat} {d : D} : (enumF k ds)[i]? = some d ↔ ∃ y, ds[i]? = some y ∧ d = .tup [.int (k + (i : Nat)), y] := by
  unfold enumF
  rw [List.getElem?_map, List.getElem?_zipIdx]
  cases e : ds[i]? with
  | none => simp
  | some y => simp [eq_comm]
theorem enumF_len {k : Int} {ds : List D} : (enumF k ds).length = ds.length := by simp [enumF]
def rIEnumF (t : RA) : RI := fun Γ M K => t Γ M fun ls M1 => match ls with
  | [.im (.lst ds), .im (.int k)] => (-(2 ^ 63) ≤ k ∧ k < 2 ^ 63) ∧ K (enumF k ds) M1
  | _ => False
theorem rIEnumF_e (t : RA) : ∀ Γ M K, rIEnumF t Γ M K = (t Γ M fun ls M1 => match ls with
  | [.im (.lst ds), .im (.int k)] => (-(2 ^ 63) ≤ k ∧ k < 2 ^ 63) ∧ K (enumF k ds) M1
  | _ => False) := fun _ _ _ => rfl
theorem q_ienumF (hK : C.K = X.K) (hm : X.mg "enumerate" = none) (ha : QA C X [a, b] t) (hg : Gl X "enumerate" := by rfl) (hs : starEach [a, b] X.env = [(false, eval a X.env), (false, eval b X.env)] := by rfl) (hs2 : starEach [b] X.env = [(false, eval b X.env)] := by rfl) :
    QI C X (.Tuple es kk tpos) (.Call (.Name "enumerate" p) [a, b] [] pos) (rIEnumF t) :=
  PI.imp (pi_enumF hg hm ha hs hs2) fun σ H R ⟨As, G, Γ, M, K, S, t, q⟩ => ⟨As, G, Γ, M, _, S, t, fun ls M1 vs As1 G1 H1 g1 rv t1 => by
    split at t1
    · rename_i ds k
      obtain ⟨v, v', rfl, r, r'⟩ := rv.two
      obtain ⟨hk, t1⟩ := t1
      cases r with
      | lst h r =>
        refine ⟨_, k, _, by rw [int_of r'], SqL.of (g1.sat.le _ _ h), hk, q _ M1 As1 G1 H1 _ g1 (fun i As2 G2 H2 Γ2 M2 σ2 S2 sg => ⟨fun d hd => ?_, fun hi => ?_⟩) t1⟩
        · obtain ⟨y, hy, rfl⟩ := enumF_get.mp hd
          have h2 := S2.le _ _ (sg _ _ h)
          obtain ⟨w, hw, rw'⟩ := (r.mono sg).get hy
          refine ⟨⟨_, w, SqL.of h2, hw⟩, fun z H' hz => ?_⟩
          obtain ⟨T, x, rfl, hT, rfl, hx⟩ := hz
          have := hx _ (SqL.of h2)
          rw [hw] at this
          cases this
          exact ⟨_, Gr.frz S2 hT, rp_new_t S2 hT (.cons (.int _) (.one rw'))⟩
        · rw [enumF_len] at hi
          exact ⟨_, SqL.of (S2.le _ _ (sg _ _ h)), by rw [r.length]; exact hi⟩
    · exact t1.elim⟩
end
end Dl
set_option Elab.async false
set_option maxRecDepth 100000
set_option maxHeartbeats 1000000
namespace Dl
open PySem PySem.Spec PySem.W PyProof.Rows L2
theorem alike_is (ns : List Int) : PySem.W.AlikeAll (ns.map PyData.int) := ⟨fun x hx y hy => by
  obtain ⟨p, _, rfl⟩ := List.mem_map.mp hx
  obtain ⟨q, _, rfl⟩ := List.mem_map.mp hy
  simp [alike], fun x hx => by
  obtain ⟨p, _, rfl⟩ := List.mem_map.mp hx
  intro h
  cases h⟩
theorem depth_is : ∀ ns : List Int, PyData.depthAll (ns.map PyData.int) ≤ 1
  | [] => Nat.zero_le _
  | p :: ps => by
    show max (PyData.int p).depth (PyData.depthAll (ps.map PyData.int)) ≤ 1
    have h1 : (PyData.int p).depth = 0 := rfl
    have h2 := depth_is ps
    omega
theorem fold_top : ∀ (ns : List Int) (n : Int), ns.foldl max n ∈ n :: ns ∧ ∀ y ∈ n :: ns, y ≤ ns.foldl max n
  | [], n => ⟨by simp, by simp⟩
  | m :: ns, n => by
    obtain ⟨h1, h2⟩ := fold_top ns (max n m)
    rw [List.foldl_cons]
    refine ⟨?_, fun y hy => ?_⟩
    · rcases List.mem_cons.mp h1 with e | h
      · rw [e]
        rcases Int.le_total n m with z | z
        · rw [Int.max_eq_right z]; simp
        · rw [Int.max_eq_left z]; simp
      · exact List.mem_cons_of_mem _ (List.mem_cons_of_mem _ h)
    · have h3 := h2 (max n m) List.mem_cons_self
      rcases List.mem_cons.mp hy with rfl | hy
      · have := Int.le_max_left y m; omega
      · rcases List.mem_cons.mp hy with rfl | hy
        · have := Int.le_max_right n y; omega
        · exact h2 y (List.mem_cons_of_mem _ hy)
def rMaxT (K : PySem.W.Frag) : List V → Hp → VK → Prop := fun vs H Q => ∃ (a : Addr) (ns : List Int), vs = [V.ref a] ∧ SqT K H a (ns.map V.int) ∧ ns ≠ [] ∧ ∀ m ∈ ns, (∀ y ∈ ns, y ≤ m) → Q (.int m) H
section
variable {X : Cx}
theorem dp_is {K : PySem.W.Frag} {H : Hp} : ∀ ns : List Int, DpAll K H (ns.map V.int) (ns.map PyData.int)
  | [] => .nil
  | n :: ns => .cons (.int _) (dp_is ns)
theorem cr_maxT (hc : X.calm = true) (hu : X.A.units + 2 < cLine) : CallR X (.builtin "max") (rMaxT X.K) := by
  intro pins s σ H vs us Q I r h
  obtain ⟨a, ns, rfl, hs, hne, q⟩ := h
  obtain ⟨its, rv, hl, _⟩ := I.tuple hs
  rw [Vals.ref1 r]
  obtain ⟨n, r0, rfl⟩ : ∃ n r0, ns = n :: r0 := by
    cases ns with
    | nil => exact absurd rfl hne
    | cons x0 r0 => exact ⟨x0, r0, rfl⟩
  obtain ⟨as, hr⟩ := L2.Dp.readsAll I _ _ _ (dp_is (K := X.K) (H := H) (n :: r0)) rv
  have ha := alike_is (n :: r0)
  have hd := depth_is (n :: r0)
  rw [List.map_cons] at hr ha hd
  refine PySem.W.max_tuple_data (I.ok.hd hc) hl (x := .int n) (xs := r0.map .int) (by simpa using hr) ha (by omega) fun i v h' tk bs hv hr' hk => ?_
  rw [PySem.W.maxD_ints] at hr'
  obtain ⟨b1, b2⟩ := fold_top r0 n
  cases hr' with
  | int _ t => exact ⟨.int _, H, I.kept hk, ⟨t, rfl⟩, q _ b1 b2⟩
end
def oMaxT : RnL := fun ls M K => match ls with
  | [.im (.tup ds)] => ∃ ns : List Int, ds = ns.map D.int ∧ ns ≠ [] ∧ ∀ m ∈ ns, (∀ y ∈ ns, y ≤ m) → K (.im (.int m)) M
  | _ => False
theorem maxTL {C : Fc} : CaL C (rMaxT C.K) oMaxT := fun {As G H Γ M σ xs ls K Q} S rl t q => by
  unfold oMaxT at t
  split at t
  · obtain ⟨v, rfl, r⟩ := rl.one
    obtain ⟨ns, rfl, hne, k⟩ := t
    obtain ⟨a, xs, rfl, h1, h2⟩ := S.imT r
    rw [h2.ints] at h1
    exact ⟨a, ns, rfl, SqT.of h1, hne, fun m m1 m2 => q (.im (.int _)) M _ As G H (Gr.refl S) (Rp.int _) (k m m1 m2)⟩
  · exact t.elim
theorem room2t {k : Nat} {A : Around} (hr : Room k A) : A.units + 2 < cLine := by have := hr.un; omega
/-- the reading, its continuation hidden -/
def MaxT (ds : List D) [w : KW (Int → Prop)] : Prop := ∃ ns : List Int, ds = ns.map D.int ∧ ns ≠ [] ∧ ∀ m ∈ ns, (∀ y ∈ ns, y ≤ m) → w.K m
theorem oMaxT_e : ∀ ls M K, oMaxT ls M K = (match ls with
  | [.im (.tup ds)] => @MaxT ds ⟨fun m => K (.im (.int m)) M⟩
  | _ => False) := fun ls M K => by
  unfold oMaxT MaxT
  rfl
theorem maxT_of {ns : List Int} {P : Int → Prop} (hne : ns ≠ []) (h : ∀ m ∈ ns, (∀ y ∈ ns, y ≤ m) → P m) : @MaxT (ns.map D.int) ⟨P⟩ := ⟨ns, rfl, hne, h⟩
end Dl
set_option Elab.async false
set_option maxRecDepth 100000
set_option maxHeartbeats 1000000
namespace Dl
open PySem L2
section
variable {C : Fc} {X : Cx} {x : Str} {p pos tpos : Pos} {e e2 tg a b c : Expr} {es : List Expr} {te te2 : RE} {t : RA} {kk : Nat}
def stepN (i j c : Int) : Nat := if i < j then ((j - i - 1) / c + 1).toNat else 0
theorem RgC.up {i j c : Int} (h0 : 0 ≤ i) (h1 : i ≤ 1000000) (h2 : 0 ≤ j) (h3 : j ≤ 1000000) (h4 : 0 < c) (h5 : c ≤ 1000000) : RgC i j c (stepN i j c) := by
  have hr : Builtin.Range.rangeSize i j c = (stepN i j c : Int) := by
    unfold Builtin.Range.rangeSize stepN
    rw [if_pos h4]
    split
    · rename_i h
      have : 0 ≤ (j - i - 1) / c := Int.ediv_nonneg (by omega) (by omega)
      omega
    · rfl
  have hn : (stepN i j c : Int) ≤ 1000001 := by
    unfold stepN
    split
    · rename_i h
      have h6 : (j - i - 1) / c ≤ j - i - 1 := Int.ediv_le_self _ (by omega)
      have : 0 ≤ (j - i - 1) / c := Int.ediv_nonneg (by omega) (by omega)
      omega
    · decide
  refine ⟨by omega, by omega, ?_, hr⟩
  unfold Builtin.Range.small
  rw [hr, if_pos h4]
  have f : ∀ z : Int, -1000000 ≤ z → z ≤ 3000000 → Builtin.Range.rangeFitsLong z = true := fun z z1 z2 => by
    unfold Builtin.Range.rangeFitsLong
    simp only [Bool.and_eq_true, decide_eq_true_eq]
    omega
  rw [f i (by omega) (by omega), f j (by omega) (by omega), f c (by omega) (by omega), f _ (by omega) (by omega), f (j + (c - 1)) (by omega) (by omega)]
  simp
end
def iSeq (K : PySem.W.Frag) (tl : TE) : TI := fun σ H R => tl σ H fun x H1 => (∃ a, x = V.ref a ∧ (∃ xs, SqL K H1 a xs) ∧ R (Itl K a) H1) ∨ ∃ a, x = V.ref a ∧ (∃ xs, SqT K H1 a xs) ∧ R (Itt K a) H1
theorem pi_seq {X : Cx} {tg l : Expr} {tl : TE} (hl : PE X l tl) : PI X tg l (iSeq X.K tl) := ⟨fun pins s σ H R I h => thn (hl.run pins s σ H _ I h) fun v s1 ⟨x, H1, I1, r1, q1⟩ => by
  rcases q1 with ⟨a, rfl, ⟨xs, hq⟩, q⟩ | ⟨a, rfl, ⟨xs, hq⟩, q⟩
  · cases r1
    obtain ⟨its, rv, p, hz⟩ := Inv.list I1 hq
    refine wpAny_pyIter_list (PlainL.isList p) ⟨s1.heap.objs.size, [s1.heap.objs.size], fun i h => h.IsListIter s1.heap.objs.size a i, Itl X.K a, H1, rfl, Inv.kept I1 fun b o e => Heap.get?_push_of_some _ e, turn_list a _, ⟨_, Heap.get?_push_size s1.1 rfl, rfl, rfl⟩, fun b hb => ?_, q⟩
    obtain rfl : b = s1.heap.objs.size := by simpa using hb
    exact Inv.fpOk I1 (Nat.le_refl _) (HOk.fresh I1.hok (Nat.le_refl _))
  · cases r1
    obtain ⟨its, rv, p, hz⟩ := Inv.tuple I1 hq
    refine wpAny_pyIter_tuple p ⟨s1.heap.objs.size, [s1.heap.objs.size], fun i h => h.IsTupleIter s1.heap.objs.size a i, Itt X.K a, H1, rfl, Inv.kept I1 fun b o e => Heap.get?_push_of_some _ e, turn_tuple a _, ⟨_, Heap.get?_push_size s1.1 rfl, rfl, rfl⟩, fun b hb => ?_, q⟩
    obtain rfl : b = s1.heap.objs.size := by simpa using hb
    exact Inv.fpOk I1 (Nat.le_refl _) (HOk.fresh I1.hok (Nat.le_refl _))⟩
def rISeq (te : RE) : RI := fun Γ M K => te Γ M fun l M1 => match l with
  | .im (.lst ds) => K ds M1
  | .im (.tup ds) => K ds M1
  | _ => False
theorem rISeq_e (te : RE) : ∀ Γ M K, rISeq te Γ M K = (te Γ M fun l M1 => match l with
  | .im (.lst ds) => K ds M1
  | .im (.tup ds) => K ds M1
  | _ => False) := fun _ _ _ => rfl
theorem q_iseq {C : Fc} {X : Cx} {e tg : Expr} {te : RE} (hK : C.K = X.K) (he : QE C X e te) : QI C X tg e (rISeq te) := PI.imp (pi_seq he) fun σ H R ⟨As, G, Γ, M, K, S, t, q⟩ => ⟨As, G, Γ, M, _, S, t, fun l M1 v As1 G1 H1 g1 rv t1 => by
  split at t1
  · rename_i ds
    cases rv with
    | lst h r =>
      refine .inl ⟨_, rfl, ⟨_, SqL.of (g1.sat.le _ _ h)⟩, q ds M1 As1 G1 H1 _ g1 (fun i As2 G2 H2 Γ2 M2 σ2 S2 sg => ⟨fun d hd => ?_, fun hi => ?_⟩) t1⟩
      · have h2 := S2.le _ _ (sg _ _ h)
        obtain ⟨w, hw, rw'⟩ := (r.mono sg).get hd
        refine ⟨⟨_, w, SqL.of h2, hw⟩, fun y H' hy => ?_⟩
        obtain ⟨rfl, hy⟩ := hy
        have := hy _ (SqL.of h2)
        rw [hw] at this
        cases this
        exact ⟨G2, Gr.refl S2, rw'⟩
      · exact ⟨_, SqL.of (S2.le _ _ (sg _ _ h)), by rw [r.length]; exact hi⟩
  · rename_i ds
    cases rv with
    | tup h r =>
      refine .inr ⟨_, rfl, ⟨_, SqT.of (g1.sat.le _ _ h)⟩, q ds M1 As1 G1 H1 _ g1 (fun i As2 G2 H2 Γ2 M2 σ2 S2 sg => ⟨fun d hd => ?_, fun hi => ?_⟩) t1⟩
      · have h2 := S2.le _ _ (sg _ _ h)
        obtain ⟨w, hw, rw'⟩ := (r.mono sg).get hd
        refine ⟨⟨_, w, SqT.of h2, hw⟩, fun y H' hy => ?_⟩
        obtain ⟨rfl, hy⟩ := hy
        have := hy _ (SqT.of h2)
        rw [hw] at this
        cases this
        exact ⟨G2, Gr.refl S2, rw'⟩
      · exact ⟨_, SqT.of (S2.le _ _ (sg _ _ h)), by rw [r.length]; exact hi⟩
  · exact t1.elim⟩
end Dl
set_option Elab.async false
set_option maxRecDepth 100000
set_option maxHeartbeats 400000
namespace Dl
open PySem L2
def tbl : Tb := [(.b "NoneType", .o "Cover", false), (.b "NoneType", .o "Film", false), (.b "bool", .o "Cover", false), (.b "bool", .o "Film", false), (.b "int", .o "Cover", false), (.b "int", .o "Film", false), (.b "str", .o "Cover", false), (.b "str", .o "Film", false), (.b "list", .o "Cover", false), (.b "list", .o "Film", false), (.b "tuple", .o "Cover", false), (.b "tuple", .o "Film", false), (.b "dict", .o "Cover", false), (.b "dict", .o "Film", false), (.o "Cover", .o "Cover", true), (.o "Cover", .o "Film", false), (.o "Film", .o "Cover", false), (.o "Film", .o "Film", true)]
theorem ia_0_NoneType : isAny tbl (.b "NoneType") [.o "Cover"] = some false := by decide +kernel
theorem ia_0_bool : isAny tbl (.b "bool") [.o "Cover"] = some false := by decide +kernel
theorem ia_0_int : isAny tbl (.b "int") [.o "Cover"] = some false := by decide +kernel
theorem ia_0_str : isAny tbl (.b "str") [.o "Cover"] = some false := by decide +kernel
theorem ia_0_list : isAny tbl (.b "list") [.o "Cover"] = some false := by decide +kernel
theorem ia_0_tuple : isAny tbl (.b "tuple") [.o "Cover"] = some false := by decide +kernel
theorem ia_0_dict : isAny tbl (.b "dict") [.o "Cover"] = some false := by decide +kernel
theorem ia_0_Cover : isAny tbl (.o "Cover") [.o "Cover"] = some true := by decide +kernel
theorem ia_0_Film : isAny tbl (.o "Film") [.o "Cover"] = some false := by decide +kernel
theorem ia_1_NoneType : isAny tbl (.b "NoneType") [.o "Film"] = some false := by decide +kernel
theorem ia_1_bool : isAny tbl (.b "bool") [.o "Film"] = some false := by decide +kernel
theorem ia_1_int : isAny tbl (.b "int") [.o "Film"] = some false := by decide +kernel
theorem ia_1_str : isAny tbl (.b "str") [.o "Film"] = some false := by decide +kernel
theorem ia_1_list : isAny tbl (.b "list") [.o "Film"] = some false := by decide +kernel
theorem ia_1_tuple : isAny tbl (.b "tuple") [.o "Film"] = some false := by decide +kernel
theorem ia_1_dict : isAny tbl (.b "dict") [.o "Film"] = some false := by decide +kernel
theorem ia_1_Cover : isAny tbl (.o "Cover") [.o "Film"] = some false := by decide +kernel
theorem ia_1_Film : isAny tbl (.o "Film") [.o "Film"] = some true := by decide +kernel
local macro_rules | `(tactic| walk_at "s") => `(tactic| first | (simp only [kw_K]; (try simp (disch := first | assumption | omega) only [ia_0_NoneType, ia_0_bool, ia_0_int, ia_0_str, ia_0_list, ia_0_tuple, ia_0_dict, ia_0_Cover, ia_0_Film, ia_1_NoneType, ia_1_bool, ia_1_int, ia_1_str, ia_1_list, ia_1_tuple, ia_1_dict, ia_1_Cover, ia_1_Film, ci_isint, isTy_str, ↓rISeq_e, ↓oJoin_e, ↓oSplit_e, ↓oIntS_e, ↓oInC_e, ↓rIStr_e, ↓rIEnumF_e, oEqT0_e, oNe0_e, oEq0_e, ↓oPopL_e, ↓oMaxT_e, ↓rFld_e, ↓rSetF_e, ↓rSelf_e, ↓rCallU_e, ↓rMake_e, ↓rProp_e, ↓oEqO_e, ↓oNeO_e, kNe_e, ↓rSrtSet_e, callU_e, kU_e, kUX_e, insOf, reach, kids, PickOk, pick, put, putI, loc, ren, refMs, refM, List.idxOf_cons, List.getD_cons_zero, List.getD_cons_succ, List.getD_nil, List.drop_succ_cons, List.drop_zero, List.drop_nil, List.lookup_cons, List.lookup_nil, str_beq, str_eq, putL, List.nodup_cons, List.nodup_nil, List.mem_cons, List.not_mem_nil, List.forall_mem_cons, List.forall_mem_nil, or_false, false_or, or_true, true_or, Nat.reduceBEq, beq_self_eq_true, String.reduceEq, String.reduceNe, ↓rLcL_e, lkP_e, ndL_nx, ndL_rt, ndL_bk, ndL_ct, dct_o, dct_i, key_i, key_s, pSl_e, pFl_e, ↓lcq_itm, ↓rTupRg_e, ↓rTupRg2_e, okd_tup, okd_tt, okd_tup0, eqv_tup, eqv_tup0, eqv_tup1, eqv_tt, eqv_tt0, eqv_tt1, forall_eq_or_imp, forall_eq, ↓rIOwn_e, liP_e, yesP_e, ↓rBase_e, frT_0, frT_c, Bool.false_xor, Bool.true_xor, Bool.xor_false, Bool.xor_true, kyOf, prKD, prsKD, ↓rLc2_e, renLs, lowG, refL, refLs, lk_l, lk_r, Nat.sub_self, Nat.add_sub_cancel_left, Nat.add_sub_cancel, eqv_im, eqv_mi, okd_im, eqv_mm, List.map_id_fun', id_eq, closed_app, closed_fl, okr_a, okd_a, okrr_a, rep_i, List.length_replicate, Int.reduceToNat, exI_l0, exI_l1, exI_l2, exI_l3, exI_l4, exI_l5, exI_l6, exI_l7, exI_e1, exI_e2, exI_e3, exI_e4, exI_e5, ↓rWkF_e, frzG_0, frzG_s, datM, cut_m, okd_ints, okd_nil, eqv_ints, eqv_ints0, eqv_ints1, eqv_nil, srtI_i, srtI_p, srtI_0, ↓lcq_i1, ↓lcq_i2, ↓lcq_i3, ↓lcq_i4, all_tt, any_ff, Int.toNat_natCast, List.length_append, Option.isSome_some, Option.isSome_none, ↓rLcG_e, ↓lcq_enum, ↓lcq_rng0, ↓lcq_rng, ↓lcq_zip, ↓lcq_map, lcq_map, lcq_flt, lcq_all, lcq_fltc, lcq_allc, imR_e, ife_t, ife_f, andE_j, orE_j, andT_j, orT_j, ifV_j, andE_t, andE_f, orE_t, orE_f, andT_t, andT_f, orT_t, orT_f, ifV_t, ifV_f, blsI_m, intsI_m, intsI_i, blsI_0, intsI_0, blsI_1, blsI_2, blsI_3, blsI_4, szd_lt, szd_le, dr_le, dr_lt, dr_leN, dr_ltN, mulc_l, mulc_r, ifc_y, ifc_no, exI_int, zipIdx_m, zip_m, dec_and, dec_or, dec_not, List.length_map, List.length_range, List.length_zipIdx, List.length_zip, and_self, closed, Bool.and_true, Bool.true_and, Bool.and_false, Bool.false_and, Bool.or_true, Bool.true_or, Bool.or_false, Bool.false_or, cond_true, cond_false, Bool.not_not, Int.zero_add, List.all_cons, List.all_nil, List.any_cons, List.any_nil, allIm_ims, List.append_nil, seqOf, k1_e, k1X_e, ow1, lo0, tyT, excOf, Option.getD_none, Option.getD_some, isI_a, isI_b, isI_c, isI_d, isI_e, isI_f, isI_g, isI_h, isI_i, List.take_succ_cons, List.take_zero, ↓reduceIte, Nat.reduceEqDiff, frG, frL, frLs, frM, ↓oReprR_e, D.flt, datM, List.getElem?_concat_length, set_concat, Nat.add_zero, ↓ifp_i, ifb_t, ifb_f, ifb_d, ifb_n, ifc_t, ifc_f, ifc_n, exI_s, kw_K, kD_im, kD_ow, kD_im2, kD_tp, kDX_e, kP_e, kF_e, renL, renM, flatM, Int.reduceLT, Int.reduceLE, Int.reduceAdd, Int.reduceSub, Int.reduceMul, Int.reduceNeg, Int.reduceEq, Int.reduceNe, ↓rFz_e, ↓rFor_e, ↓rLcB_e, outF_e, outO_e, ↓rVar_e, ↓rCon_e, ↓qOp_e, ↓qUn_e, ↓qCa_e, ↓rNil_e, ↓rCons_e, ↓rTup_e, ↓rLst_e, ↓rLstO_e, ↓rB_e, ↓rAndT_j, ↓rOrT_j, ↓rNotT_e, ↓rAndV_j, ↓rOrV_j, ↓rNotV_e, ↓rIfE_j, ↓rChain_j, ↓rNext_e, ↓rSeq_e, ↓rDrop_e, ↓rRet_e, ↓rIf_e, ↓rNever_e, ↓rName_e, ↓rGNil_e, ↓rGCons_e, ↓rGTup_e, ↓rGSub_e, ↓rAsg_e, ↓rPar_e, ↓rYes_e, ↓oEqG_e, ↓oI_e, ↓oI0_e, ↓oNeg_e, ↓oAdd_e, ↓oMul_e, ↓oIn_e, ↓oIx_e, ↓rONone_e, ↓rOSome_e, ↓rSl_e, ↓oLen_e, ↓oInt_e, ↓oMin_e, ↓oMax_e, ↓oSum_e, ↓oBls_e, ↓oList_e, ↓oTuple_e, ↓oSorted_i, ↓oStr_e, ↓oIsi_e, ↓rIList_e, ↓rITup_e, ↓rIRan1_e, ↓rIEnum_e, ↓rMe_e, ↓rMe0_e, ↓oAppend_e, ↓oExtend_e, ↓oPopAt_e, ↓rLstRg_e, ↓rStar_e, ↓rCallD_e, ↓rCallP_e, ↓rIs_e, all_map, any_map, List.getElem?_cons_zero, List.getElem?_cons_succ, List.getElem?_nil, List.set_cons_zero, List.set_cons_succ, List.length_cons, List.length_nil, allIm, id_eq, Bool.not_true, Bool.not_false, Option.map_some, Option.map_none, isi_int_int, kb_int_int, isi_int_bool, kb_int_bool, isi_int_list, kb_int_list, isi_int_tuple, kb_int_tuple, isi_int_str, kb_int_str, isi_int_dict, kb_int_dict, isi_bool_int, kb_bool_int, isi_bool_bool, kb_bool_bool, isi_bool_list, kb_bool_list, isi_bool_tuple, kb_bool_tuple, isi_bool_str, kb_bool_str, isi_bool_dict, kb_bool_dict, isi_list_int, kb_list_int, isi_list_bool, kb_list_bool, isi_list_list, kb_list_list, isi_list_tuple, kb_list_tuple, isi_list_str, kb_list_str, isi_list_dict, kb_list_dict, isi_tuple_int, kb_tuple_int, isi_tuple_bool, kb_tuple_bool, isi_tuple_list, kb_tuple_list, isi_tuple_tuple, kb_tuple_tuple, isi_tuple_str, kb_tuple_str, isi_tuple_dict, kb_tuple_dict, isi_str_int, kb_str_int, isi_str_bool, kb_str_bool, isi_str_list, kb_str_list, isi_str_tuple, kb_str_tuple, isi_str_str, kb_str_str, isi_str_dict, kb_str_dict, isi_dict_int, kb_dict_int, isi_dict_bool, kb_dict_bool, isi_dict_list, kb_dict_list, isi_dict_tuple, kb_dict_tuple, isi_dict_str, kb_dict_str, isi_dict_dict, kb_dict_dict, isi_NoneType_int, kb_NoneType_int, isi_NoneType_bool, kb_NoneType_bool, isi_NoneType_list, kb_NoneType_list, isi_NoneType_tuple, kb_NoneType_tuple, isi_NoneType_str, kb_NoneType_str, isi_NoneType_dict, kb_NoneType_dict, sl_0, st_0, sl_1, st_1, sl_2, st_2, sl_3, st_3, sl_4, st_4, sl_5, st_5, sl_6, st_6, sl_7, st_7, sl_8, st_8, sl_9, st_9, sl_10, st_10, sl_11, st_11, sl_12, st_12, sl_13, st_13, sl_14, st_14, sl_15, st_15, sl_16, st_16, isTy_l, decide_true, decide_false, unows, unow, wipeG, gam0_e, List.map_cons, List.map_nil, repl_s, List.replicate_zero, List.cons_append, List.nil_append, tyL, D.tyn, Option.some.injEq, exists_eq_left, exists_eq_left', exists_eq_right, true_and, and_true, not_true_eq_false, not_false_eq_true, reduceCtorEq, Nat.reduceAdd, Nat.reduceSub, Nat.reduceLT, false_implies, true_implies, implies_true, forall_const, eq_self_iff_true, snap, lenOf, eqk, Bool.not_eq_true, decide_eq_true_eq, decide_eq_false_iff_not, Decidable.not_not, rangeD_len])) | simp (disch := first | assumption | omega) only [ia_0_NoneType, ia_0_bool, ia_0_int, ia_0_str, ia_0_list, ia_0_tuple, ia_0_dict, ia_0_Cover, ia_0_Film, ia_1_NoneType, ia_1_bool, ia_1_int, ia_1_str, ia_1_list, ia_1_tuple, ia_1_dict, ia_1_Cover, ia_1_Film, ci_isint, isTy_str, ↓rISeq_e, ↓oJoin_e, ↓oSplit_e, ↓oIntS_e, ↓oInC_e, ↓rIStr_e, ↓rIEnumF_e, oEqT0_e, oNe0_e, oEq0_e, ↓oPopL_e, ↓oMaxT_e, ↓rFld_e, ↓rSetF_e, ↓rSelf_e, ↓rCallU_e, ↓rMake_e, ↓rProp_e, ↓oEqO_e, ↓oNeO_e, kNe_e, ↓rSrtSet_e, callU_e, kU_e, kUX_e, insOf, reach, kids, PickOk, pick, put, putI, loc, ren, refMs, refM, List.idxOf_cons, List.getD_cons_zero, List.getD_cons_succ, List.getD_nil, List.drop_succ_cons, List.drop_zero, List.drop_nil, List.lookup_cons, List.lookup_nil, str_beq, str_eq, putL, List.nodup_cons, List.nodup_nil, List.mem_cons, List.not_mem_nil, List.forall_mem_cons, List.forall_mem_nil, or_false, false_or, or_true, true_or, Nat.reduceBEq, beq_self_eq_true, String.reduceEq, String.reduceNe, ↓rLcL_e, lkP_e, ndL_nx, ndL_rt, ndL_bk, ndL_ct, dct_o, dct_i, key_i, key_s, pSl_e, pFl_e, ↓lcq_itm, ↓rTupRg_e, ↓rTupRg2_e, okd_tup, okd_tt, okd_tup0, eqv_tup, eqv_tup0, eqv_tup1, eqv_tt, eqv_tt0, eqv_tt1, forall_eq_or_imp, forall_eq, ↓rIOwn_e, liP_e, yesP_e, ↓rBase_e, frT_0, frT_c, Bool.false_xor, Bool.true_xor, Bool.xor_false, Bool.xor_true, kyOf, prKD, prsKD, ↓rLc2_e, renLs, lowG, refL, refLs, lk_l, lk_r, Nat.sub_self, Nat.add_sub_cancel_left, Nat.add_sub_cancel, eqv_im, eqv_mi, okd_im, eqv_mm, List.map_id_fun', id_eq, closed_app, closed_fl, okr_a, okd_a, okrr_a, rep_i, List.length_replicate, Int.reduceToNat, exI_l0, exI_l1, exI_l2, exI_l3, exI_l4, exI_l5, exI_l6, exI_l7, exI_e1, exI_e2, exI_e3, exI_e4, exI_e5, ↓rWkF_e, frzG_0, frzG_s, datM, cut_m, okd_ints, okd_nil, eqv_ints, eqv_ints0, eqv_ints1, eqv_nil, srtI_i, srtI_p, srtI_0, ↓lcq_i1, ↓lcq_i2, ↓lcq_i3, ↓lcq_i4, all_tt, any_ff, Int.toNat_natCast, List.length_append, Option.isSome_some, Option.isSome_none, ↓rLcG_e, ↓lcq_enum, ↓lcq_rng0, ↓lcq_rng, ↓lcq_zip, ↓lcq_map, lcq_map, lcq_flt, lcq_all, lcq_fltc, lcq_allc, imR_e, ife_t, ife_f, andE_j, orE_j, andT_j, orT_j, ifV_j, andE_t, andE_f, orE_t, orE_f, andT_t, andT_f, orT_t, orT_f, ifV_t, ifV_f, blsI_m, intsI_m, intsI_i, blsI_0, intsI_0, blsI_1, blsI_2, blsI_3, blsI_4, szd_lt, szd_le, dr_le, dr_lt, dr_leN, dr_ltN, mulc_l, mulc_r, ifc_y, ifc_no, exI_int, zipIdx_m, zip_m, dec_and, dec_or, dec_not, List.length_map, List.length_range, List.length_zipIdx, List.length_zip, and_self, closed, Bool.and_true, Bool.true_and, Bool.and_false, Bool.false_and, Bool.or_true, Bool.true_or, Bool.or_false, Bool.false_or, cond_true, cond_false, Bool.not_not, Int.zero_add, List.all_cons, List.all_nil, List.any_cons, List.any_nil, allIm_ims, List.append_nil, seqOf, k1_e, k1X_e, ow1, lo0, tyT, excOf, Option.getD_none, Option.getD_some, isI_a, isI_b, isI_c, isI_d, isI_e, isI_f, isI_g, isI_h, isI_i, List.take_succ_cons, List.take_zero, ↓reduceIte, Nat.reduceEqDiff, frG, frL, frLs, frM, ↓oReprR_e, D.flt, datM, List.getElem?_concat_length, set_concat, Nat.add_zero, ↓ifp_i, ifb_t, ifb_f, ifb_d, ifb_n, ifc_t, ifc_f, ifc_n, exI_s, kw_K, kD_im, kD_ow, kD_im2, kD_tp, kDX_e, kP_e, kF_e, renL, renM, flatM, Int.reduceLT, Int.reduceLE, Int.reduceAdd, Int.reduceSub, Int.reduceMul, Int.reduceNeg, Int.reduceEq, Int.reduceNe, ↓rFz_e, ↓rFor_e, ↓rLcB_e, outF_e, outO_e, ↓rVar_e, ↓rCon_e, ↓qOp_e, ↓qUn_e, ↓qCa_e, ↓rNil_e, ↓rCons_e, ↓rTup_e, ↓rLst_e, ↓rLstO_e, ↓rB_e, ↓rAndT_j, ↓rOrT_j, ↓rNotT_e, ↓rAndV_j, ↓rOrV_j, ↓rNotV_e, ↓rIfE_j, ↓rChain_j, ↓rNext_e, ↓rSeq_e, ↓rDrop_e, ↓rRet_e, ↓rIf_e, ↓rNever_e, ↓rName_e, ↓rGNil_e, ↓rGCons_e, ↓rGTup_e, ↓rGSub_e, ↓rAsg_e, ↓rPar_e, ↓rYes_e, ↓oEqG_e, ↓oI_e, ↓oI0_e, ↓oNeg_e, ↓oAdd_e, ↓oMul_e, ↓oIn_e, ↓oIx_e, ↓rONone_e, ↓rOSome_e, ↓rSl_e, ↓oLen_e, ↓oInt_e, ↓oMin_e, ↓oMax_e, ↓oSum_e, ↓oBls_e, ↓oList_e, ↓oTuple_e, ↓oSorted_i, ↓oStr_e, ↓oIsi_e, ↓rIList_e, ↓rITup_e, ↓rIRan1_e, ↓rIEnum_e, ↓rMe_e, ↓rMe0_e, ↓oAppend_e, ↓oExtend_e, ↓oPopAt_e, ↓rLstRg_e, ↓rStar_e, ↓rCallD_e, ↓rCallP_e, ↓rIs_e, all_map, any_map, List.getElem?_cons_zero, List.getElem?_cons_succ, List.getElem?_nil, List.set_cons_zero, List.set_cons_succ, List.length_cons, List.length_nil, allIm, id_eq, Bool.not_true, Bool.not_false, Option.map_some, Option.map_none, isi_int_int, kb_int_int, isi_int_bool, kb_int_bool, isi_int_list, kb_int_list, isi_int_tuple, kb_int_tuple, isi_int_str, kb_int_str, isi_int_dict, kb_int_dict, isi_bool_int, kb_bool_int, isi_bool_bool, kb_bool_bool, isi_bool_list, kb_bool_list, isi_bool_tuple, kb_bool_tuple, isi_bool_str, kb_bool_str, isi_bool_dict, kb_bool_dict, isi_list_int, kb_list_int, isi_list_bool, kb_list_bool, isi_list_list, kb_list_list, isi_list_tuple, kb_list_tuple, isi_list_str, kb_list_str, isi_list_dict, kb_list_dict, isi_tuple_int, kb_tuple_int, isi_tuple_bool, kb_tuple_bool, isi_tuple_list, kb_tuple_list, isi_tuple_tuple, kb_tuple_tuple, isi_tuple_str, kb_tuple_str, isi_tuple_dict, kb_tuple_dict, isi_str_int, kb_str_int, isi_str_bool, kb_str_bool, isi_str_list, kb_str_list, isi_str_tuple, kb_str_tuple, isi_str_str, kb_str_str, isi_str_dict, kb_str_dict, isi_dict_int, kb_dict_int, isi_dict_bool, kb_dict_bool, isi_dict_list, kb_dict_list, isi_dict_tuple, kb_dict_tuple, isi_dict_str, kb_dict_str, isi_dict_dict, kb_dict_dict, isi_NoneType_int, kb_NoneType_int, isi_NoneType_bool, kb_NoneType_bool, isi_NoneType_list, kb_NoneType_list, isi_NoneType_tuple, kb_NoneType_tuple, isi_NoneType_str, kb_NoneType_str, isi_NoneType_dict, kb_NoneType_dict, sl_0, st_0, sl_1, st_1, sl_2, st_2, sl_3, st_3, sl_4, st_4, sl_5, st_5, sl_6, st_6, sl_7, st_7, sl_8, st_8, sl_9, st_9, sl_10, st_10, sl_11, st_11, sl_12, st_12, sl_13, st_13, sl_14, st_14, sl_15, st_15, sl_16, st_16, isTy_l, decide_true, decide_false, unows, unow, wipeG, gam0_e, List.map_cons, List.map_nil, repl_s, List.replicate_zero, List.cons_append, List.nil_append, tyL, D.tyn, Option.some.injEq, exists_eq_left, exists_eq_left', exists_eq_right, true_and, and_true, not_true_eq_false, not_false_eq_true, reduceCtorEq, Nat.reduceAdd, Nat.reduceSub, Nat.reduceLT, false_implies, true_implies, implies_true, forall_const, eq_self_iff_true, snap, lenOf, eqk, Bool.not_eq_true, decide_eq_true_eq, decide_eq_false_iff_not, Decidable.not_not, rangeD_len])
local macro_rules | `(tactic| walk_at "u") => `(tactic| (simp only [Option.isSome_some, Option.isSome_none, jn_e, jt_e]; walk_at "s"))
local macro_rules | `(tactic| walk_at "menu") => `(tactic| (simp only [List.forall_mem_cons, List.forall_mem_nil, List.not_mem_nil, false_implies, implies_true, D.int.injEq, exists_eq_left', and_true]; omega))
local macro_rules | `(tactic| walk_at "len") => `(tactic| (simp only [List.length_cons, List.length_nil, List.length_map, List.length_append]; omega))
local macro_rules | `(tactic| walk_at "d") => `(tactic| (refine draw_ok (by assumption) (by omega) (by omega) (by omega) ?_; intro _ _ _ _ _ _; walk_at "s"))
def sp_Cover_eq : DSp := fun ls M Kd _ => ∃ (n n' : Int) (gs gs' : List (List Int)), ls = [.im (cvI n gs), .im (cvI n' gs')] ∧ M = [] ∧ Kd (.im (.bl (decide (n = n' ∧ gs = gs')))) []
theorem len_Cover_eq : ∀ ls M Kd Ed, sp_Cover_eq ls M Kd Ed → ls.length = 2 := fun ls M Kd Ed ⟨_, _, _, _, e, _⟩ => by rw [e]; rfl
def n_Cover_eq : List Str := ["self", "other"]
def rd_Cover_eq (ex : EX) : RS := (rRet (rAndV (rIs tbl [(.o "Cover")] (rVar 1)) (rAndV (qOp oEq (rFld ["Cover"] "known" (rVar 0)) (rFld ["Cover"] "known" (rVar 1))) (qOp oEq (rFld ["Cover", "Film"] "mixtures" (rVar 0)) (rFld ["Cover", "Film"] "mixtures" (rVar 1))))))
theorem m_Cover_eq : MtX sp_Cover_eq rd_Cover_eq n_Cover_eq := fun {ls M Kd Ed} h => by
  obtain ⟨n, n', gs, gs', rfl, rfl, k⟩ := h
  unfold rd_Cover_eq n_Cover_eq
  walk_at "s"
  exact back0 k
def sp_Film_eq : DSp := fun ls M Kd _ => ∃ (w : Nat) (fs : List Frm) (gs : List (List Int)), ls = [.im (filmI w fs gs), .im (filmI w fs gs)] ∧ M = [] ∧ FmOk w fs gs ∧ Kd (.im (.bl true)) []
theorem len_Film_eq : ∀ ls M Kd Ed, sp_Film_eq ls M Kd Ed → ls.length = 2 := fun ls M Kd Ed ⟨_, _, _, e, _⟩ => by rw [e]; rfl
theorem fit_fm {w : Nat} {fs : List Frm} {gs : List (List Int)} (fo : FmOk w fs gs) : (D.lst (fs.map fmD)).fit = true ∧ (D.lst (fs.map fmD)).dep ≤ 64 := by
  have hl : fs.length ≤ 24 := by
    have h1 := flat_len (fs := fs) fun f hf => by
      obtain ⟨j, hj⟩ := List.mem_iff_getElem?.mp hf
      exact (fo.fr j f hj).ne
    have h2 := fo.cv.n1
    omega
  have q : Ft 4 8500000000 (D.lst (fs.map fmD)) := (ft_lst (k := 3) (m := 800000) 24 (fun d hd => by
    obtain ⟨f, hf, rfl⟩ := List.mem_map.mp hd
    obtain ⟨j, hj⟩ := List.mem_iff_getElem?.mp hf
    have hjl := (List.getElem?_eq_some_iff.mp hj).1
    have ho := fo.fr j f hj
    refine (ft_tup (ds := [D.tup (f.1.map pkD), D.tup (f.2.map D.int)]) (k := 2) (m := 350004) 2 (fun x hx => ?_) (Nat.le_refl 2)).up
    simp only [List.mem_cons, List.not_mem_nil, or_false] at hx
    rcases hx with rfl | rfl
    · exact ft_pks fo.w8 ho.pk ho.ln
    · rcases ho.rf with h | h
      · rw [h]; exact (ft_tup (ds := []) (k := 0) (m := 41) 1 (fun _ h => nomatch h) (by decide)).up
      · have hlen := h.len (by omega)
        exact (ft_tup (k := 0) (m := 41) 30 (fun y hy => by
          obtain ⟨i, hi, rfl⟩ := List.mem_map.mp hy
          have := h.rg i hi
          exact ft_int (by omega)) (by rw [List.length_map]; omega)).up) (by rw [List.length_map]; exact hl)).up
  exact ⟨q.1, Nat.le_trans q.2.1 (by decide)⟩
def n_Film_eq : List Str := ["self", "other"]
def rd_Film_eq (ex : EX) : RS := (rSeq (rIf (rOrT (rNotT (rB (rIs tbl [(.o "Film")] (rVar 1)))) (rOrT (rB (qOp oNe (rFld ["Film"] "width" (rVar 0)) (rFld ["Film"] "width" (rVar 1)))) (rB (qOp oNe (rFld ["Film"] "rows" (rVar 0)) (rFld ["Film"] "rows" (rVar 1)))))) (rRet (rCon (.bl false))) rNext)
  (rRet (qOp (oEqO "Cover" sp_Cover_eq) (rFld ["Cover", "Film"] "mixtures" (rVar 0)) (rFld ["Cover", "Film"] "mixtures" (rVar 1)))))
theorem m_Film_eq : MtX sp_Film_eq rd_Film_eq n_Film_eq := fun {ls M Kd Ed} h => by
  obtain ⟨w, fs, gs, rfl, rfl, fo, k⟩ := h
  unfold rd_Film_eq n_Film_eq
  walk_at "s"
  have hfit := fit_fm fo
  refine orT_of (fun z => nomatch z) fun _ => orT_of (fun z => nomatch z) fun _ => ?_
  refine ⟨okd_fit hfit.1 hfit.2, okd_fit hfit.1 hfit.2, ?_⟩
  rw [eqv_self hfit.1]
  walk_at "u"
  refine ⟨_, _, gs, gs, rfl, rfl, ?_⟩
  walk_at "s"
  exact back0 k
def sp_Film_cover : DSp := fun ls M Kd _ => ∃ (w : Nat) (fs : List Frm) (gs : List (List Int)), ls = [.im (filmI w fs gs)] ∧ M = [] ∧ Kd (.im (cvI (flatF fs).length gs)) []
theorem len_Film_cover : ∀ ls M Kd Ed, sp_Film_cover ls M Kd Ed → ls.length = 1 := fun ls M Kd Ed ⟨_, _, _, e, _⟩ => by rw [e]; rfl
def n_Film_cover : List Str := ["self"]
def rd_Film_cover (ex : EX) : RS := (rRet (rFld ["Cover", "Film"] "mixtures" (rVar 0)))
theorem m_Film_cover : MtX sp_Film_cover rd_Film_cover n_Film_cover := fun {ls M Kd Ed} h => by
  obtain ⟨w, fs, gs, rfl, rfl, k⟩ := h
  unfold rd_Film_cover n_Film_cover
  walk_at "s"
  exact back0 k
def sp_Film_size : DSp := fun ls M Kd _ => ∃ (w : Nat) (fs : List Frm) (gs : List (List Int)), ls = [.im (filmI w fs gs)] ∧ M = [] ∧ Kd (.im (.int (w : Nat))) []
theorem len_Film_size : ∀ ls M Kd Ed, sp_Film_size ls M Kd Ed → ls.length = 1 := fun ls M Kd Ed ⟨_, _, _, e, _⟩ => by rw [e]; rfl
def n_Film_size : List Str := ["self"]
def rd_Film_size (ex : EX) : RS := (rRet (rFld ["Film"] "width" (rVar 0)))
theorem m_Film_size : MtX sp_Film_size rd_Film_size n_Film_size := fun {ls M Kd Ed} h => by
  obtain ⟨w, fs, gs, rfl, rfl, k⟩ := h
  unfold rd_Film_size n_Film_size
  walk_at "s"
  exact back0 k
def okI (n : Int) : D → Bool
  | .int i => decide (0 ≤ i ∧ i < n)
  | _ => false
def D.toI : D → Int
  | .int i => i
  | _ => 0
theorem toI_ints (ns : List Int) : (ns.map D.int).map D.toI = ns := by
  rw [List.map_map]
  exact (List.map_congr_left fun x _ => rfl).trans (List.map_id ns)
theorem all_okI {n : Int} : ∀ {ds : List D}, ds.all (okI n) = true → ∃ zs : List Int, ds = zs.map D.int ∧ ∀ x ∈ zs, 0 ≤ x ∧ x < n
  | [], _ => ⟨[], rfl, by simp⟩
  | d :: ds, h => by
    rw [List.all_cons, Bool.and_eq_true] at h
    obtain ⟨zs, rfl, hz⟩ := all_okI h.2
    cases d with
    | int i => exact ⟨i :: zs, rfl, List.forall_mem_cons.mpr ⟨of_decide_eq_true h.1, hz⟩⟩
    | _ => exact Bool.noConfusion h.1
def incB : List Int → Bool
  | a :: b :: r => decide (a < b) && incB (b :: r)
  | _ => true
theorem incB_pw : ∀ {zs : List Int}, incB zs = true ↔ zs.Pairwise (· < ·)
  | [] => ⟨fun _ => List.Pairwise.nil, fun _ => rfl⟩
  | [a] => ⟨fun _ => List.pairwise_singleton _ _, fun _ => rfl⟩
  | a :: b :: r => by
    have ih := incB_pw (zs := b :: r)
    show (decide (a < b) && incB (b :: r)) = true ↔ _
    rw [Bool.and_eq_true, decide_eq_true_eq, ih]
    constructor
    · rintro ⟨h, p⟩
      refine List.pairwise_cons.mpr ⟨fun x hx => ?_, p⟩
      rcases List.mem_cons.mp hx with rfl | hx
      · exact h
      · have := (List.pairwise_cons.mp p).1 x hx
        omega
    · intro q
      obtain ⟨h, p⟩ := List.pairwise_cons.mp q
      exact ⟨h b List.mem_cons_self, p⟩
theorem isI_ints : ∀ {ds : List D}, ds.all D.isI = true → ∃ zs : List Int, ds = zs.map D.int
  | [], _ => ⟨[], rfl⟩
  | d :: ds, h => by
    rw [List.all_cons, Bool.and_eq_true] at h
    obtain ⟨zs, rfl⟩ := isI_ints h.2
    cases d with
    | int i => exact ⟨i :: zs, rfl⟩
    | _ => exact Bool.noConfusion h.1
theorem okI_isI {n : Int} {ds : List D} (h : ds.all D.isI = false) : ds.all (okI n) = false := by
  rw [Bool.eq_false_iff] at h ⊢
  intro z
  obtain ⟨zs, rfl, _⟩ := all_okI z
  exact h (by rw [List.all_map, List.all_eq_true]; exact fun _ _ => rfl)
theorem last_max {zs : List Int} (hp : zs.Pairwise (· < ·)) (h : zs ≠ []) : ∃ l ∈ zs, atI (zs.map D.int) (-1) = some (.int l) ∧ ∀ x ∈ zs, x ≤ l := by
  have hl : 0 < zs.length := List.length_pos_iff.mpr h
  refine ⟨zs[zs.length - 1], List.getElem_mem _, ?_, fun x hx => ?_⟩
  · unfold atI ixN
    rw [if_neg (by decide), if_pos (by rw [List.length_map]; omega)]
    show (zs.map D.int)[((-1 : Int) + ((zs.map D.int).length : Int)).toNat]? = _
    rw [List.length_map, show ((-1 : Int) + (zs.length : Int)).toNat = zs.length - 1 from by omega, List.getElem?_map, List.getElem?_eq_getElem (by omega)]
    rfl
  · obtain ⟨i, hi, rfl⟩ := List.mem_iff_getElem.mp hx
    by_cases e : i = zs.length - 1
    · subst e; exact Int.le_refl _
    · exact Int.le_of_lt (List.pairwise_iff_getElem.mp hp i (zs.length - 1) hi (by omega) (by omega))
def gpB (n : Int) : D → Bool
  | .tup ds => !ds.isEmpty && (ds.all (okI n) && incB (ds.map D.toI))
  | _ => false
def Vt (d : D) : Prop := d.tyn.isSome = true ∧ ∀ ds, d = .tup ds → ds.length < 64 ∧ ∀ x ∈ ds, x.tyn.isSome = true
def sp_is_setA : DSp := fun ls M Kd _ => ∃ (d : D) (n : Int), ls = [.im d, .im (.int n)] ∧ M = [] ∧ Vt d ∧ Kd (.im (.bl (gpB n d))) []
theorem len_is_setA : ∀ ls M Kd Ed, sp_is_setA ls M Kd Ed → ls.length = 2 := fun ls M Kd Ed ⟨_, _, e, _⟩ => by rw [e]; rfl
def n_is_setA : List Str := ["thing", "count", "number"]
def rd_is_setA (ex : EX) : RS := (rSeq (rIf (rOrT (rNotT (rB (qUn (oIsi "tuple") (rVar 0)))) (rOrT (rB (qOp oEqT0 (rVar 0) (rTup rNil))) (rNotT (rB (qCa (oBls fun bs => bs.all _root_.id) (rCons (rLcG outF (rITup (rVar 0)) (rName 2) rYes (rCallD sp_is_integer exF (rCons (rVar 2) rNil)) [2]) rNil)))))) (rRet (rCon (.bl false))) rNext)
  (rRet (rAndV (qOp oEq (qCa (oList outF) (rCons (rVar 0) rNil)) (rSrtSet outF (rVar 0))) (rAndV (qOp oGe (qOp oIx (rVar 0) (rCon (.int 0))) (rCon (.int 0))) (qOp oLt (qOp oIx (rVar 0) (qUn oNeg (rCon (.int 1)))) (rVar 1))))))
theorem m_is_setA : MtX sp_is_setA rd_is_setA n_is_setA := fun {ls M Kd Ed} h => by
  obtain ⟨d, n, rfl, rfl, ⟨hd, ht⟩, k⟩ := h
  unfold rd_is_setA n_is_setA
  cases d
  case tup ds =>
    obtain ⟨hl, hx⟩ := ht ds rfl
    have k : Kd (.im (.bl (!ds.isEmpty && (ds.all (okI n) && incB (ds.map D.toI))))) [] := k
    walk_at "s"
    refine orT_of (fun z => nomatch z) fun _ => orT_of (fun z => ?_) fun z => ⟨fun x hx2 => hx x hx2, ?_⟩
    · rw [jt_e]
      walk_at "s"
      rw [z] at k
      exact back0 k
    · cases hI : ds.all D.isI with
      | false =>
        simp only [Bool.not_false, jt_e]
        walk_at "s"
        rw [okI_isI hI, Bool.false_and, Bool.and_false] at k
        exact back0 k
      | true =>
        obtain ⟨zs, rfl⟩ := isI_ints hI
        simp only [Bool.not_true, jt_e]
        walk_at "s"
        rw [toI_ints] at k
        rw [List.length_map] at hl
        have hne : zs ≠ [] := fun e => by rw [e] at z; cases z
        refine ⟨hl, andE_of (fun h => ?_) fun h => ?_⟩
        · have hpw : zs.Pairwise (· < ·) := by rw [of_decide_eq_true h]; exact srtU_pw zs
          obtain ⟨a, r, rfl⟩ : ∃ a r, zs = a :: r := by
            cases zs with
            | nil => exact absurd rfl hne
            | cons a r => exact ⟨a, r, rfl⟩
          refine exI_of (d := .int a) (by rw [atI_nat (by decide)]; rfl) ?_
          walk_at "s"
          have hi : incB (a :: r) = true := incB_pw.mpr hpw
          have hf : ((a :: r).map D.int).isEmpty = false := rfl
          rw [hi, Bool.and_true, hf, Bool.not_false, Bool.true_and] at k
          refine andE_of (fun h0 => ?_) fun h0 => ?_
          · have h0 := of_decide_eq_true h0
            obtain ⟨l, hl, el, hm⟩ := last_max hpw (fun z => nomatch z)
            have el : atI (D.int a :: r.map D.int) (-1) = some (.int l) := el
            refine exI_of el ?_
            walk_at "s"
            rw [show ((a :: r).map D.int).all (okI n) = decide (l < n) from by
              rw [Bool.eq_iff_iff, List.all_eq_true, decide_eq_true_eq]
              constructor
              · intro q
                have := q (.int l) (List.mem_map.mpr ⟨l, hl, rfl⟩)
                exact (of_decide_eq_true (show decide (0 ≤ l ∧ l < n) = true from this)).2
              · intro q d hd
                obtain ⟨x, hx, rfl⟩ := List.mem_map.mp hd
                have h1 := hm x hx
                have h2 : a ≤ x := by
                  rcases List.mem_cons.mp hx with rfl | hx
                  · exact Int.le_refl _
                  · exact Int.le_of_lt ((List.pairwise_cons.mp hpw).1 x hx)
                exact decide_eq_true ⟨by omega, by omega⟩] at k
            rw [jn_e]
            exact back0 k
          · have h0 := of_decide_eq_false h0
            rw [show ((a :: r).map D.int).all (okI n) = false from Bool.eq_false_iff.mpr fun q => by
              have := List.all_eq_true.mp q (.int a) List.mem_cons_self
              exact h0 (of_decide_eq_true (show decide (0 ≤ a ∧ a < n) = true from this)).1] at k
            exact back0 k
        · have hn : incB zs = false := Bool.eq_false_iff.mpr fun q => of_decide_eq_false h (srtU_self (incB_pw.mp q)).symm
          rw [hn, Bool.and_false, Bool.and_false] at k
          exact back0 k
  all_goals
    first
      | cases hd; done
      | (walk_at "s"; exact back0 k)
abbrev spS : Str := " "
abbrev nlS : Str := "\n"
abbrev numS (n : Int) : Str := Str.ofString (toString n)
def numW (x : Str) : Option Int :=
  if (1 ≤ x.length ∧ x.length ≤ 3) ∧ (∀ c ∈ x.cps.toList, 48 ≤ c ∧ c ≤ 57) ∧ x = numS (NumText.digitsVal x.cps.toList : Nat) then some ((NumText.digitsVal x.cps.toList : Nat) : Int) else none
def numD (x : Str) : D := match numW x with | some n => .int n | none => .non
theorem tl_numS {n : Int} (h : 0 ≤ n) : TL.tl (numS n) = TL.numL n.toNat := by
  obtain ⟨k, rfl⟩ : ∃ k : Nat, n = k := ⟨n.toNat, by omega⟩
  exact TL.tl_num k
theorem numS_len {n : Int} (h : 0 ≤ n) (h2 : n < 1000) : 1 ≤ (numS n).length ∧ (numS n).length ≤ 3 := by
  rw [TL.len_tl, tl_numS h]
  exact ⟨List.length_pos_iff.mpr (TL.numL_ne _), TL.numL_len (k := 3) (by decide) (by omega)⟩
theorem numW_num {n : Int} (h : 0 ≤ n) (h2 : n < 1000) : numW (numS n) = some n := by
  have e : NumText.digitsVal (numS n).cps.toList = n.toNat := by
    rw [show (numS n).cps.toList = TL.numL n.toNat from tl_numS h]
    exact TL.numL_val _
  have e2 : ((n.toNat : Nat) : Int) = n := by omega
  unfold numW
  have hd : ∀ c ∈ (numS n).cps.toList, 48 ≤ c ∧ c ≤ 57 := fun c hc => by
    rw [show (numS n).cps.toList = TL.numL n.toNat from tl_numS h] at hc
    exact TL.numL_digits _ c hc
  rw [e, e2, if_pos ⟨numS_len h h2, hd, rfl⟩]
theorem numW_rg {x : Str} {n : Int} (h : numW x = some n) : 0 ≤ n ∧ n < 1000 ∧ x = numS n := by
  unfold numW at h
  split at h
  · rename_i q
    obtain ⟨⟨h1, h3⟩, hd, e⟩ := q
    cases h
    refine ⟨by omega, ?_, e⟩
    rw [TL.len_tl] at h3
    have hd : ∀ c ∈ TL.tl x, 48 ≤ c ∧ c ≤ 57 := hd
    show ((NumText.digitsVal (TL.tl x) : Nat) : Int) < 1000
    generalize TL.tl x = l at h3 hd
    match l, h3, hd with
    | [], _, _ => decide
    | [a], _, hd =>
      have := hd a (by simp)
      show (((0 * 10 + (a - 48) : Nat)) : Int) < 1000
      omega
    | [a, b], _, hd =>
      have := hd a (by simp)
      have := hd b (by simp)
      show ((((0 * 10 + (a - 48)) * 10 + (b - 48) : Nat)) : Int) < 1000
      omega
    | [a, b, c], _, hd =>
      have := hd a (by simp)
      have := hd b (by simp)
      have := hd c (by simp)
      show (((((0 * 10 + (a - 48)) * 10 + (b - 48)) * 10 + (c - 48) : Nat)) : Int) < 1000
      omega
    | a :: b :: c :: d :: r, h, _ => simp at h
  · cases h
theorem numD_num {n : Int} (h : 0 ≤ n) (h2 : n < 1000) : numD (numS n) = .int n := by unfold numD; rw [numW_num h h2]
def lineS (w : Str) (ns : List Int) : Str := Txt.join spS (w :: ns.map numS)
def textS (ls : List Str) : Str := Txt.join nlS ls
theorem joinL_mem {S : List Nat} {c : Nat} : ∀ {ps : List (List Nat)}, c ∈ TL.joinL S ps → c ∈ S ∨ ∃ p ∈ ps, c ∈ p
  | [], h => nomatch h
  | [p], h => .inr ⟨p, by simp, h⟩
  | p :: q :: r, h => by
    rcases List.mem_append.mp h with h | h
    · exact .inr ⟨p, by simp, h⟩
    · rcases List.mem_append.mp h with h | h
      · exact .inl h
      · rcases joinL_mem h with h | ⟨z, hz, hc⟩
        · exact .inl h
        · exact .inr ⟨z, List.mem_cons_of_mem _ hz, hc⟩
theorem joinL_len {S : List Nat} : ∀ {ps : List (List Nat)}, (TL.joinL S ps).length ≤ (ps.map List.length).sum + ps.length * S.length
  | [] => Nat.zero_le _
  | [p] => by simp [TL.joinL]
  | p :: q :: r => by
    have ih := joinL_len (S := S) (ps := q :: r)
    show (p ++ (S ++ TL.joinL S (q :: r))).length ≤ _
    rw [List.length_append, List.length_append, List.map_cons, List.sum_cons, List.length_cons (a := p), Nat.add_mul, Nat.one_mul]
    omega
theorem tl_sp : TL.tl spS = [32] := by decide +kernel
theorem tl_nl : TL.tl nlS = [10] := by decide +kernel
theorem tl_line (w : Str) (ns : List Int) : TL.tl (lineS w ns) = TL.joinL [32] ((w :: ns.map numS).map TL.tl) := by
  unfold lineS
  rw [TL.join_eq, TL.tl_join, tl_sp]
theorem split_line {w : Str} {ns : List Int} (hw : 32 ∉ TL.tl w) (hn : ∀ n ∈ ns, 0 ≤ n) : Txt.split (lineS w ns) spS = w :: ns.map numS :=
  TL.split_join tl_sp (by decide +kernel) (by simp) fun p hp => by
    rcases List.mem_cons.mp hp with rfl | hp
    · exact hw
    · obtain ⟨n, hm, rfl⟩ := List.mem_map.mp hp
      rw [tl_numS (hn n hm)]
      exact TL.numL_free (by omega)
theorem line_nl {w : Str} {ns : List Int} (hw : 10 ∉ TL.tl w) (hn : ∀ n ∈ ns, 0 ≤ n) : 10 ∉ TL.tl (lineS w ns) := fun h => by
  rw [tl_line] at h
  rcases joinL_mem h with h | ⟨p, hp, hc⟩
  · simp at h
  · obtain ⟨y, hy, rfl⟩ := List.mem_map.mp hp
    rcases List.mem_cons.mp hy with rfl | hy
    · exact hw hc
    · obtain ⟨n, hm, rfl⟩ := List.mem_map.mp hy
      rw [tl_numS (hn n hm)] at hc
      exact TL.numL_free (by omega) hc
theorem sum_le_mul {l : List Nat} {b : Nat} (h : ∀ x ∈ l, x ≤ b) : l.sum ≤ l.length * b := by
  induction l with
  | nil => exact Nat.zero_le _
  | cons x r ih =>
    have h1 := h x List.mem_cons_self
    have h2 := ih fun y hy => h y (List.mem_cons_of_mem _ hy)
    rw [List.sum_cons, List.length_cons, Nat.add_mul, Nat.one_mul]
    omega
theorem numS_sum {ns : List Int} (hn : ∀ n ∈ ns, 0 ≤ n ∧ n < 1000) : ((ns.map numS).map (·.length)).sum ≤ ns.length * 3 := by
  have := sum_le_mul (l := (ns.map numS).map (·.length)) (b := 3) fun x hx => by
    obtain ⟨y, hy, rfl⟩ := List.mem_map.mp hx
    obtain ⟨n, hm, rfl⟩ := List.mem_map.mp hy
    exact (numS_len (hn n hm).1 (hn n hm).2).2
  simpa using this
theorem line_len {w : Str} {ns : List Int} (hw : w.length ≤ 10) (hl : ns.length ≤ 30) (hn : ∀ n ∈ ns, 0 ≤ n ∧ n < 1000) : (lineS w ns).length ≤ 200 := by
  rw [TL.len_tl, tl_line]
  have h1 := joinL_len (S := [32]) (ps := (w :: ns.map numS).map TL.tl)
  have h2 := numS_sum hn
  have e : (((w :: ns.map numS).map TL.tl).map List.length) = w.length :: (ns.map numS).map (·.length) := by
    rw [List.map_map, List.map_cons, Function.comp_apply, ← TL.len_tl]
    congr 1
    try exact List.map_congr_left fun x _ => (TL.len_tl x).symm
  rw [e, List.sum_cons, List.length_map, List.length_cons, List.length_map] at h1
  simp only [List.length_singleton] at h1
  omega
theorem split_text {ls : List Str} (hne : ls ≠ []) (h : ∀ l ∈ ls, 10 ∉ TL.tl l) : Txt.split (textS ls) nlS = ls := TL.split_join tl_nl (by decide +kernel) hne h
theorem text_len {ls : List Str} (h : ∀ l ∈ ls, l.length ≤ 200) : (textS ls).length ≤ ls.length * 201 := by
  unfold textS
  rw [TL.len_tl, TL.join_eq, TL.tl_join, tl_nl]
  have h1 := joinL_len (S := [10]) (ps := ls.map TL.tl)
  have h2 := sum_le_mul (l := (ls.map TL.tl).map List.length) (b := 200) fun x hx => by
    obtain ⟨y, hy, rfl⟩ := List.mem_map.mp hx
    obtain ⟨z, hz, rfl⟩ := List.mem_map.mp hy
    rw [← TL.len_tl]
    exact h z hz
  simp only [List.length_map, List.length_singleton] at h1 h2
  omega
def setB (n : Int) (ns : List Int) : Bool := !ns.isEmpty && (ns.all (fun x => decide (0 ≤ x ∧ x < n)) && incB ns)
theorem gpB_set {n : Int} (ns : List Int) : gpB n (.tup (ns.map D.int)) = setB n ns := by
  show (!(ns.map D.int).isEmpty && ((ns.map D.int).all (okI n) && incB ((ns.map D.int).map D.toI))) = _
  rw [toI_ints, List.all_map]
  unfold setB
  cases ns <;> rfl
theorem setB_ok {n : Int} {ns : List Int} (h : GOk n ns) : setB n ns = true := by
  unfold setB
  rw [Bool.and_eq_true, Bool.and_eq_true, Bool.not_eq_true', List.all_eq_true]
  refine ⟨?_, fun x hx => decide_eq_true (h.rg x hx), incB_pw.mpr h.pw⟩
  cases ns with
  | nil => exact absurd rfl h.ne
  | cons a r => rfl
abbrev Rst := List Frm × List (List Int)
def opnR (fs : List Frm) : Bool := match fs.getLast? with
  | some f => f.1.isEmpty
  | none => false
def takF (s : Rst) (ns : List Int) : Bool × Rst := if opnR s.1 || (!s.2.isEmpty || decide ((flatF s.1).length = 24)) then (false, s) else (ns.isEmpty || setB s.1.length ns, (s.1 ++ [([], ns)], s.2))
def putP (fs : List Frm) (ns : List Int) : List Frm := match fs.getLast? with
  | some f => fs.dropLast ++ [(f.1 ++ [ns], f.2)]
  | none => fs
def takP (w : Nat) (s : Rst) (ns : List Int) : Bool × Rst := if s.1.isEmpty || (!s.2.isEmpty || (decide ((flatF s.1).length = 24) || !decide (ns.length = w))) then (false, s) else (ns.all (fun x => decide (x ≤ 255)), (putP s.1 ns, s.2))
def takS (s : Rst) (ns : List Int) : Bool × Rst := if opnR s.1 || decide (s.2.length = 16) then (false, s) else (setB (flatF s.1).length ns, (s.1, s.2 ++ [ns]))
def redW (w : Nat) (s : Rst) (ws : List Str) : Bool × Rst :=
  if (ws.drop 1).any (fun x => (numW x).isNone) then (false, s) else
  if ws.head? = some ("frame" : Str) then takF s ((ws.drop 1).filterMap numW) else
  if ws.head? = some ("packet" : Str) then takP w s ((ws.drop 1).filterMap numW) else
  if ws.head? = some ("set" : Str) then takS s ((ws.drop 1).filterMap numW) else (false, s)
def redL (w : Nat) (s : Rst) (l : Str) : Bool × Rst := redW w s (Txt.split l spS)
def redAll (w : Nat) : Rst → List Str → Option Rst
  | s, [] => some s
  | s, l :: ls => if (redL w s l).1 = true then redAll w (redL w s l).2 ls else none
theorem redAll_app (w : Nat) : ∀ (a b : List Str) (s : Rst), redAll w s (a ++ b) = (redAll w s a).bind fun t => redAll w t b
  | [], b, s => rfl
  | l :: a, b, s => by
    show (if (redL w s l).1 = true then redAll w (redL w s l).2 (a ++ b) else none) = (if (redL w s l).1 = true then redAll w (redL w s l).2 a else none).bind _
    split
    · exact redAll_app w a b _
    · rfl
/-- the lines of a film -/
def frmL (f : Frm) : List Str := lineS "frame" f.2 :: f.1.map (lineS "packet")
def rowsL (fs : List Frm) (gs : List (List Int)) : List Str := fs.flatMap frmL ++ gs.map (lineS "set")
def filmL (w : Nat) (fs : List Frm) (gs : List (List Int)) : List Str := lineS "size" [(w : Int)] :: rowsL fs gs
theorem redL_line {w : Nat} {s : Rst} {h : Str} {ns : List Int} (hh : 32 ∉ TL.tl h) (hn : ∀ n ∈ ns, 0 ≤ n ∧ n < 1000) : redL w s (lineS h ns) =
    if h = ("frame" : Str) then takF s ns else if h = ("packet" : Str) then takP w s ns else if h = ("set" : Str) then takS s ns else (false, s) := by
  have e1 : (ns.map numS).any (fun x => (numW x).isNone) = false := by
    rw [List.any_map, List.any_eq_false]
    intro n hm
    show ¬ (numW (numS n)).isNone = true
    rw [numW_num (hn n hm).1 (hn n hm).2]
    exact fun z => nomatch z
  have e2 : (ns.map numS).filterMap numW = ns := by
    clear e1
    induction ns with
    | nil => rfl
    | cons n r ih =>
      have h1 := hn n List.mem_cons_self
      rw [List.map_cons, List.filterMap_cons, numW_num h1.1 h1.2, ih fun m hm => hn m (List.mem_cons_of_mem _ hm)]
  unfold redL redW
  rw [split_line hh fun n hm => (hn n hm).1, List.drop_succ_cons, List.drop_zero, e1, e2, List.head?_cons]
  simp only [Option.some.injEq, Bool.false_eq_true, if_false]
theorem tl_frame : TL.tl ("frame" : Str) = [102, 114, 97, 109, 101] := by decide +kernel
theorem tl_packet : TL.tl ("packet" : Str) = [112, 97, 99, 107, 101, 116] := by decide +kernel
theorem tl_set : TL.tl ("set" : Str) = [115, 101, 116] := by decide +kernel
theorem tl_size : TL.tl ("size" : Str) = [115, 105, 122, 101] := by decide +kernel
theorem opn_app {fs : List Frm} {f : Frm} : opnR (fs ++ [f]) = f.1.isEmpty := by
  unfold opnR
  rw [List.getLast?_append, List.getLast?_singleton]
  rfl
theorem put_app {fs : List Frm} {f : Frm} {ns : List Int} : putP (fs ++ [f]) ns = fs ++ [(f.1 ++ [ns], f.2)] := by
  unfold putP
  rw [List.getLast?_append, List.getLast?_singleton, List.dropLast_concat]
  rfl
theorem red_packets {w : Nat} : ∀ (ps : List (List Int)) (fs : List Frm) (qs : List (List Int)) (rs : List Int), 1 ≤ w → w ≤ 8 → (∀ p ∈ ps, PkOk w p) → (flatF fs).length + qs.length + ps.length ≤ 24 →
    redAll w (fs ++ [(qs, rs)], []) (ps.map (lineS "packet")) = some (fs ++ [(qs ++ ps, rs)], [])
  | [], fs, qs, rs, _, _, _, _ => by rw [List.append_nil]; rfl
  | p :: ps, fs, qs, rs, h1, h8, hp, hl => by
    have hpk := hp p List.mem_cons_self
    rw [List.length_cons] at hl
    have hfl : (flatF (fs ++ [(qs, rs)])).length = (flatF fs).length + qs.length := by
      unfold flatF
      rw [List.flatMap_append, List.length_append, List.flatMap_cons, List.flatMap_nil, List.append_nil]
    have e : redL w (fs ++ [(qs, rs)], []) (lineS "packet" p) = (true, (fs ++ [(qs ++ [p], rs)], [])) := by
      rw [redL_line (by rw [tl_packet]; decide) fun n hn => by have := hpk.2 n hn; omega, if_neg (by decide), if_pos rfl]
      unfold takP
      rw [if_neg, put_app]
      · rw [List.all_eq_true.mpr fun x hx => decide_eq_true (hpk.2 x hx).2]
      · have hz : (fs ++ [(qs, rs)]).isEmpty = false := by cases fs <;> rfl
        simp only [hz, List.isEmpty_nil, Bool.not_true, Bool.false_or, hfl, hpk.1, decide_true, Bool.or_false, decide_eq_true_eq]
        omega
    show (if (redL w (fs ++ [(qs, rs)], []) (lineS "packet" p)).1 = true then redAll w (redL w (fs ++ [(qs, rs)], []) (lineS "packet" p)).2 (ps.map (lineS "packet")) else none) = _
    rw [e, if_pos rfl, red_packets ps fs (qs ++ [p]) rs h1 h8 (fun q hq => hp q (List.mem_cons_of_mem _ hq)) (by rw [List.length_append, List.length_singleton]; omega), List.append_assoc]
    rfl
theorem opn_false {fs : List Frm} (h : ∀ f ∈ fs, f.1 ≠ []) : opnR fs = false := by
  unfold opnR
  cases e : fs.getLast? with
  | none => rfl
  | some f =>
    have := h f (List.mem_of_getLast? e)
    show f.1.isEmpty = false
    cases z : f.1 with
    | nil => exact absurd z this
    | cons a b => rfl
theorem red_frame {w : Nat} {fs : List Frm} {f : Frm} (h1 : 1 ≤ w) (h8 : w ≤ 8) (hne : ∀ f ∈ fs, f.1 ≠ []) (fo : FrmOk w fs.length f) (hj : fs.length ≤ 24) (hl : (flatF fs).length + f.1.length ≤ 24) :
    redAll w (fs, []) (frmL f) = some (fs ++ [f], []) := by
  obtain ⟨ps, rs⟩ := f
  have hr : ∀ x ∈ rs, 0 ≤ x ∧ x < 1000 := fun x hx => by
    rcases fo.rf with h | h
    · have h : rs = [] := h
      rw [h] at hx
      cases hx
    · have := h.rg x hx
      omega
  have hps : 0 < ps.length := List.length_pos_iff.mpr fo.ne
  have hl : (flatF fs).length + ps.length ≤ 24 := hl
  have e : redL w (fs, []) (lineS "frame" rs) = (true, (fs ++ [([], rs)], [])) := by
    rw [redL_line (by rw [tl_frame]; decide) hr, if_pos rfl]
    unfold takF
    rw [if_neg]
    · have : (rs.isEmpty || setB fs.length rs) = true := by
        rcases fo.rf with h | h
        · have h : rs = [] := h
          rw [h]
          rfl
        · rw [setB_ok h, Bool.or_true]
      rw [this]
    · simp only [opn_false hne, List.isEmpty_nil, Bool.not_true, Bool.false_or, decide_eq_true_eq]
      omega
  show (if (redL w (fs, []) (lineS "frame" rs)).1 = true then redAll w (redL w (fs, []) (lineS "frame" rs)).2 (ps.map (lineS "packet")) else none) = _
  rw [e, if_pos rfl, red_packets ps fs [] rs h1 h8 fo.pk (by rw [List.length_nil]; omega), List.nil_append]
theorem red_frames {w : Nat} (h1 : 1 ≤ w) (h8 : w ≤ 8) : ∀ (fs done : List Frm), (∀ f ∈ done, f.1 ≠ []) → (∀ (j : Nat) (f : Frm), (done ++ fs)[j]? = some f → FrmOk w j f) → (flatF (done ++ fs)).length ≤ 24 →
    redAll w (done, []) (fs.flatMap frmL) = some (done ++ fs, [])
  | [], done, _, _, _ => by rw [List.append_nil]; rfl
  | f :: fs, done, hne, ho, hl => by
    have fo := ho done.length f (by rw [List.getElem?_append_right (Nat.le_refl _), Nat.sub_self]; rfl)
    have e : flatF (done ++ f :: fs) = flatF done ++ (f.1 ++ flatF fs) := by
      unfold flatF
      rw [List.flatMap_append, List.flatMap_cons]
    rw [e, List.length_append, List.length_append] at hl
    have hd := flat_len hne
    rw [List.flatMap_cons, redAll_app, red_frame h1 h8 hne fo (by omega) (by omega)]
    show redAll w (done ++ [f], []) (fs.flatMap frmL) = _
    have ea : done ++ [f] ++ fs = done ++ f :: fs := by rw [List.append_assoc]; rfl
    rw [red_frames h1 h8 fs (done ++ [f]) (fun g hg => by
      rcases List.mem_append.mp hg with hg | hg
      · exact hne g hg
      · rw [List.mem_singleton.mp hg]; exact fo.ne) (by rw [ea]; exact ho) (by rw [ea, e, List.length_append, List.length_append]; omega), ea]
theorem red_sets {w : Nat} {fs : List Frm} (hne : ∀ f ∈ fs, f.1 ≠ []) (h24 : (flatF fs).length ≤ 24) : ∀ (gs hs : List (List Int)), hs.length + gs.length ≤ 16 → (∀ g ∈ gs, GOk (flatF fs).length g) →
    redAll w (fs, hs) (gs.map (lineS "set")) = some (fs, hs ++ gs)
  | [], hs, _, _ => by rw [List.append_nil]; rfl
  | g :: gs, hs, hl, ho => by
    have go := ho g List.mem_cons_self
    rw [List.length_cons] at hl
    have e : redL w (fs, hs) (lineS "set" g) = (true, (fs, hs ++ [g])) := by
      rw [redL_line (by rw [tl_set]; decide) fun n hn => by have := go.rg n hn; omega, if_neg (by decide), if_neg (by decide), if_pos rfl]
      unfold takS
      rw [if_neg, setB_ok go]
      simp only [opn_false hne, Bool.false_or, decide_eq_true_eq]
      omega
    show (if (redL w (fs, hs) (lineS "set" g)).1 = true then redAll w (redL w (fs, hs) (lineS "set" g)).2 (gs.map (lineS "set")) else none) = _
    rw [e, if_pos rfl, red_sets hne h24 gs (hs ++ [g]) (by rw [List.length_append, List.length_singleton]; omega) fun x hx => ho x (List.mem_cons_of_mem _ hx), List.append_assoc]
    rfl
theorem red_film {w : Nat} {fs : List Frm} {gs : List (List Int)} (fo : FmOk w fs gs) : redAll w ([], []) (rowsL fs gs) = some (fs, gs) := by
  have hl := fo.ln
  unfold rowsL
  rw [redAll_app, red_frames fo.w1 fo.w8 fs [] (fun f hf => nomatch hf) (by rw [List.nil_append]; exact fo.fr) (by rw [List.nil_append]; exact hl.2)]
  show redAll w ([] ++ fs, []) _ = _
  rw [List.nil_append, red_sets fo.ne hl.2 gs [] (by have := fo.cv.ln; rw [List.length_nil]; omega) fo.cv.ok, List.nil_append]
def sp_line_of : DSp := fun ls M Kd _ => ∃ (w : Str) (ns : List Int) (d : D), ls = [.im (.str w), .im d] ∧ M = [] ∧ (d = .lst (ns.map D.int) ∨ d = .tup (ns.map D.int)) ∧ w.length ≤ 10 ∧ ns.length ≤ 30 ∧ (∀ n ∈ ns, 0 ≤ n ∧ n < 1000) ∧ Kd (.im (.str (lineS w ns))) []
theorem len_line_of : ∀ ls M Kd Ed, sp_line_of ls M Kd Ed → ls.length = 2 := fun ls M Kd Ed ⟨_, _, _, e, _⟩ => by rw [e]; rfl
theorem log_lt {n : Int} (h : 0 ≤ n) (h2 : n < 1000) : n.natAbs.log2 < 1920 := by
  have : n.natAbs.log2 ≤ n.natAbs := Nat.log2_le_self _
  omega
def n_line_of : List Str := ["word", "numbers", "number"]
def rd_line_of (ex : EX) : RS := (rRet (rMe "str" oJoin (rCon (.str " ")) (rCons (rLst (rCons (rVar 0) (rStar (rLcG outF (rISeq (rVar 1)) (rName 2) rYes (qCa oStr (rCons (rVar 2) rNil)) [2]) rNil))) rNil)))
theorem m_line_of : MtX sp_line_of rd_line_of n_line_of := fun {ls M Kd Ed} h => by
  obtain ⟨w, ns, d, rfl, rfl, hd, hw, hl, hn, k⟩ := h
  have fin : ∃ ys, (some (D.str w :: ns.map fun n => D.str (numS n))).bind strsOf = some ys ∧ (ys.map (·.length)).sum + ys.length * (" " : Str).length ≤ 16777216 ∧ ys = w :: ns.map numS := by
    refine ⟨w :: ns.map numS, ?_, ?_, rfl⟩
    · have := strsOf_map (w :: ns.map numS)
      rw [List.map_cons, List.map_map] at this
      exact this
    · have := numS_sum hn
      have e : (" " : Str).length = 1 := by decide
      rw [List.map_cons, List.sum_cons, List.length_cons, List.length_map, e]
      omega
  unfold rd_line_of n_line_of
  rcases hd with rfl | rfl
  all_goals
    walk_at "s"
    obtain ⟨ys, h1, h2, rfl⟩ := fin
    exact ⟨fun n hm => log_lt (hn n hm).1 (hn n hm).2, _, h1, h2, back0 k⟩
theorem frmL_len {w : Nat} {f : Frm} {j : Int} (hw : w ≤ 8) (fo : FrmOk w j f) (hj : j ≤ 24) : (∀ n ∈ f.2, 0 ≤ n ∧ n < 1000) ∧ f.2.length ≤ 24 := by
  rcases fo.rf with h | h
  · rw [h]
    exact ⟨(fun n hn => nomatch hn), by decide⟩
  · have j0 : 0 ≤ j := by
      obtain ⟨x, hx⟩ := List.exists_mem_of_ne_nil _ h.ne
      have := h.rg x hx
      omega
    have := h.len j0
    exact ⟨fun n hn => by have := h.rg n hn; omega, by omega⟩
theorem pk_rg {w : Nat} {p : List Int} (h : PkOk w p) : ∀ n ∈ p, 0 ≤ n ∧ n < 1000 := fun n hn => by have := h.2 n hn; omega
theorem g_rg {n : Int} {g : List Int} (h : GOk n g) (h0 : 0 ≤ n) (h2 : n ≤ 24) : (∀ x ∈ g, 0 ≤ x ∧ x < 1000) ∧ g.length ≤ 24 := ⟨fun x hx => by have := h.rg x hx; omega, by have := h.len h0; omega⟩
theorem film_lines {w : Nat} {fs : List Frm} {gs : List (List Int)} (fo : FmOk w fs gs) : (∀ l ∈ filmL w fs gs, l.length ≤ 200 ∧ 10 ∉ TL.tl l) ∧ (filmL w fs gs).length ≤ 65 := by
  have hl := fo.ln
  have h8 := fo.w8
  constructor
  · intro l hm
    unfold filmL rowsL at hm
    rcases List.mem_cons.mp hm with rfl | hm
    · exact ⟨line_len (by decide) (Nat.le_add_left 1 29) (by simp; omega), line_nl (by rw [tl_size]; decide) (by simp)⟩
    · rcases List.mem_append.mp hm with hm | hm
      · obtain ⟨f, hf, hm⟩ := List.mem_flatMap.mp hm
        obtain ⟨j, hj⟩ := List.mem_iff_getElem?.mp hf
        have fo2 := fo.fr j f hj
        have hj2 : j < fs.length := by
          rcases Nat.lt_or_ge j fs.length with z | z
          · exact z
          · rw [List.getElem?_eq_none z] at hj; cases hj
        have hr := frmL_len h8 fo2 (by omega)
        rcases List.mem_cons.mp hm with rfl | hm
        · exact ⟨line_len (by decide) (by omega) hr.1, line_nl (by rw [tl_frame]; decide) fun n hn => (hr.1 n hn).1⟩
        · obtain ⟨p, hp, rfl⟩ := List.mem_map.mp hm
          have pk := fo2.pk p hp
          exact ⟨line_len (by decide) (by rw [pk.1]; omega) (pk_rg pk), line_nl (by rw [tl_packet]; decide) fun n hn => (pk_rg pk n hn).1⟩
      · obtain ⟨g, hg, rfl⟩ := List.mem_map.mp hm
        have hr := g_rg (fo.cv.ok g hg) (by omega) (by omega)
        exact ⟨line_len (by decide) (by omega) hr.1, line_nl (by rw [tl_set]; decide) fun n hn => (hr.1 n hn).1⟩
  · have h1 : (fs.flatMap frmL).length = fs.length + (flatF fs).length := by
      clear fo hl
      unfold flatF
      induction fs with
      | nil => rfl
      | cons f r ih =>
        rw [List.flatMap_cons, List.flatMap_cons, List.length_append, List.length_append, ih, List.length_cons (as := r)]
        show (f.1.map (lineS "packet")).length + 1 + _ = _
        rw [List.length_map]
        omega
    have := fo.cv.ln
    unfold filmL rowsL
    rw [List.length_cons, List.length_append, List.length_map, h1]
    omega
def sp_format_film : DSp := fun ls M Kd _ => ∃ (w : Nat) (fs : List Frm) (gs : List (List Int)), ls = [.im (filmI w fs gs)] ∧ M = [] ∧ FmOk w fs gs ∧ Kd (.im (.str (textS (filmL w fs gs)))) []
theorem len_format_film : ∀ ls M Kd Ed, sp_format_film ls M Kd Ed → ls.length = 1 := fun ls M Kd Ed ⟨_, _, _, e, _⟩ => by rw [e]; rfl
theorem strs_len {ls : List Str} (h : (∀ l ∈ ls, l.length ≤ 200 ∧ 10 ∉ TL.tl l) ∧ ls.length ≤ 65) : (ls.map (·.length)).sum + ls.length * ("\n" : Str).length ≤ 16777216 := by
  have := sum_le_mul (l := ls.map (·.length)) (b := 200) fun x hx => by
    obtain ⟨y, hy, rfl⟩ := List.mem_map.mp hx
    exact (h.1 y hy).1
  have e : ("\n" : Str).length = 1 := by decide +kernel
  rw [List.length_map] at this
  have := h.2
  rw [e]
  omega
def n_format_film : List Str := ["film", "lines", "packets", "references", "packet", "numbers"]
def rd_format_film (ex : EX) : RS := (rSeq (rAsg (rLstO (rCons (rCallD sp_line_of ex (rCons (rCon (.str "size")) (rCons (rLst (rCons (rProp "Film" sp_Film_size (rVar 0)) rNil)) rNil))) rNil)) (rName 1))
  (rSeq (rFor (rIList (rProp "Film" sp_Film_frames (rVar 0))) (rGTup 2 (rGCons (rName 2) (rGCons (rName 3) rGNil))) (rSeq (rDrop (rMe "list" oAppend (rVar 1) (rCons (rCallD sp_line_of ex (rCons (rCon (.str "frame")) (rCons (rVar 3) rNil))) rNil)))
  (rDrop (rMe "list" oExtend (rVar 1) (rCons (rLcG outF (rITup (rVar 2)) (rName 4) rYes (rCallD sp_line_of exF (rCons (rCon (.str "packet")) (rCons (rVar 4) rNil))) [4]) rNil)))))
  (rSeq (rDrop (rMe "list" oExtend (rVar 1) (rCons (rLcG outF (rIList (rProp "Cover" sp_Cover_sets (rProp "Film" sp_Film_cover (rVar 0)))) (rName 5) rYes (rCallD sp_line_of exF (rCons (rCon (.str "set")) (rCons (rVar 5) rNil))) [5]) rNil)))
  (rRet (rMe "str" oJoin (rCon (.str "\n")) (rCons (rVar 1) rNil))))))
theorem m_format_film : MtX sp_format_film rd_format_film n_format_film := fun {ls M Kd Ed} h => by
  obtain ⟨w, fs, gs, rfl, rfl, fo, k⟩ := h
  have hl := fo.ln
  have h8 := fo.w8
  have hg := fo.cv.ln
  have hln := film_lines fo
  unfold rd_format_film n_format_film
  walk_at "s"
  refine ⟨w, fs, gs, rfl, rfl, ?_⟩
  walk_at "s"
  refine ⟨_, [(w : Int)], _, rfl, rfl, .inl rfl, by decide, Nat.le_add_left 1 29, by simp; omega, ?_⟩
  walk_at "s"
  refine ⟨w, fs, gs, rfl, rfl, fo, ?_⟩
  walk_at "s"
  refine ⟨fun i Γ' M' => ∃ a b : Option Lo, Γ' = [_, _, a, b, none, none] ∧ M' = [.li ((lineS "size" [(w : Int)] :: (fs.take i).flatMap frmL).map D.str)], ⟨none, none, rfl, rfl⟩, ?_, ?_⟩
  · intro i d Γ' M' hd hI
    obtain ⟨a, b, rfl, rfl⟩ := hI
    rw [List.getElem?_map] at hd
    obtain ⟨⟨ps, rs⟩, hf, rfl⟩ := Option.map_eq_some_iff.mp hd
    have fo2 := fo.fr i _ hf
    have hi : i < fs.length := (List.getElem?_eq_some_iff.mp hf).1
    have hr := frmL_len h8 fo2 (by omega)
    have hpl : ps.length ≤ 1000 := fo2.ln
    have hac : ((fs.take i).flatMap frmL).length ≤ 64 := by
      have h1 : ((fs.take i).flatMap frmL).length ≤ (fs.flatMap frmL).length := by
        conv => rhs; rw [← List.take_append_drop i fs]
        rw [List.flatMap_append, List.length_append]
        omega
      have h2 := hln.2
      unfold filmL rowsL at h2
      rw [List.length_cons, List.length_append] at h2
      omega
    walk_at "s"
    refine ⟨_, rs, _, rfl, rfl, .inr rfl, by decide, Nat.le_trans hr.2 (by decide), hr.1, ?_⟩
    walk_at "s"
    refine lcq_of1 (fun p => .str (lineS "packet" p)) (by omega) (fun p hp acc R R2 q => ?_) ?_
    · have pk := fo2.pk p hp
      refine ⟨_, p, _, rfl, rfl, .inr rfl, by decide, by rw [pk.1]; omega, pk_rg pk, ?_⟩
      walk_at "s"
      exact q
    · walk_at "s"
      refine ⟨_, _, rfl, ?_⟩
      rw [List.take_add_one, hf, Option.toList_some, List.flatMap_append, List.flatMap_cons, List.flatMap_nil, List.append_nil, List.map_append, List.append_assoc]
      simp only [frmL, List.map_cons, List.map_map, List.singleton_append]
      rfl
  · intro Γ' M' hI
    obtain ⟨a, b, rfl, rfl⟩ := hI
    rw [List.length_map, List.take_length]
    walk_at "s"
    refine ⟨w, fs, gs, rfl, rfl, ?_⟩
    walk_at "s"
    refine ⟨_, gs, rfl, rfl, fo.cv, ?_⟩
    walk_at "s"
    refine lcq_of1 (fun g => .str (lineS "set" g)) (by omega) (fun g hgm acc R R2 q => ?_) ?_
    · have gr := g_rg (fo.cv.ok g hgm) (by omega) (by omega)
      refine ⟨_, g, _, rfl, rfl, .inr rfl, by decide, by omega, gr.1, ?_⟩
      walk_at "s"
      exact q
    · walk_at "s"
      have e : filmL w fs gs = lineS "size" [(w : Int)] :: (fs.flatMap frmL ++ gs.map (lineS "set")) := rfl
      have h2 := hln.2
      rw [e, List.length_cons, List.length_append, List.length_map] at h2
      refine ⟨by rw [sizeLine_eq]; omega, filmL w fs gs, ?_, strs_len hln, back0 k⟩
      have := strsOf_map (filmL w fs gs)
      rw [e, List.map_cons, List.map_append, List.map_map] at this
      exact this
def sp_integer_of : DSp := fun ls M Kd _ => ∃ x : Str, ls = [.im (.str x)] ∧ M = [] ∧ x.length ≤ sizeLine ∧ Kd (.im (numD x)) []
theorem len_integer_of : ∀ ls M Kd Ed, sp_integer_of ls M Kd Ed → ls.length = 1 := fun ls M Kd Ed ⟨_, e, _⟩ => by rw [e]; rfl
def figB : D → Bool
  | .str a => a.cps.toList.all fun c => decide (48 ≤ c ∧ c ≤ 57)
  | _ => false
theorem fig_tl : ("0123456789" : Str).cps.toList = [48, 49, 50, 51, 52, 53, 54, 55, 56, 57] := by decide +kernel
theorem fig_b (c : Nat) : decide (c ∈ ("0123456789" : Str).cps.toList) = figB (.str ⟨#[c]⟩) := by
  rw [fig_tl]
  show _ = (decide (48 ≤ c ∧ c ≤ 57) && true)
  rw [Bool.and_true, decide_eq_decide]
  simp only [List.mem_cons, List.not_mem_nil, or_false]
  omega
theorem fig_all (x : Str) : (sgnD x).all figB = x.cps.toList.all fun c => decide (48 ≤ c ∧ c ≤ 57) := by
  unfold sgnD
  rw [List.all_map]
  congr 1
  funext c
  show (decide (48 ≤ c ∧ c ≤ 57) && true) = _
  rw [Bool.and_true]
def n_integer_of : List Str := ["word", "sign"]
def rd_integer_of (ex : EX) : RS := (rSeq (rIf (rOrT (rNotT (rB (rChain oLe oLe (rCon (.int 1)) (qCa oLen (rCons (rVar 0) rNil)) (rCon (.int 3))))) (rNotT (rB (qCa (oBls fun bs => bs.all _root_.id) (rCons (rLcG outF (rIStr (rVar 0)) (rName 1) rYes (qOp (oInC false) (rVar 1) (rCon (.str "0123456789"))) [1]) rNil))))) (rRet (rCon .non)) rNext)
  (rRet (rIfE (rB (qOp oEq (rVar 0) (qCa oStr (rCons (qCa oIntS (rCons (rVar 0) rNil)) rNil)))) (qCa oIntS (rCons (rVar 0) rNil)) (rCon .non))))
theorem m_integer_of : MtX sp_integer_of rd_integer_of n_integer_of := fun {ls M Kd Ed} h => by
  obtain ⟨x, rfl, rfl, hx, k⟩ := h
  unfold rd_integer_of n_integer_of
  walk_at "s"
  refine orT_of (fun z => ?_) fun z => ?_
  · have hz := of_decide_eq_true z
    have e : numD x = .non := by
      unfold numD numW
      rw [if_neg fun q => hz (by have := q.1; omega)]
    rw [e] at k
    walk_at "s"
    exact back0 k
  · have hz := of_decide_eq_false z
    refine lcq_of1 (fun d => .bl (figB d)) (by rw [sgnD_len]; have : x.length = x.cps.size := rfl; omega) (fun d hd acc R R2 q => ?_) ?_
    · obtain ⟨c, hc, rfl⟩ := List.mem_map.mp hd
      refine ⟨c, rfl, ?_⟩
      rw [fig_b]
      exact q
    · walk_at "s"
      rw [jt_e, fig_all]
      cases hf : x.cps.toList.all fun c => decide (48 ≤ c ∧ c ≤ 57)
      · have e : numD x = .non := by
          unfold numD numW
          rw [if_neg fun q => ?_]
          have := List.all_eq_true.mpr fun c hc => decide_eq_true (q.2.1 c hc)
          rw [hf] at this
          cases this
        rw [e] at k
        walk_at "s"
        exact back0 k
      · walk_at "s"
        have h1 : 1 ≤ x.length ∧ x.length ≤ 3 := by omega
        have hd : ∀ c ∈ x.cps.toList, 48 ≤ c ∧ c ≤ 57 := fun c hc => of_decide_eq_true (List.all_eq_true.mp hf c hc)
        have hlen : x.cps.toList.length = x.length := Array.length_toList
        have hv : ((NumText.digitsVal x.cps.toList : Nat) : Int) < 1000 := by
          generalize x.cps.toList = l at hd hlen
          match l, hlen, hd with
          | [], _, _ => decide
          | [a], _, hd =>
            have := hd a (by simp)
            show (((0 * 10 + (a - 48) : Nat)) : Int) < 1000
            omega
          | [a, b], _, hd =>
            have := hd a (by simp)
            have := hd b (by simp)
            show ((((0 * 10 + (a - 48)) * 10 + (b - 48) : Nat)) : Int) < 1000
            omega
          | [a, b, c], _, hd =>
            have := hd a (by simp)
            have := hd b (by simp)
            have := hd c (by simp)
            show (((((0 * 10 + (a - 48)) * 10 + (b - 48)) * 10 + (c - 48) : Nat)) : Int) < 1000
            omega
          | a :: b :: c :: d :: r, h, _ => rw [List.length_cons, List.length_cons, List.length_cons, List.length_cons] at h; omega
        have hi : intText? x = some ((NumText.digitsVal x.cps.toList : Nat) : Int) := PySem.intText_digits hd (fun e => by rw [e] at hlen; rw [List.length_nil] at hlen; omega) (by omega)
        refine ⟨_, hi, log_lt (by omega) hv, ifV_of (fun q => ?_) fun q => ?_⟩
        · have e : numD x = .int ((NumText.digitsVal x.cps.toList : Nat) : Int) := by
            unfold numD numW
            rw [if_pos ⟨h1, hd, of_decide_eq_true q⟩]
          rw [e] at k
          refine ⟨_, hi, ?_⟩
          walk_at "u"
          exact back0 k
        · have e : numD x = .non := by
            unfold numD numW
            rw [if_neg fun z => of_decide_eq_false q z.2.2]
          rw [e] at k
          walk_at "u"
          exact back0 k
def rdM (w : Nat) (s : Rst) : Led := [.ob "Reader" [("wide", .im (.int (w : Nat))), ("rows", .ow 1), ("groups", .ow 2)], .li (s.1.map fmD), .li (s.2.map dT)]
structure RsB (m : Nat) (s : Rst) : Prop where
  r : s.1.length ≤ m
  f : (flatF s.1).length ≤ m
  g : s.2.length ≤ m
def sp_Reader_init : DSp := fun ls M Kd _ => ∃ w : Nat, ls = [.ow 0, .im (.int (w : Nat))] ∧ M = [.ob "Reader" []] ∧ Kd (.im .non) (rdM w ([], []))
theorem len_Reader_init : ∀ ls M Kd Ed, sp_Reader_init ls M Kd Ed → ls.length = 2 := fun ls M Kd Ed ⟨_, e, _⟩ => by rw [e]; rfl
theorem back_rd1 {Kd : Lo → Led → Prop} {d : D} {w : Nat} {s : Rst} (h : Kd (.im d) (rdM w s)) : Back 1 Kd (.im d) (rdM w s) := by
  unfold rdM at h ⊢
  refine ⟨[0, 1, 2], rfl, ?_, ?_, ?_⟩ <;> walk_at "s"
  exact h
theorem back_rd3 {Kd : Lo → Led → Prop} {d : D} {w : Nat} {s : Rst} (h : Kd (.im d) (rdM w s)) : Back 3 Kd (.im d) (rdM w s) := by
  unfold rdM at h ⊢
  refine ⟨[0, 1, 2], rfl, ?_, ?_, ?_⟩ <;> walk_at "s"
  exact h
def n_Reader_init : List Str := ["self", "size"]
def rd_Reader_init (ex : EX) : RS := (rSeq (rSetF ["Reader"] "wide" (rVar 0) (rVar 1))
  (rSeq (rSetF ["Reader"] "rows" (rVar 0) (rLstO rNil))
  (rSetF ["Reader"] "groups" (rVar 0) (rLstO rNil))))
theorem m_Reader_init : MtX sp_Reader_init rd_Reader_init n_Reader_init := fun {ls M Kd Ed} h => by
  obtain ⟨w, rfl, rfl, k⟩ := h
  unfold rd_Reader_init n_Reader_init
  walk_at "s"
  exact back_rd1 k
theorem flat_sum (fs : List Frm) : (fs.map fun f => (f.1.length : Int)).sum = (flatF fs).length := by
  unfold flatF
  induction fs with
  | nil => rfl
  | cons f r ih =>
    rw [List.map_cons, List.sum_cons, ih, List.flatMap_cons, List.length_append]
    omega
def sp_Reader_tally : DSp := fun ls M Kd _ => ∃ (w : Nat) (s : Rst), ls = [.ow 0] ∧ M = rdM w s ∧ RsB 1000 s ∧ Kd (.im (.int ((flatF s.1).length : Nat))) (rdM w s)
theorem len_Reader_tally : ∀ ls M Kd Ed, sp_Reader_tally ls M Kd Ed → ls.length = 1 := fun ls M Kd Ed ⟨_, _, e, _⟩ => by rw [e]; rfl
def n_Reader_tally : List Str := ["self", "packets", "references"]
def rd_Reader_tally (ex : EX) : RS := (rBase (fun b => (rRet (qCa oSum (rCons (rLcL outF (rIOwn b (rFld ["Reader"] "rows" (rVar 0))) (rGTup 2 (rGCons (rName 1) (rGCons (rName 2) rGNil))) rYes (qCa oLen (rCons (rVar 1) rNil)) [1, 2]) rNil)))))
theorem m_Reader_tally : MtX sp_Reader_tally rd_Reader_tally n_Reader_tally := fun {ls M Kd Ed} h => by
  obtain ⟨w, s, rfl, rfl, hb, k⟩ := h
  have h1 := hb.r
  unfold rd_Reader_tally n_Reader_tally
  unfold rdM at k ⊢
  walk_at "s"
  rw [flat_sum]
  exact back_rd3 k
theorem atI_lst {α : Type} (xs : List α) (x : α) : atI (xs ++ [x]) (-1) = some x := by
  unfold atI ixN
  rw [if_neg (by decide), if_pos (by rw [List.length_append, List.length_singleton]; omega)]
  show (xs ++ [x])[((-1 : Int) + ((xs ++ [x]).length : Int)).toNat]? = _
  rw [List.length_append, List.length_singleton, show ((-1 : Int) + ((xs.length + 1 : Nat) : Int)).toNat = xs.length from by omega, List.getElem?_concat_length]
def sp_Reader_is_open : DSp := fun ls M Kd _ => ∃ (w : Nat) (s : Rst), ls = [.ow 0] ∧ M = rdM w s ∧ RsB 1000 s ∧ Kd (.im (.bl (opnR s.1))) (rdM w s)
theorem len_Reader_is_open : ∀ ls M Kd Ed, sp_Reader_is_open ls M Kd Ed → ls.length = 1 := fun ls M Kd Ed ⟨_, _, e, _⟩ => by rw [e]; rfl
def n_Reader_is_open : List Str := ["self"]
def rd_Reader_is_open (ex : EX) : RS := (rRet (rAndV (qOp oNe0 (rFld ["Reader"] "rows" (rVar 0)) (rLst rNil)) (qOp oEqT0 (qOp oIx (qOp oIx (rFld ["Reader"] "rows" (rVar 0)) (qUn oNeg (rCon (.int 1)))) (rCon (.int 0))) (rTup rNil))))
theorem m_Reader_is_open : MtX sp_Reader_is_open rd_Reader_is_open n_Reader_is_open := fun {ls M Kd Ed} h => by
  obtain ⟨w, s, rfl, rfl, hb, k⟩ := h
  have h1 := hb.r
  unfold rd_Reader_is_open n_Reader_is_open
  unfold rdM at k ⊢
  walk_at "s"
  rcases List.eq_nil_or_concat s.1 with e | ⟨fs, f, e⟩
  · rw [e] at k ⊢
    refine andE_of (fun z => nomatch z) fun z => ?_
    walk_at "s"
    exact back_rd3 (s := ([], s.2)) k
  · rw [e, List.concat_eq_append] at k ⊢
    rw [opn_app] at k
    refine andE_of (fun z => ?_) fun z => ?_
    · refine exI_of (d := fmD f) ?_ ?_
      · rw [List.map_append, List.map_cons, List.map_nil]
        exact atI_lst _ _
      · walk_at "s"
        rw [show (f.1.map pkD).isEmpty = f.1.isEmpty by cases f.1 <;> rfl]
        walk_at "u"
        exact back_rd3 (s := (fs ++ [f], s.2)) k
    · exfalso
      cases fs <;> exact nomatch z
def sp_Reader_take_frame : DSp := fun ls M Kd _ => ∃ (w : Nat) (s : Rst) (ns : List Int), ls = [.ow 0, .im (dT ns)] ∧ M = rdM w s ∧ RsB 1000 s ∧ ns.length < 64 ∧ Kd (.im (.bl (takF s ns).1)) (rdM w (takF s ns).2)
theorem len_Reader_take_frame : ∀ ls M Kd Ed, sp_Reader_take_frame ls M Kd Ed → ls.length = 2 := fun ls M Kd Ed ⟨_, _, _, e, _⟩ => by rw [e]; rfl
theorem vt_ints {ns : List Int} (h : ns.length < 64) : Vt (dT ns) := ⟨rfl, fun ds e => by
  cases e
  exact ⟨by rw [List.length_map]; exact h, fun x hx => by obtain ⟨n, _, rfl⟩ := List.mem_map.mp hx; rfl⟩⟩
theorem dec_24 {n : Nat} : decide ((n : Int) = 24) = decide (n = 24) := by rw [decide_eq_decide]; omega
theorem dec_16 {n : Nat} : decide ((n : Int) = 16) = decide (n = 16) := by rw [decide_eq_decide]; omega
theorem dec_nm {n m : Nat} : decide ((n : Int) = (m : Int)) = decide (n = m) := by rw [decide_eq_decide]; omega
theorem emp_map {α β : Type} (f : α → β) (l : List α) : (l.map f).isEmpty = l.isEmpty := by cases l <;> rfl
def n_Reader_take_frame : List Str := ["self", "numbers"]
def rd_Reader_take_frame (ex : EX) : RS := (rSeq (rIf (rOrT (rB (rCallU sp_Reader_is_open ex (rSelf "Reader" "is_open" (rVar 0) rNil))) (rOrT (rB (qOp oNe0 (rFld ["Reader"] "groups" (rVar 0)) (rLst rNil))) (rB (qOp oEq (rCallU sp_Reader_tally ex (rSelf "Reader" "tally" (rVar 0) rNil)) (rCon (.int 24)))))) (rRet (rCon (.bl false))) rNext)
  (rSeq (rDrop (rMe "list" oAppend (rFld ["Reader"] "rows" (rVar 0)) (rCons (rTup (rCons (rTup rNil) (rCons (rVar 1) rNil))) rNil)))
  (rRet (rOrV (qOp oEqT0 (rVar 1) (rTup rNil)) (rCallD sp_is_setA ex (rCons (rVar 1) (rCons (qOp oSub (qCa oLen (rCons (rFld ["Reader"] "rows" (rVar 0)) rNil)) (rCon (.int 1))) rNil)))))))
theorem m_Reader_take_frame : MtX sp_Reader_take_frame rd_Reader_take_frame n_Reader_take_frame := fun {ls M Kd Ed} h => by
  obtain ⟨w, s, ns, rfl, rfl, hb, hn, k⟩ := h
  have h1 := hb.r
  have e := Eq.refl (rdM w s)
  unfold rd_Reader_take_frame n_Reader_take_frame
  have bad : (opnR s.1 || (!s.2.isEmpty || decide ((flatF s.1).length = 24))) = true → Kd (.im (.bl false)) (rdM w s) := fun z => by
    unfold takF at k
    rw [if_pos z] at k
    exact k
  unfold rdM
  walk_at "s"
  refine ⟨w, s, rfl, rfl, hb, ?_⟩
  unfold rdM
  walk_at "s"
  refine orT_of (fun z => ?_) fun z => orT_of (fun z2 => ?_) fun z2 => ⟨w, s, rfl, rfl, hb, ?_⟩
  · walk_at "s"
    exact back_rd3 (bad (by rw [z]; rfl))
  · rw [emp_map] at z2
    simp only [jt_e]
    walk_at "s"
    exact back_rd3 (bad (by rw [z2, Bool.true_or, Bool.or_true]))
  · rw [emp_map] at z2
    unfold rdM
    walk_at "s"
    rw [dec_24]
    cases z3 : decide ((flatF s.1).length = 24)
    · have good : takF s ns = (ns.isEmpty || setB s.1.length ns, (s.1 ++ [([], ns)], s.2)) := by
        unfold takF
        rw [z, z2, z3]
        rfl
      rw [good] at k
      simp only [jt_e]
      walk_at "s"
      rw [emp_map]
      have em : s.1.map fmD ++ [D.tup [D.tup [], dT ns]] = (s.1 ++ [(([] : List (List Int)), ns)]).map fmD := by rw [List.map_append]; rfl
      rw [em]
      refine orE_of (fun z4 => ?_) fun z4 => ⟨dT ns, _, rfl, rfl, vt_ints hn, ?_⟩
      · rw [z4, Bool.true_or] at k
        walk_at "u"
        exact back_rd3 (s := (s.1 ++ [([], ns)], s.2)) k
      · rw [z4, Bool.false_or] at k
        rw [gpB_set, show (((s.1.length + 1 : Nat) : Int) - 1) = (s.1.length : Int) from by omega]
        walk_at "u"
        exact back_rd3 (s := (s.1 ++ [([], ns)], s.2)) k
    · simp only [jt_e]
      walk_at "s"
      exact back_rd3 (bad (by rw [z3, Bool.or_true, Bool.or_true]))
def sp_Reader_take_set : DSp := fun ls M Kd _ => ∃ (w : Nat) (s : Rst) (ns : List Int), ls = [.ow 0, .im (dT ns)] ∧ M = rdM w s ∧ RsB 999 s ∧ ns.length < 64 ∧ Kd (.im (.bl (takS s ns).1)) (rdM w (takS s ns).2)
theorem len_Reader_take_set : ∀ ls M Kd Ed, sp_Reader_take_set ls M Kd Ed → ls.length = 2 := fun ls M Kd Ed ⟨_, _, _, e, _⟩ => by rw [e]; rfl
def n_Reader_take_set : List Str := ["self", "numbers"]
def rd_Reader_take_set (ex : EX) : RS := (rSeq (rIf (rOrT (rB (rCallU sp_Reader_is_open ex (rSelf "Reader" "is_open" (rVar 0) rNil))) (rB (qOp oEq (qCa oLen (rCons (rFld ["Reader"] "groups" (rVar 0)) rNil)) (rCon (.int 16))))) (rRet (rCon (.bl false))) rNext)
  (rSeq (rDrop (rMe "list" oAppend (rFld ["Reader"] "groups" (rVar 0)) (rCons (rVar 1) rNil)))
  (rRet (rCallD sp_is_setA ex (rCons (rVar 1) (rCons (rCallU sp_Reader_tally ex (rSelf "Reader" "tally" (rVar 0) rNil)) rNil))))))
theorem m_Reader_take_set : MtX sp_Reader_take_set rd_Reader_take_set n_Reader_take_set := fun {ls M Kd Ed} h => by
  obtain ⟨w, s, ns, rfl, rfl, hb0, hn, k⟩ := h
  have hb : RsB 1000 s := ⟨by have := hb0.r; omega, by have := hb0.f; omega, by have := hb0.g; omega⟩
  have h1 := hb0.r
  have h3 := hb0.g
  unfold rd_Reader_take_set n_Reader_take_set
  have bad : (opnR s.1 || decide (s.2.length = 16)) = true → Kd (.im (.bl false)) (rdM w s) := fun z => by
    unfold takS at k
    rw [if_pos z] at k
    exact k
  unfold rdM
  walk_at "s"
  refine ⟨w, s, rfl, rfl, hb, ?_⟩
  unfold rdM
  walk_at "s"
  rw [dec_16]
  refine ifb (fun z => ?_) fun z => ?_
  · walk_at "s"
    exact back_rd3 (bad z)
  · have good : takS s ns = (setB (flatF s.1).length ns, (s.1, s.2 ++ [ns])) := by
      unfold takS
      rw [z]
      rfl
    rw [good] at k
    walk_at "s"
    have em : s.2.map dT ++ [dT ns] = (s.2 ++ [ns]).map dT := by rw [List.map_append]; rfl
    rw [em]
    refine ⟨w, (s.1, s.2 ++ [ns]), rfl, rfl, ⟨hb.r, hb.f, by rw [List.length_append, List.length_singleton]; omega⟩, ?_⟩
    unfold rdM
    walk_at "s"
    refine ⟨dT ns, _, rfl, rfl, vt_ints hn, ?_⟩
    rw [gpB_set]
    walk_at "s"
    exact back_rd3 (s := (s.1, s.2 ++ [ns])) k
def sp_Reader_take_packet : DSp := fun ls M Kd _ => ∃ (w : Nat) (s : Rst) (ns : List Int), ls = [.ow 0, .im (dT ns)] ∧ M = rdM w s ∧ RsB 1000 s ∧ ns.length < 64 ∧ 1 ≤ w ∧ (∀ x ∈ ns, 0 ≤ x) ∧ Kd (.im (.bl (takP w s ns).1)) (rdM w (takP w s ns).2)
theorem len_Reader_take_packet : ∀ ls M Kd Ed, sp_Reader_take_packet ls M Kd Ed → ls.length = 2 := fun ls M Kd Ed ⟨_, _, _, e, _⟩ => by rw [e]; rfl
def n_Reader_take_packet : List Str := ["self", "numbers", "packets", "references"]
def rd_Reader_take_packet (ex : EX) : RS := (rSeq (rIf (rOrT (rB (qOp oEq0 (rFld ["Reader"] "rows" (rVar 0)) (rLst rNil))) (rOrT (rB (qOp oNe0 (rFld ["Reader"] "groups" (rVar 0)) (rLst rNil))) (rOrT (rB (qOp oEq (rCallU sp_Reader_tally ex (rSelf "Reader" "tally" (rVar 0) rNil)) (rCon (.int 24)))) (rB (qOp oNe (qCa oLen (rCons (rVar 1) rNil)) (rFld ["Reader"] "wide" (rVar 0))))))) (rRet (rCon (.bl false))) rNext)
  (rSeq (rAsg (rMe0 "list" oPopL (rFld ["Reader"] "rows" (rVar 0))) (rGTup 2 (rGCons (rName 2) (rGCons (rName 3) rGNil))))
  (rSeq (rDrop (rMe "list" oAppend (rFld ["Reader"] "rows" (rVar 0)) (rCons (rTup (rCons (rTup (rStar (rVar 2) (rCons (rVar 1) rNil))) (rCons (rVar 3) rNil))) rNil)))
  (rRet (qOp oLe (qCa oMaxT (rCons (rVar 1) rNil)) (rCon (.int 255)))))))
theorem m_Reader_take_packet : MtX sp_Reader_take_packet rd_Reader_take_packet n_Reader_take_packet := fun {ls M Kd Ed} h => by
  obtain ⟨w, s, ns, rfl, rfl, hb, hn, hw, hp, k⟩ := h
  have h1 := hb.r
  have h3 := hb.g
  unfold rd_Reader_take_packet n_Reader_take_packet
  have bad : (s.1.isEmpty || (!s.2.isEmpty || (decide ((flatF s.1).length = 24) || !decide (ns.length = w)))) = true → Kd (.im (.bl false)) (rdM w s) := fun z => by
    unfold takP at k
    rw [if_pos z] at k
    exact k
  unfold rdM
  walk_at "s"
  refine orT_of (fun z => ?_) fun z => orT_of (fun z2 => ?_) fun z2 => ⟨w, s, rfl, rfl, hb, ?_⟩
  · rw [emp_map] at z
    walk_at "s"
    exact back_rd3 (bad (by rw [z]; rfl))
  · rw [emp_map] at z2
    simp only [jt_e]
    walk_at "s"
    exact back_rd3 (bad (by rw [z2, Bool.true_or, Bool.or_true]))
  · rw [emp_map] at z z2
    unfold rdM
    walk_at "s"
    have ed : decide ((((flatF s.1).length : Nat) : Int) = 24 ∨ ¬ ((ns.length : Nat) : Int) = ((w : Nat) : Int)) = (decide ((flatF s.1).length = 24) || !decide (ns.length = w)) := by
      rw [Bool.decide_or, decide_not, dec_24, dec_nm]
    rw [ed]
    cases z3 : (decide ((flatF s.1).length = 24) || !decide (ns.length = w))
    · have good : takP w s ns = (ns.all (fun x => decide (x ≤ 255)), (putP s.1 ns, s.2)) := by
        unfold takP
        rw [z, z2, z3]
        rfl
      rw [good] at k
      have hlw : ns.length = w := by
        rw [Bool.or_eq_false_iff, Bool.not_eq_false'] at z3
        exact of_decide_eq_true z3.2
      rcases List.eq_nil_or_concat s.1 with e | ⟨fs, f, e⟩
      · rw [e] at z
        cases z
      rw [List.concat_eq_append] at e
      rw [e, put_app] at k
      simp only [jt_e]
      rw [e]
      walk_at "s"
      refine ⟨fmD f, by rw [List.getElem?_map, List.getElem?_concat_length]; rfl, ?_⟩
      rw [List.map_append, List.map_cons, List.map_nil, List.dropLast_concat]
      have hfl : f.1.length ≤ 1000 := by
        have := hb.f
        rw [e] at this
        unfold flatF at this
        rw [List.flatMap_append, List.length_append, List.flatMap_cons, List.flatMap_nil, List.append_nil] at this
        omega
      have hfs : fs.length ≤ 1000 := by
        rw [e, List.length_append] at h1
        omega
      have ea : allIm (List.map Lo.im (f.1.map pkD) ++ [Lo.im (dT ns)]) = some ((f.1 ++ [ns]).map pkD) := by
        have : List.map Lo.im (f.1.map pkD) ++ [Lo.im (dT ns)] = ((f.1 ++ [ns]).map pkD).map Lo.im := by rw [List.map_append, List.map_append]; rfl
        rw [this]
        exact allIm_ims
      walk_at "s"
      rw [ea]
      walk_at "s"
      refine maxT_of (fun z => by rw [z, List.length_nil] at hlw; omega) fun m m1 m2 => ?_
      have eb : ns.all (fun x => decide (x ≤ 255)) = decide (m ≤ 255) := by
        rw [Bool.eq_iff_iff, List.all_eq_true, decide_eq_true_eq]
        exact ⟨fun z => of_decide_eq_true (z m m1), fun z x hx => decide_eq_true (by have := m2 x hx; omega)⟩
      rw [eb] at k
      walk_at "s"
      have em : fs.map fmD ++ [D.tup [D.tup ((f.1 ++ [ns]).map pkD), D.tup (f.2.map D.int)]] = (fs ++ [(f.1 ++ [ns], f.2)]).map fmD := by simp only [List.map_append, List.map_cons, List.map_nil, fmD]
      rw [em]
      exact back_rd3 (s := (fs ++ [(f.1 ++ [ns], f.2)], s.2)) k
    · simp only [jt_e]
      walk_at "s"
      exact back_rd3 (bad (by rw [z3, Bool.or_true, Bool.or_true]))
theorem red_grow {w m : Nat} {s : Rst} {l : Str} (hb : RsB m s) : RsB (m + 1) (redL w s l).2 := by
  have h0 : RsB (m + 1) s := ⟨by have := hb.r; omega, by have := hb.f; omega, by have := hb.g; omega⟩
  unfold redL redW
  split
  · exact h0
  · split
    · unfold takF
      split
      · exact h0
      · refine ⟨?_, ?_, h0.g⟩
        · show (s.1 ++ [_]).length ≤ _
          rw [List.length_append, List.length_singleton]
          have := hb.r
          omega
        · show (flatF (s.1 ++ [_])).length ≤ _
          unfold flatF
          rw [List.flatMap_append, List.length_append, List.flatMap_cons, List.flatMap_nil, List.append_nil]
          exact h0.f
    · split
      · unfold takP
        split
        · exact h0
        · refine ⟨?_, ?_, h0.g⟩
          · rcases List.eq_nil_or_concat s.1 with e | ⟨fs, f, e⟩
            · show (putP s.1 _).length ≤ _
              rw [e]
              exact Nat.zero_le _
            · show (putP s.1 _).length ≤ _
              have := h0.r
              rw [e, List.concat_eq_append] at this ⊢
              rw [put_app, List.length_append] at *
              exact this
          · rcases List.eq_nil_or_concat s.1 with e | ⟨fs, f, e⟩
            · show (flatF (putP s.1 _)).length ≤ _
              rw [e]
              exact Nat.zero_le _
            · show (flatF (putP s.1 _)).length ≤ _
              have := hb.f
              rw [e, List.concat_eq_append] at this ⊢
              rw [put_app]
              unfold flatF at *
              rw [List.flatMap_append, List.length_append, List.flatMap_cons, List.flatMap_nil, List.append_nil] at this ⊢
              rw [List.length_append, List.length_singleton]
              omega
      · split
        · unfold takS
          split
          · exact h0
          · refine ⟨h0.r, h0.f, ?_⟩
            show (s.2 ++ [_]).length ≤ _
            rw [List.length_append, List.length_singleton]
            have := hb.g
            omega
        · exact h0
def sp_Reader_read : DSp := fun ls M Kd _ => ∃ (w : Nat) (s : Rst) (l : Str), ls = [.ow 0, .im (.str l)] ∧ M = rdM w s ∧ RsB 900 s ∧ 1 ≤ w ∧ l.length ≤ 100000 ∧ (Txt.split l spS).length ≤ 60 ∧ Kd (.im (.bl (redL w s l).1)) (rdM w (redL w s l).2)
theorem len_Reader_read : ∀ ls M Kd Ed, sp_Reader_read ls M Kd Ed → ls.length = 2 := fun ls M Kd Ed ⟨_, _, _, e, _⟩ => by rw [e]; rfl
theorem numD_flt (ws : List Str) : (ws.map fun x => numD x).all D.flt = true := by
  rw [List.all_map, List.all_eq_true]
  intro x _
  show (numD x).flt = true
  unfold numD
  cases numW x <;> rfl
theorem numD_in (ws : List Str) : inD D.non (ws.map fun x => numD x) = ws.any fun x => (numW x).isNone := by
  induction ws with
  | nil => rfl
  | cons x r ih =>
    rw [List.map_cons, List.any_cons, ← ih]
    unfold numD
    cases numW x <;> rfl
theorem numD_ints {ws : List Str} (h : (ws.any fun x => (numW x).isNone) = false) : (ws.map fun x => numD x) = (ws.filterMap numW).map D.int := by
  induction ws with
  | nil => rfl
  | cons x r ih =>
    rw [List.any_cons, Bool.or_eq_false_iff] at h
    rw [List.map_cons, ih h.2, List.filterMap_cons]
    unfold numD
    cases e : numW x with
    | none => rw [e] at h; exact nomatch h.1
    | some n => rfl
theorem RsB.le {m n : Nat} {s : Rst} (h : RsB m s) (q : m ≤ n) : RsB n s := ⟨Nat.le_trans h.r q, Nat.le_trans h.f q, Nat.le_trans h.g q⟩
def n_Reader_read : List Str := ["self", "line", "words", "numbers", "word"]
def rd_Reader_read (ex : EX) : RS := (rSeq (rAsg (rMe "str" (oSplit outF) (rVar 1) (rCons (rCon (.str " ")) rNil)) (rName 2))
  (rSeq (rAsg (qCa oTuple (rCons (rLcG outF (rIList (rSl outF (rVar 2) (rOSome (rCon (.int 1))) rONone)) (rName 4) rYes (rCallD sp_integer_of exF (rCons (rVar 4) rNil)) [4]) rNil)) (rName 3))
  (rSeq (rIf (rB (qOp (oIn false) (rCon .non) (rVar 3))) (rRet (rCon (.bl false))) rNext)
  (rSeq (rIf (rB (qOp oEq (qOp oIx (rVar 2) (rCon (.int 0))) (rCon (.str "frame")))) (rRet (rCallU sp_Reader_take_frame ex (rSelf "Reader" "take_frame" (rVar 0) (rCons (rVar 3) rNil)))) rNext)
  (rSeq (rIf (rB (qOp oEq (qOp oIx (rVar 2) (rCon (.int 0))) (rCon (.str "packet")))) (rRet (rCallU sp_Reader_take_packet ex (rSelf "Reader" "take_packet" (rVar 0) (rCons (rVar 3) rNil)))) rNext)
  (rRet (rAndV (qOp oEq (qOp oIx (rVar 2) (rCon (.int 0))) (rCon (.str "set"))) (rCallU sp_Reader_take_set ex (rSelf "Reader" "take_set" (rVar 0) (rCons (rVar 3) rNil))))))))))
theorem m_Reader_read : MtX sp_Reader_read rd_Reader_read n_Reader_read := fun {ls M Kd Ed} h => by
  obtain ⟨w, s, l, rfl, rfl, hb, hw, hl, hs, k⟩ := h
  unfold redL at k
  have h1 : 1 ≤ (Txt.split l spS).length := PyProof.Rows.split_pos l spS
  have hm : ∀ x ∈ Txt.split l spS, x.length ≤ 100000 := fun x hx => Nat.le_trans (PyProof.Rows.part_short hx) hl
  unfold rd_Reader_read n_Reader_read
  unfold rdM
  walk_at "s"
  have el : (" " : Str).length = 1 := by decide +kernel
  rw [show cutL (Txt.split l (Str.ofString " ")) (some 1) none = (Txt.split l spS).drop 1 from cutL_from (a := 1)]
  refine ⟨⟨by rw [el]; rfl, by rw [sizeLine_eq]; omega⟩, lcq_of1 (fun x => numD x) (by rw [List.length_drop]; omega) (fun x hx acc R R2 q => ?_) ?_⟩
  · refine ⟨x, rfl, rfl, by rw [sizeLine_eq]; have := hm x (List.mem_of_mem_drop hx); omega, ?_⟩
    walk_at "s"
    exact q
  · walk_at "s"
    refine ⟨numD_flt _, ?_⟩
    rw [numD_in]
    unfold redW at k
    refine ifb (fun z => ?_) fun z => ?_
    · rw [if_pos z] at k
      walk_at "s"
      exact back_rd3 k
    · rw [z, if_neg (fun q => nomatch q)] at k
      rw [numD_ints z]
      have hns : (((Txt.split l spS).drop 1).filterMap numW).length < 64 := by
        have := List.length_filterMap_le numW ((Txt.split l spS).drop 1)
        rw [List.length_drop] at this
        omega
      have hpos : ∀ n ∈ ((Txt.split l spS).drop 1).filterMap numW, 0 ≤ n := fun n hn => by
        obtain ⟨x, _, hx⟩ := List.mem_filterMap.mp hn
        exact (numW_rg hx).1
      generalize ((Txt.split l spS).drop 1).filterMap numW = ns at hns hpos k
      obtain ⟨h, hh⟩ : ∃ h, (Txt.split l spS)[0]? = some h := ⟨_, List.getElem?_eq_getElem (by omega)⟩
      rw [List.head?_eq_getElem?, hh] at k
      simp only [Option.some.injEq] at k
      have hx : atI ((Txt.split l (Str.ofString " ")).map D.str) 0 = some (.str h) := by
        rw [atI_nat (by decide), List.getElem?_map]
        show ((Txt.split l spS)[0]?).map D.str = _
        rw [hh]
        rfl
      walk_at "s"
      refine exI_of hx ?_
      walk_at "s"
      refine ifc (fun z1 => ?_) fun z1 => ?_
      · rw [if_pos z1] at k
        walk_at "s"
        refine ⟨w, s, ns, rfl, rfl, hb.le (by decide), hns, ?_⟩
        unfold rdM
        walk_at "s"
        exact back_rd3 k
      · rw [if_neg z1] at k
        walk_at "s"
        refine exI_of hx ?_
        walk_at "s"
        refine ifc (fun z2 => ?_) fun z2 => ?_
        · rw [if_pos z2] at k
          walk_at "s"
          refine ⟨w, s, ns, rfl, rfl, hb.le (by decide), hns, hw, hpos, ?_⟩
          unfold rdM
          walk_at "s"
          exact back_rd3 k
        · rw [if_neg z2] at k
          walk_at "s"
          refine exI_of hx ?_
          walk_at "s"
          refine andE_of (fun z3 => ?_) fun z3 => ?_
          · rw [if_pos (of_decide_eq_true z3)] at k
            refine ⟨w, s, ns, rfl, rfl, hb.le (by decide), hns, ?_⟩
            unfold rdM
            walk_at "u"
            exact back_rd3 k
          · rw [if_neg (of_decide_eq_false z3)] at k
            walk_at "u"
            exact back_rd3 k
def sp_parse_film : DSp := fun ls M Kd _ => ∃ (w : Nat) (fs : List Frm) (gs : List (List Int)), ls = [.im (.str (textS (filmL w fs gs)))] ∧ M = [] ∧ FmOk w fs gs ∧ Kd (.im (filmI w fs gs)) []
theorem len_parse_film : ∀ ls M Kd Ed, sp_parse_film ls M Kd Ed → ls.length = 1 := fun ls M Kd Ed ⟨_, _, _, e, _⟩ => by rw [e]; rfl
/-- the states of a text that is read -/
theorem red_step {w : Nat} : ∀ {ls : List Str} {s t : Rst}, redAll w s ls = some t → ∃ S : Nat → Rst, S 0 = s ∧ S ls.length = t ∧ ∀ i l, ls[i]? = some l → redL w (S i) l = (true, S (i + 1))
  | [], s, t, h => by cases h; exact ⟨fun _ => s, rfl, rfl, fun i l hl => nomatch hl⟩
  | l :: ls, s, t, h => by
    have h : (if (redL w s l).1 = true then redAll w (redL w s l).2 ls else none) = some t := h
    split at h
    · rename_i h1
      obtain ⟨S, s0, s1, s2⟩ := red_step h
      refine ⟨fun i => match i with | 0 => s | i + 1 => S i, rfl, s1, fun i m hm => ?_⟩
      cases i with
      | zero =>
        cases hm
        show redL w s l = (true, S 0)
        rw [s0, ← h1]
      | succ i => exact s2 i m hm
    · cases h
theorem red_bound {w : Nat} {S : Nat → Rst} {ls : List Str} (h0 : S 0 = ([], [])) (h : ∀ i l, ls[i]? = some l → redL w (S i) l = (true, S (i + 1))) : ∀ i, i ≤ ls.length → RsB i (S i)
  | 0, _ => by rw [h0]; exact ⟨Nat.le_refl _, Nat.le_refl _, Nat.le_refl _⟩
  | i + 1, hi => by
    have ih := red_bound h0 h i (by omega)
    have e := h i ls[i] (List.getElem?_eq_getElem (by omega))
    have := red_grow (w := w) (l := ls[i]) ih
    rw [e] at this
    exact this
theorem film_words {w : Nat} {fs : List Frm} {gs : List (List Int)} (fo : FmOk w fs gs) : ∀ l ∈ filmL w fs gs, (Txt.split l spS).length ≤ 60 := by
  have hl := fo.ln
  have h8 := fo.w8
  intro l hm
  unfold filmL rowsL at hm
  rcases List.mem_cons.mp hm with rfl | hm
  · rw [split_line (by rw [tl_size]; decide) fun n hn => by rw [List.mem_singleton.mp hn]; omega]
    exact Nat.le_add_left 2 58
  · rcases List.mem_append.mp hm with hm | hm
    · obtain ⟨f, hf, hm⟩ := List.mem_flatMap.mp hm
      obtain ⟨j, hj⟩ := List.mem_iff_getElem?.mp hf
      have fo2 := fo.fr j f hj
      have hj2 : j < fs.length := (List.getElem?_eq_some_iff.mp hj).1
      have hr := frmL_len h8 fo2 (by omega)
      rcases List.mem_cons.mp hm with rfl | hm
      · rw [split_line (by rw [tl_frame]; decide) fun n hn => (hr.1 n hn).1, List.length_cons, List.length_map]
        have := hr.2
        omega
      · obtain ⟨p, hp, rfl⟩ := List.mem_map.mp hm
        have pk := fo2.pk p hp
        rw [split_line (by rw [tl_packet]; decide) fun n hn => (pk_rg pk n hn).1, List.length_cons, List.length_map, pk.1]
        omega
    · obtain ⟨g, hg, rfl⟩ := List.mem_map.mp hm
      have hr := g_rg (fo.cv.ok g hg) (by omega) (by omega)
      rw [split_line (by rw [tl_set]; decide) fun n hn => (hr.1 n hn).1, List.length_cons, List.length_map]
      have := hr.2
      omega
theorem ml_parse_film {ls : List Lo} {M : Led} {Kd : Lo → Led → Prop} {Ed : Exn → Led → Prop} (h : sp_parse_film ls M Kd Ed) : M.length ≤ 0 := by
  obtain ⟨_, _, _, _, e, _⟩ := h
  rw [e]
  exact Nat.le_refl _
def n_parse_film : List Str := ["text", "lines", "words", "reader", "index", "line"]
def rd_parse_film (ex : EX) : RS := (rSeq (rAsg (rIfE (rB (qUn (oIsi "str") (rVar 0))) (rMe "str" (oSplit outF) (rVar 0) (rCons (rCon (.str "\n")) rNil)) (rLst (rCons (rCon (.str "")) rNil))) (rName 1))
  (rSeq (rAsg (rMe "str" (oSplit outF) (qOp oIx (rVar 1) (rCon (.int 0))) (rCons (rCon (.str " ")) rNil)) (rName 2))
  (rSeq (rIf (rOrT (rB (qOp oNe (qCa oLen (rCons (rVar 2) rNil)) (rCon (.int 2)))) (rOrT (rB (qOp oNe (qOp oIx (rVar 2) (rCon (.int 0))) (rCon (.str "size")))) (rNotT (rB (rCallD sp_is_size ex (rCons (rCallD sp_integer_of ex (rCons (qOp oIx (rVar 2) (rCon (.int 1))) rNil)) rNil)))))) rNever rNext)
  (rSeq (rAsg (rMake "Reader" sp_Reader_init ex (rCons (rCallD sp_integer_of ex (rCons (qOp oIx (rVar 2) (rCon (.int 1))) rNil)) rNil)) (rName 3))
  (rSeq (rFor (rIEnumF (rCons (rSl outF (rVar 1) (rOSome (rCon (.int 1))) rONone) (rCons (rCon (.int 1)) rNil))) (rGTup 2 (rGCons (rName 4) (rGCons (rName 5) rGNil))) (rIf (rNotT (rB (rCallU sp_Reader_read ex (rSelf "Reader" "read" (rVar 3) (rCons (rVar 5) rNil))))) rNever rNext))
  (rSeq (rIf (rB (rCallU sp_Reader_is_open ex (rSelf "Reader" "is_open" (rVar 3) rNil))) rNever rNext)
  (rWkF 0 (rRet (rFz (rMake "Film" sp_Film_init ex (rCons (rFld ["Reader"] "wide" (rVar 3)) (rCons (rFld ["Film", "Reader"] "rows" (rVar 3)) (rCons (rFld ["Reader"] "groups" (rVar 3)) rNil)))))))))))))
theorem m_parse_film : MtX sp_parse_film rd_parse_film n_parse_film := fun {ls M Kd Ed} h => by
  obtain ⟨w, fs, gs, rfl, rfl, fo, k⟩ := h
  have hln := film_lines fo
  have hwd := film_words fo
  have h1 := fo.w1
  have h8 := fo.w8
  have hsp : Txt.split (textS (filmL w fs gs)) nlS = filmL w fs gs := split_text (fun e => nomatch e) fun l hl => (hln.1 l hl).2
  have hsz : Txt.split (lineS "size" [(w : Int)]) spS = [("size" : Str), numS (w : Int)] := split_line (by rw [tl_size]; decide) fun n hn => by rw [List.mem_singleton.mp hn]; omega
  have hnw : numD (numS (w : Int)) = .int w := numD_num (by omega) (by omega)
  have htl : (textS (filmL w fs gs)).length ≤ 20000 := by
    have := text_len (ls := filmL w fs gs) fun l hl => (hln.1 l hl).1
    have := hln.2
    omega
  unfold rd_parse_film n_parse_film
  walk_at "s"
  have hnl : ("\n" : Str).length = 1 := by decide +kernel
  have hbl : (" " : Str).length = 1 := by decide +kernel
  have hs0 : (lineS "size" [(w : Int)]).length ≤ 200 := (hln.1 _ List.mem_cons_self).1
  refine ifV_of (fun _ => ⟨⟨by rw [hnl]; rfl, by rw [sizeLine_eq]; omega⟩, ?_⟩) fun z => nomatch z
  rw [show Txt.split (textS (filmL w fs gs)) (Str.ofString "\n") = filmL w fs gs from hsp]
  walk_at "u"
  refine exI_of (d := .str (lineS "size" [(w : Int)])) (by rw [atI_nat (by decide)]; rfl) ?_
  walk_at "s"
  rw [show Txt.split (lineS "size" [(w : Int)]) (Str.ofString " ") = [("size" : Str), numS (w : Int)] from hsz]
  walk_at "s"
  have hx3 := numS_len (n := (w : Int)) (by omega) (by omega)
  refine ⟨⟨by rw [hbl]; rfl, by rw [sizeLine_eq]; omega⟩, orT_of (fun z => by simp at z) fun _ => orT_of (fun z => nomatch z) fun _ => ?_⟩
  refine ⟨_, rfl, rfl, by rw [sizeLine_eq]; omega, ?_⟩
  rw [hnw]
  walk_at "s"
  refine ⟨_, rfl, rfl, ?_⟩
  rw [show decide (1 ≤ (w : Int) ∧ (w : Int) ≤ 8) = true from decide_eq_true (by omega)]
  walk_at "u"
  refine ⟨_, rfl, rfl, by rw [sizeLine_eq]; omega, ?_⟩
  rw [hnw]
  walk_at "s"
  refine ⟨w, rfl, rfl, ?_⟩
  unfold rdM
  walk_at "s"
  have hcut : cutL (filmL w fs gs) (some 1) none = rowsL fs gs := by
    rw [show cutL (filmL w fs gs) (some 1) none = (filmL w fs gs).drop 1 from cutL_from (a := 1)]
    rfl
  rw [hcut]
  obtain ⟨S, S0, S1, S2⟩ := red_step (red_film fo)
  have hrl : (rowsL fs gs).length ≤ 64 := by
    have := hln.2
    unfold filmL at this
    rw [List.length_cons] at this
    omega
  have hB := red_bound S0 S2
  refine ⟨fun i Γ' M' => ∃ a b : Option Lo, Γ' = [_, _, _, _, a, b] ∧ M' = rdM w (S i), ⟨none, none, rfl, by rw [S0]; rfl⟩, ?_, ?_⟩
  · intro i d Γ' M' hd hI
    obtain ⟨a, b, rfl, rfl⟩ := hI
    obtain ⟨y, hy, rfl⟩ := enumF_get.mp hd
    rw [List.getElem?_map] at hy
    obtain ⟨l, hl, rfl⟩ := Option.map_eq_some_iff.mp hy
    have hi : i < (rowsL fs gs).length := (List.getElem?_eq_some_iff.mp hl).1
    have hlm : l ∈ filmL w fs gs := List.mem_cons_of_mem _ (List.mem_of_getElem? hl)
    have e := S2 i l hl
    unfold rdM
    walk_at "s"
    refine ⟨w, S i, l, rfl, rfl, (hB i (by omega)).le (by omega), h1, by have := (hln.1 l hlm).1; omega, hwd l hlm, ?_⟩
    rw [e]
    unfold rdM
    walk_at "s"
    exact ⟨_, _, rfl⟩
  · intro Γ' M' hI
    obtain ⟨a, b, rfl, rfl⟩ := hI
    rw [enumF_len, List.length_map, S1]
    unfold rdM
    walk_at "s"
    refine ⟨w, (fs, gs), rfl, rfl, ?_, ?_⟩
    · have := hB _ (Nat.le_refl _)
      rw [S1] at this
      exact this.le (by omega)
    · rw [show opnR (fs, gs).1 = false from opn_false fo.ne]
      unfold rdM
      walk_at "s"
      refine exI_of (d := .im (.int w)) rfl ?_
      walk_at "s"
      refine exI_of (d := .im (.lst (fs.map fmD))) rfl ?_
      walk_at "s"
      refine exI_of (d := .im (.lst (gs.map dT))) rfl ?_
      walk_at "s"
      refine ⟨w, fs, gs, rfl, rfl, fo, ?_⟩
      walk_at "s"
      refine exI_of (d := filmI w fs gs) rfl ?_
      walk_at "s"
      exact ⟨⟨trivial, trivial, trivial, trivial⟩, back0 k⟩
def sp_l_lines : DSp := fun ls M Kd _ => ∃ (w : Nat) (fs : List Frm) (gs : List (List Int)), ls = [.im (shD w fs gs)] ∧ M = [] ∧ FmOk w fs gs ∧ Kd (.im (.lst ((filmL w fs gs).map D.str))) []
theorem len_l_lines : ∀ ls M Kd Ed, sp_l_lines ls M Kd Ed → ls.length = 1 := fun ls M Kd Ed ⟨_, _, _, e, _⟩ => by rw [e]; rfl
theorem join_ok {w : Str} {ns : List Int} (hw : w.length ≤ 10) (hl : ns.length ≤ 30) (hn : ∀ n ∈ ns, 0 ≤ n ∧ n < 1000) :
    (some (D.str w :: ns.map fun n => D.str (numS n))).bind strsOf = some (w :: ns.map numS) ∧ ((w :: ns.map numS).map (·.length)).sum + (w :: ns.map numS).length * (" " : Str).length ≤ 16777216 := by
  refine ⟨?_, ?_⟩
  · have := strsOf_map (w :: ns.map numS)
    rw [List.map_cons, List.map_map] at this
    exact this
  · have := numS_sum hn
    have e : (" " : Str).length = 1 := by decide +kernel
    rw [List.map_cons, List.sum_cons, List.length_cons, List.length_map, e]
    omega
theorem size_line (w : Int) : ("size " : Str) ++ numS w = lineS "size" [w] := by
  refine TL.ext_tl ?_
  rw [tl_line, TL.tl_append]
  show _ = TL.tl ("size" : Str) ++ ([32] ++ TL.tl (numS w))
  rw [← List.append_assoc]
  congr 1
theorem frm_take {fs : List Frm} {i : Nat} {f : Frm} (h : fs[i]? = some f) : (fs.take (i + 1)).flatMap frmL = (fs.take i).flatMap frmL ++ frmL f := by
  rw [List.take_add_one, h, Option.toList_some, List.flatMap_append, List.flatMap_cons, List.flatMap_nil, List.append_nil]
theorem frm_le {fs : List Frm} {gs : List (List Int)} {w i : Nat} {f : Frm} (h : fs[i]? = some f) (hln : (filmL w fs gs).length ≤ 65) : ((fs.take i).flatMap frmL).length + f.1.length + 1 ≤ 64 := by
  have h1 : ((fs.take (i + 1)).flatMap frmL).length ≤ (fs.flatMap frmL).length := by
    conv => rhs; rw [← List.take_append_drop (i + 1) fs]
    rw [List.flatMap_append, List.length_append]
    omega
  have h2 := hln
  unfold filmL rowsL at h2
  rw [List.length_cons, List.length_append] at h2
  rw [frm_take h, List.length_append] at h1
  unfold frmL at h1 h2 ⊢
  rw [List.length_cons, List.length_map] at h1
  omega
theorem ml_l_lines {ls : List Lo} {M : Led} {Kd : Lo → Led → Prop} {Ed : Exn → Led → Prop} (h : sp_l_lines ls M Kd Ed) : M.length ≤ 0 := by
  obtain ⟨_, _, _, _, e, _⟩ := h
  rw [e]
  exact Nat.le_refl _
def n_l_lines : List Str := ["_law_shape_here", "_law_found", "_law_packets_here", "_law_references_here", "_law_one", "_law_byte", "_law_group"]
def rd_l_lines (ex : EX) : RS := (rSeq (rAsg (rLstO (rCons (qOp (oAdd outF) (rCon (.str "size ")) (qCa oStr (rCons (qOp oIx (rVar 0) (rCon (.int 0))) rNil))) rNil)) (rName 1))
  (rSeq (rFor (rIList (qOp oIx (rVar 0) (rCon (.int 1)))) (rGTup 2 (rGCons (rName 2) (rGCons (rName 3) rGNil))) (rSeq (rDrop (rMe "list" oAppend (rVar 1) (rCons (rMe "str" oJoin (rCon (.str " ")) (rCons (qOp (oAdd outF) (rLst (rCons (rCon (.str "frame")) rNil)) (rLcG outF (rITup (rVar 3)) (rName 4) rYes (qCa oStr (rCons (rVar 4) rNil)) [4])) rNil)) rNil)))
  (rFor (rITup (rVar 2)) (rName 4) (rDrop (rMe "list" oAppend (rVar 1) (rCons (rMe "str" oJoin (rCon (.str " ")) (rCons (qOp (oAdd outF) (rLst (rCons (rCon (.str "packet")) rNil)) (rLcG outF (rITup (rVar 4)) (rName 5) rYes (qCa oStr (rCons (rVar 5) rNil)) [5])) rNil)) rNil))))))
  (rSeq (rFor (rIList (qOp oIx (rVar 0) (rCon (.int 2)))) (rName 6) (rDrop (rMe "list" oAppend (rVar 1) (rCons (rMe "str" oJoin (rCon (.str " ")) (rCons (qOp (oAdd outF) (rLst (rCons (rCon (.str "set")) rNil)) (rLcG outF (rITup (rVar 6)) (rName 4) rYes (qCa oStr (rCons (rVar 4) rNil)) [4])) rNil)) rNil))))
  (rWkF 0 (rRet (rVar 1))))))
theorem m_l_lines : MtX sp_l_lines rd_l_lines n_l_lines := fun {ls M Kd Ed} h => by
  obtain ⟨w, fs, gs, rfl, rfl, fo, k⟩ := h
  have hl := fo.ln
  have h8 := fo.w8
  have hg := fo.cv.ln
  have hln := film_lines fo
  unfold rd_l_lines n_l_lines
  walk_at "s"
  refine ⟨log_lt (by omega) (by omega), ?_, ?_⟩
  · have := (numS_len (n := (w : Int)) (by omega) (by omega)).2
    have e : ("size " : Str).length = 5 := by decide +kernel
    rw [sizeLine_eq]
    show ("size " : Str).length + (numS (w : Int)).length ≤ _
    omega
  rw [show Str.ofString "size " ++ Str.ofString (toString ((w : Nat) : Int)) = lineS "size" [(w : Int)] from size_line _]
  refine ⟨fun i Γ' M' => ∃ a b c : Option Lo, Γ' = [_, _, a, b, c, none, none] ∧ M' = [.li ((lineS "size" [(w : Int)] :: (fs.take i).flatMap frmL).map D.str)], ⟨none, none, none, rfl, rfl⟩, ?_, ?_⟩
  · intro i d Γ' M' hd hI
    obtain ⟨a, b, c, rfl, rfl⟩ := hI
    rw [List.getElem?_map] at hd
    obtain ⟨⟨ps, rs⟩, hf, rfl⟩ := Option.map_eq_some_iff.mp hd
    have fo2 := fo.fr i _ hf
    have hi : i < fs.length := (List.getElem?_eq_some_iff.mp hf).1
    have hr := frmL_len h8 fo2 (by omega)
    have hac := frm_le hf hln.2
    have hac : ((fs.take i).flatMap frmL).length + ps.length + 1 ≤ 64 := hac
    walk_at "s"
    have hrl : rs.length ≤ 24 := hr.2
    obtain ⟨j1, j2⟩ := join_ok (w := "frame") (ns := rs) (by decide) (by omega) hr.1
    refine ⟨by rw [sizeLine_eq]; omega, fun n hn => log_lt (hr.1 n hn).1 (hr.1 n hn).2, by rw [sizeLine_eq]; omega, _, j1, j2, ?_⟩
    refine ⟨fun j Γ' M' => ∃ c : Option Lo, Γ' = [_, _, _, _, c, none, none] ∧ M' = [.li ((lineS "size" [(w : Int)] :: ((fs.take i).flatMap frmL ++ lineS "frame" rs :: (ps.take j).map (lineS "packet"))).map D.str)], ⟨c, rfl, ?_⟩, ?_, ?_⟩
    · simp only [List.map_cons, List.map_append, List.take_zero, List.map_nil]
      rfl
    · intro j d Γ' M' hd hI
      obtain ⟨c, rfl, rfl⟩ := hI
      rw [List.getElem?_map] at hd
      obtain ⟨p, hp, rfl⟩ := Option.map_eq_some_iff.mp hd
      have pk := fo2.pk p (List.mem_of_getElem? hp)
      have hj : j < ps.length := (List.getElem?_eq_some_iff.mp hp).1
      have hpl : p.length ≤ 8 := by rw [pk.1]; exact h8
      have hml : min j ps.length ≤ 64 := by omega
      obtain ⟨j1, j2⟩ := join_ok (w := "packet") (ns := p) (by decide) (by omega) (pk_rg pk)
      walk_at "s"
      refine ⟨fun n hn => log_lt (pk_rg pk n hn).1 (pk_rg pk n hn).2, _, j1, j2, by rw [sizeLine_eq, List.length_take]; omega, _, rfl, ?_⟩
      rw [List.take_add_one, hp, Option.toList_some]
      simp only [List.map_append, List.map_cons, List.map_nil, List.append_assoc, List.cons_append, List.nil_append, lineS]
    · intro Γ' M' hI
      obtain ⟨c, rfl, rfl⟩ := hI
      rw [List.length_map, List.take_length]
      walk_at "s"
      refine ⟨_, _, _, rfl, ?_⟩
      rw [frm_take hf]
      rfl
  · intro Γ' M' hI
    obtain ⟨a, b, c, rfl, rfl⟩ := hI
    rw [List.length_map, List.take_length]
    walk_at "s"
    refine ⟨fun j Γ' M' => ∃ c e : Option Lo, Γ' = [_, _, a, b, c, none, e] ∧ M' = [.li ((lineS "size" [(w : Int)] :: (fs.flatMap frmL ++ (gs.take j).map (lineS "set"))).map D.str)], ⟨c, none, rfl, ?_⟩, ?_, ?_⟩
    · simp only [List.map_cons, List.map_append, List.take_zero, List.map_nil, List.append_nil]
    · intro j d Γ' M' hd hI
      obtain ⟨c, e, rfl, rfl⟩ := hI
      rw [List.getElem?_map] at hd
      obtain ⟨g, hgj, rfl⟩ := Option.map_eq_some_iff.mp hd
      have gr := g_rg (fo.cv.ok g (List.mem_of_getElem? hgj)) (by omega) (by omega)
      have hj : j < gs.length := (List.getElem?_eq_some_iff.mp hgj).1
      have hgl := gr.2
      have hml : min j gs.length ≤ 16 := by omega
      have hfl : (fs.flatMap frmL).length ≤ 64 := by
        have h2 := hln.2
        unfold filmL rowsL at h2
        rw [List.length_cons, List.length_append] at h2
        omega
      obtain ⟨j1, j2⟩ := join_ok (w := "set") (ns := g) (by decide) (by omega) gr.1
      walk_at "s"
      refine ⟨fun n hn => log_lt (gr.1 n hn).1 (gr.1 n hn).2, _, j1, j2, by rw [sizeLine_eq, List.length_take]; omega, _, _, rfl, ?_⟩
      rw [List.take_add_one, hgj, Option.toList_some]
      simp only [List.map_append, List.map_cons, List.map_nil, List.append_assoc, List.cons_append, List.nil_append, lineS]
    · intro Γ' M' hI
      obtain ⟨c, e, rfl, rfl⟩ := hI
      rw [List.length_map, List.take_length]
      walk_at "s"
      exact back0 k
theorem fr_pk9 {w : Nat} {b : List Int} (h : PkOk w b) (hw : w ≤ 8) : Fr 1 400 (pkD b) := (fr_tup (k := 0) (m := 41) 8 (fun d hd => by
  obtain ⟨x, hx, rfl⟩ := List.mem_map.mp hd
  have := h.2 x hx
  exact fr_int (by omega)) (by rw [List.length_map, h.1]; exact hw)).up (by decide) (by decide)
theorem fr_fm9 {w : Nat} {fs : List Frm} {gs : List (List Int)} (fo : FmOk w fs gs) {f : Frm} (hf : f ∈ fs) : Fr 3 30000 (fmD f) := by
  obtain ⟨j, hj⟩ := List.mem_iff_getElem?.mp hf
  obtain ⟨l1, l2⟩ := fo.ln
  have hjl := (List.getElem?_eq_some_iff.mp hj).1
  have fr := fo.fr j f hj
  have hfl : f.1.length ≤ 24 := by
    have h : f.1.length ≤ (flatF fs).length := by
      obtain ⟨a, b, rfl⟩ := List.append_of_mem hf
      unfold flatF
      rw [List.flatMap_append, List.flatMap_cons, List.length_append, List.length_append]
      omega
    omega
  have hrl : f.2.length ≤ 24 := by
    rcases fr.rf with h | h
    · rw [h]; exact Nat.zero_le _
    · have := h.len (by omega); omega
  have hr : ∀ x ∈ f.2, x.natAbs < 10 ^ 40 := fun x hx => by
    rcases fr.rf with h | h
    · rw [h] at hx; cases hx
    · have := h.rg x hx; omega
  exact (fr_tup (ds := [.tup (f.1.map pkD), .tup (f.2.map D.int)]) (k := 2) (m := 10000) 2 (fun d hd => by
    simp only [List.mem_cons, List.not_mem_nil, or_false] at hd
    rcases hd with rfl | rfl
    · exact (fr_tup (k := 1) (m := 400) 24 (fun d hd => by
        obtain ⟨p, hp, rfl⟩ := List.mem_map.mp hd
        exact fr_pk9 (fr.pk p hp) fo.w8) (by rw [List.length_map]; exact hfl)).up (by decide) (by decide)
    · exact (fr_tup (k := 0) (m := 41) 24 (fun d hd => by
        obtain ⟨x, hx, rfl⟩ := List.mem_map.mp hd
        exact fr_int (hr x hx)) (by rw [List.length_map]; exact hrl)).up (by decide) (by decide)) (Nat.le_refl 2)).up (by decide) (by decide)
theorem fr_fs9 {w : Nat} {fs : List Frm} {gs : List (List Int)} (fo : FmOk w fs gs) : Fr 4 1000000 (.lst (fs.map fmD)) := (fr_lst (k := 3) (m := 30000) 24 (fun d hd => by
  obtain ⟨f, hf, rfl⟩ := List.mem_map.mp hd
  exact fr_fm9 fo hf) (by rw [List.length_map]; exact fo.ln.1)).up (by decide) (by decide)
theorem line_asc1 {w : Str} {ns : List Int} (hw : ∀ c ∈ TL.tl w, c < 1114112) (hn : ∀ n ∈ ns, 0 ≤ n) : ∀ c ∈ TL.tl (lineS w ns), c < 1114112 := fun c h => by
  rw [tl_line] at h
  rcases joinL_mem h with h | ⟨p, hp, hc⟩
  · rw [List.mem_singleton.mp h]; decide
  · obtain ⟨y, hy, rfl⟩ := List.mem_map.mp hp
    rcases List.mem_cons.mp hy with rfl | hy
    · exact hw c hc
    · obtain ⟨n, hm, rfl⟩ := List.mem_map.mp hy
      rw [tl_numS (hn n hm)] at hc
      have := TL.numL_digits _ c hc
      omega
theorem line_asc {w : Nat} {fs : List Frm} {gs : List (List Int)} (fo : FmOk w fs gs) : ∀ l ∈ filmL w fs gs, ∀ c ∈ TL.tl l, c < 1114112 := by
  have hl := fo.ln
  have h8 := fo.w8
  intro l hm
  unfold filmL rowsL at hm
  rcases List.mem_cons.mp hm with rfl | hm
  · exact line_asc1 (by rw [tl_size]; decide) fun n hn => by rw [List.mem_singleton.mp hn]; omega
  · rcases List.mem_append.mp hm with hm | hm
    · obtain ⟨f, hf, hm⟩ := List.mem_flatMap.mp hm
      obtain ⟨j, hj⟩ := List.mem_iff_getElem?.mp hf
      have fo2 := fo.fr j f hj
      have hj2 : j < fs.length := (List.getElem?_eq_some_iff.mp hj).1
      have hr := frmL_len h8 fo2 (by omega)
      rcases List.mem_cons.mp hm with rfl | hm
      · exact line_asc1 (by rw [tl_frame]; decide) fun n hn => (hr.1 n hn).1
      · obtain ⟨p, hp, rfl⟩ := List.mem_map.mp hm
        exact line_asc1 (by rw [tl_packet]; decide) fun n hn => (pk_rg (fo2.pk p hp) n hn).1
    · obtain ⟨g, hg, rfl⟩ := List.mem_map.mp hm
      exact line_asc1 (by rw [tl_set]; decide) fun n hn => ((g_rg (fo.cv.ok g hg) (by omega) (by omega)).1 n hn).1
theorem text_ok {w : Nat} {fs : List Frm} {gs : List (List Int)} (fo : FmOk w fs gs) : okrr (.str (textS (filmL w fs gs))) = true := by
  have hln := film_lines fo
  have htl : (textS (filmL w fs gs)).length ≤ 20000 := by
    have := text_len (ls := filmL w fs gs) fun l hl => (hln.1 l hl).1
    have := hln.2
    omega
  have hc : ∀ c ∈ TL.tl (textS (filmL w fs gs)), c < 1114112 := fun c hc => by
    unfold textS at hc
    rw [TL.join_eq, TL.tl_join, tl_nl] at hc
    rcases joinL_mem hc with h | ⟨p, hp, h⟩
    · rw [List.mem_singleton.mp h]; decide
    · obtain ⟨l, hl, rfl⟩ := List.mem_map.mp hp
      exact line_asc fo l hl c h
  refine (fr_str (m := 300000) ?_ ?_).ok
  · unfold PyData.strOk
    rw [← Array.all_toList, List.all_eq_true]
    exact fun c h => decide_eq_true (hc c h)
  · show 10 * (textS (filmL w fs gs)).length + 2 ≤ _
    omega
abbrev shC (c : Nat × List Frm × List (List Int)) : D := shD c.1 c.2.1 c.2.2
def fullF : List Frm := (List.range 12).map fun k : Nat => ([[(k : Int), 255], [0, 9]], ioI 0 k)
def fullG : List (List Int) := (List.range 16).map fun k : Nat => ioI k (24 - (k : Int)).toNat
def lastF : List Frm := [([List.replicate 8 10, List.replicate 8 255], [])]
theorem flat_full : (flatF fullF).length = 24 := by decide
theorem full_ok : FmOk 2 fullF fullG where
  w1 := by decide
  w8 := by decide
  fr := fun j f h => by
    unfold fullF at h
    rw [List.getElem?_map] at h
    obtain ⟨k, hk, rfl⟩ := Option.map_eq_some_iff.mp h
    have hj : j < 12 := by
      have := (List.getElem?_eq_some_iff.mp hk).1
      rwa [List.length_range] at this
    rw [List.getElem?_range hj] at hk
    cases hk
    refine ⟨(fun e => nomatch e), by show 2 ≤ 1000; decide, fun p hp => ?_, ?_⟩
    · simp only [List.mem_cons, List.not_mem_nil, or_false] at hp
      rcases hp with rfl | rfl
      · exact ⟨rfl, fun x hx => by
          simp only [List.mem_cons, List.not_mem_nil, or_false] at hx
          omega⟩
      · exact ⟨rfl, fun x hx => by
          simp only [List.mem_cons, List.not_mem_nil, or_false] at hx
          omega⟩
    · rcases Nat.eq_zero_or_pos j with z | z
      · exact .inl (by rw [z]; rfl)
      · exact .inr (ioI_ok (by decide) z (by omega))
  cv := by
    rw [flat_full]
    refine ⟨by decide, by decide, by decide, fun g hg => ?_⟩
    unfold fullG at hg
    obtain ⟨k, hk, rfl⟩ := List.mem_map.mp hg
    have hk := List.mem_range.mp hk
    exact ioI_ok (by omega) (by omega) (by omega)
theorem last_ok : FmOk 8 lastF [[0], [0, 1]] where
  w1 := by decide
  w8 := by decide
  fr := fun j f h => by
    unfold lastF at h
    cases j with
    | succ j => cases h
    | zero =>
      cases h
      refine ⟨(fun e => nomatch e), by show 2 ≤ 1000; decide, fun p hp => ?_, .inl rfl⟩
      simp only [List.mem_cons, List.not_mem_nil, or_false] at hp
      rcases hp with rfl | rfl
      · exact ⟨rfl, fun x hx => by have := (List.mem_replicate.mp hx).2; omega⟩
      · exact ⟨rfl, fun x hx => by have := (List.mem_replicate.mp hx).2; omega⟩
  cv := by
    refine ⟨by decide, by decide, by decide, fun g hg => ?_⟩
    show GOk 2 g
    simp only [List.mem_cons, List.not_mem_nil, or_false] at hg
    rcases hg with rfl | rfl
    · exact ⟨(fun e => nomatch e), by decide, by decide⟩
    · exact ⟨(fun e => nomatch e), by decide, by decide⟩
theorem none_ok : FmOk 1 [] [] where
  w1 := by decide
  w8 := by decide
  fr := fun j f h => nomatch h
  cv := ⟨by decide, by decide, by decide, fun g hg => nomatch hg⟩
theorem full_d : ((List.range 12).map fun x : Nat => D.tup [D.tup [D.tup [D.int x, D.int 255], D.tup [D.int 0, D.int 9]], D.tup (rangeD 0 x)]) = fullF.map fmD := by
  unfold fullF
  rw [List.map_map]
  refine List.map_congr_left fun x _ => ?_
  rw [rangeD_io]
  rfl
theorem fullG_d : ((List.range 16).map fun x : Nat => D.tup (rangeD (x : Int) (24 - (x : Int)).toNat)) = fullG.map dT := by
  unfold fullG
  rw [List.map_map]
  refine List.map_congr_left fun x _ => ?_
  rw [rangeD_io]
  rfl
def sp_law : DSp := fun ls M Kd _ => ∃ ns : List Int, ls = [.im (.scr ns)] ∧ M = [] ∧ ∀ M', Kd (.im (.bl true)) M'
theorem sp_law_in : ∀ (ns : List Int) (Kd : Lo → Led → Prop) (Ed : Exn → Led → Prop), ns.length ≤ 63 → (∀ M, Kd (.im (.bl true)) M) → sp_law [.im (.scr ns)] [] Kd Ed := fun ns Kd Ed _ h => ⟨ns, rfl, rfl, h⟩
theorem len_law : ∀ ls M Kd Ed, sp_law ls M Kd Ed → ls.length = 1 := fun ls M Kd Ed ⟨_, e, _⟩ => by rw [e]; rfl
theorem ml_law {ls : List Lo} {M : Led} {Kd : Lo → Led → Prop} {Ed : Exn → Led → Prop} (h : sp_law ls M Kd Ed) : M.length ≤ 0 := by
  obtain ⟨_, _, e, _⟩ := h
  rw [e]
  exact Nat.le_refl _
def n_law : List Str := ["_law_script", "_law_pen_here", "_law_full", "_law_k", "_law_cases", "_law_turn", "_law_shape_here", "_law_made", "_law_due", "_law_again", "_law_found"]
def rd_law (ex : EX) : RS := (rSeq (rAsg (rCallD sp_l_pen ex (rCons (rVar 0) rNil)) (rName 1))
  (rSeq (rAsg (rLcG outF (rIRan1 (rCons (rCon (.int 12)) rNil)) (rName 3) rYes (rTup (rCons (rTup (rCons (rTup (rCons (rVar 3) (rCons (rCon (.int 255)) rNil))) (rCons (rTup (rCons (rCon (.int 0)) (rCons (rCon (.int 9)) rNil))) rNil))) (rCons (rTupRg (rVar 3)) rNil))) [3]) (rName 2))
  (rSeq (rAsg (rLstO (rCons (rTup (rCons (rCon (.int 1)) (rCons (rLst rNil) (rCons (rLst rNil) rNil)))) (rCons (rTup (rCons (rCon (.int 2)) (rCons (rVar 2) (rCons (rLcG outF (rIRan1 (rCons (rCon (.int 16)) rNil)) (rName 3) rYes (rTupRg2 (rVar 3) (rCon (.int 24))) [3]) rNil)))) rNil))) (rName 4))
  (rSeq (rDrop (rMe "list" oAppend (rVar 4) (rCons (rTup (rCons (rCon (.int 8)) (rCons (rLst (rCons (rTup (rCons (rTup (rCons (qOp (oMul outF) (rTup (rCons (rCon (.int 10)) rNil)) (rCon (.int 8))) (rCons (qOp (oMul outF) (rTup (rCons (rCon (.int 255)) rNil)) (rCon (.int 8))) rNil))) (rCons (rTup rNil) rNil))) rNil)) (rCons (rLst (rCons (rTup (rCons (rCon (.int 0)) rNil)) (rCons (rTup (rCons (rCon (.int 0)) (rCons (rCon (.int 1)) rNil))) rNil))) rNil)))) rNil)))
  (rSeq (rFor (rIRan1 (rCons (rCon (.int 10)) rNil)) (rName 5) (rDrop (rMe "list" oAppend (rVar 4) (rCons (rCallP sp_l_shape (rCons (rVar 1) (rCons (rCon (.int 5)) (rCons (rCon (.int 5)) rNil)))) rNil))))
  (rSeq (rWkF 1 (rFor (rIList (rVar 4)) (rName 6) (rSeq (rPar 7 8 (rCons (rCallD sp_l_film ex (rCons (rVar 6) rNil)) (rCons (rMe "str" oJoin (rCon (.str "\n")) (rCons (rCallD sp_l_lines ex (rCons (rVar 6) rNil)) rNil)) rNil)))
  (rFor (rIRan1 (rCons (rCon (.int 2)) rNil)) (rName 9) (rSeq (rIf (rOrT (rB (qOp oNe (qCa oReprR (rCons (rCallD sp_format_film ex (rCons (rVar 7) rNil)) rNil)) (qCa oReprR (rCons (rVar 8) rNil)))) (rB (qOp (oNeO "Film" sp_Film_eq) (rVar 7) (rCallD sp_l_film ex (rCons (rVar 6) rNil))))) (rRet (rCon (.bl false))) rNext)
  (rSeq (rAsg (rCallD sp_parse_film ex (rCons (rVar 8) rNil)) (rName 10))
  (rIf (rOrT (rB (qOp (oNeO "Film" sp_Film_eq) (rVar 10) (rVar 7))) (rOrT (rB (qOp oNe (qCa oReprR (rCons (rProp "Film" sp_Film_frames (rVar 10)) rNil)) (qCa oReprR (rCons (qOp oIx (rVar 6) (rCon (.int 1))) rNil)))) (rB (qOp oNe (rProp "Cover" sp_Cover_sets (rProp "Film" sp_Film_cover (rVar 10))) (qOp oIx (rVar 6) (rCon (.int 2))))))) (rRet (rCon (.bl false))) rNext)))))))
  (rRet (rCon (.bl true)))))))))
theorem m_law : MtX sp_law rd_law n_law := fun {ls M Kd Ed} h => by
  obtain ⟨ns, rfl, rfl, k⟩ := h
  unfold rd_law n_law
  walk_at "s"
  refine ⟨ns, rfl, rfl, fun ns' hns => ?_⟩
  walk_at "s"
  refine ⟨fun x hx => ?_, fun x hx => ?_, (fun e => nomatch e), (fun e => nomatch e), ?_⟩
  · have := List.mem_range.mp hx
    unfold rgLim
    omega
  · have := List.mem_range.mp hx
    unfold rgLim
    omega
  refine ⟨fun t Γ' M' => t ≤ 10 → ∃ (cs : List (Nat × List Frm × List (List Int))) (a b : Option Lo) (i c : Int), Γ' = [_, _, _, none, some (.ow 1), b, none, none, none, none, none] ∧ M' = [pn ns' i c, .li (cs.map shC)] ∧ (∀ c ∈ cs, FmOk c.1 c.2.1 c.2.2) ∧ (b = none ∨ ∃ d, b = some (.im d)) ∧ cs.length ≤ t + 3 ∧ PenC (3000 * t) i c, fun _ => ⟨[(1, [], []), (2, fullF, fullG), (8, lastF, [[0], [0, 1]])], none, none, 0, 0, rfl, ?_, ?_, .inl rfl, by decide, by decide, by decide, by decide⟩, ?_, ?_⟩
  · rw [full_d, fullG_d]
    rfl
  · intro c hc
    simp only [List.mem_cons, List.not_mem_nil, or_false] at hc
    rcases hc with rfl | rfl | rfl
    · exact none_ok
    · exact full_ok
    · exact last_ok
  · intro t d Γ' M' hd hI
    obtain ⟨ht, rfl⟩ := rangeD_get.mp hd
    have ht : t < 10 := ht
    obtain ⟨cs, a, b, i, c, rfl, rfl, hcs, hb, hcl, hp⟩ := hI (by omega)
    clear hI hd
    walk_at "s"
    refine ⟨_, ns', i, c, 5, 5, rfl, rfl, hp, by omega, by decide, by decide, by decide, by decide, fun i2 c2 w fs gs hp2 hw fo hfl hgl => ?_⟩
    walk_at "s"
    refine fun _ => ⟨cs ++ [(w, fs, gs)], none, _, i2, c2, rfl, by rw [List.map_append]; rfl, fun c hc => ?_, .inr ⟨_, rfl⟩, by rw [List.length_append, List.length_singleton]; omega, hp2.up (by omega)⟩
    rcases List.mem_append.mp hc with hc | hc
    · exact hcs c hc
    · rw [List.mem_singleton.mp hc]; exact fo
  · intro Γ' M' hI
    rw [rangeD_len] at hI
    obtain ⟨cs, a, b, i, c, rfl, rfl, hcs, hb, hcl, hp⟩ := hI (Nat.le_refl _)
    clear hI
    rw [full_d]
    have hb2 : ∃ b2, (b2 = none ∨ ∃ d, b2 = some (.im d)) ∧ b = b2 := ⟨b, hb, rfl⟩
    rcases hb with rfl | ⟨d, rfl⟩
    all_goals
      walk_at "s"
      refine ⟨fun t Γ' M' => ∃ a6 a7 a8 a9 a10 : Option Lo, Γ' = [_, _, _, none, _, _, a6, a7, a8, a9, a10] ∧ M' = [pn ns' i c, .gone], ⟨none, none, none, none, none, rfl, rfl⟩, ?_, ?_⟩
      · intro t d Γ' M' hd hI
        obtain ⟨a6, a7, a8, a9, a10, rfl, rfl⟩ := hI
        rw [List.getElem?_map] at hd
        obtain ⟨⟨w, fs, gs⟩, hc, rfl⟩ := Option.map_eq_some_iff.mp hd
        have fo : FmOk w fs gs := hcs _ (List.mem_of_getElem? hc)
        have hln := film_lines fo
        have htx := text_ok fo
        walk_at "s"
        refine ⟨w, fs, gs, rfl, rfl, fo, ?_⟩
        walk_at "s"
        refine ⟨w, fs, gs, rfl, rfl, fo, ?_⟩
        walk_at "s"
        refine ⟨filmL w fs gs, strsOf_map _, strs_len hln, ?_⟩
        rw [show Txt.join (Str.ofString "\n") (filmL w fs gs) = textS (filmL w fs gs) from rfl]
        have hfs := (fr_fs9 fo).ok
        refine ⟨fun t Γ' M' => ∃ b9 b10 : Option Lo, Γ' = [_, _, _, none, _, _, _, _, _, b9, b10] ∧ M' = [pn ns' i c, .gone], ⟨a9, a10, rfl, rfl⟩, ?_, ?_⟩
        · intro u d Γ' M' hd hI
          obtain ⟨hu, rfl⟩ := rangeD_get.mp hd
          obtain ⟨b9, b10, rfl, rfl⟩ := hI
          clear hd
          walk_at "s"
          refine ⟨w, fs, gs, rfl, rfl, fo, ?_⟩
          walk_at "s"
          refine orT_of (fun z => nomatch z) fun _ => ⟨w, fs, gs, rfl, rfl, fo, ?_⟩
          walk_at "s"
          refine ⟨w, fs, gs, rfl, rfl, fo, ?_⟩
          walk_at "u"
          refine ⟨w, fs, gs, rfl, rfl, fo, ?_⟩
          walk_at "s"
          refine ⟨w, fs, gs, rfl, rfl, fo, ?_⟩
          walk_at "s"
          refine orT_of (fun z => nomatch z) fun _ => ⟨w, fs, gs, rfl, rfl, fo, ?_⟩
          walk_at "s"
          refine orT_of (fun z => nomatch z) fun _ => ⟨w, fs, gs, rfl, rfl, ?_⟩
          walk_at "s"
          refine ⟨_, gs, rfl, rfl, fo.cv, ?_⟩
          walk_at "s"
          walk_at "u"
          exact ⟨_, _, rfl⟩
        · intro Γ' M' hI
          obtain ⟨b9, b10, rfl, rfl⟩ := hI
          walk_at "s"
          exact ⟨_, _, _, _, _, rfl⟩
      · intro Γ' M' hI
        obtain ⟨a6, a7, a8, a9, a10, rfl, rfl⟩ := hI
        walk_at "s"
        exact back0 (k _)
end Dl
set_option Elab.async false
set_option maxRecDepth 100000
set_option maxHeartbeats 400000
namespace Dl
open PySem PyProof.Rows L2
abbrev FnAt (K : PySem.W.Frag) (f : Addr) (x q : Str) (st : Stmt) (oc : Value) (od : Option Addr) (sl : Array (Option Value)) (kV dc pm : Value) (an : Option Addr) (cd ct : Value) : Prop := K.lookup f = some ⟨oc, od, .func (PySem.W.fnOf x q (defArgs st) (defBody st) (defScope st) .none kV dc pm an cd ct), sl⟩
abbrev BdT (x q : Str) (st : Stmt) (ps : List Str) : Prop := ∀ (kV doc pm : Value) (an : Option Addr) (cdv ct : Value) (us : List Value), us.length = ps.length → bindArgs (PySem.W.fnOf x q (defArgs st) (defBody st) (defScope st) .none kV doc pm an cdv ct) ⟨us, []⟩ = pure (ps.zip us)
section
variable {K : PySem.W.Frag} {h : Heap} {mg : Str → Option Value} {x q : Str} {st : Stmt} {ps : List Str} {f p : Addr} {oc kV dc pm cd ct : Value} {od an : Option Addr} {sl : Array (Option Value)} {cl : String} {C : Addr} {m : Str} {rs : List Value}
noncomputable def df_mk (X : K.In h) (G : h.Ns mainGlobals mg) (a : PySem.W.nsIn K mainGlobals x = some (some (.ref f))) (l : FnAt K f x q st oc od sl kV dc pm an cd ct) (c : PySem.W.codeIn K cd q = true) (k : PySem.W.keepIn K (.ref f) = true) (b : BdT x q st ps) : Df K mg x q st ps :=
  ⟨f, _, fun_mk (st := st) l c k, PySem.W.mg_of X G a, (fun_mk (st := st) l c k).binds (ps := ps) b⟩
noncomputable def dm_mk (Cl : Cls K (cn K cl)) (nx : PySem.W.nsIn K mainGlobals (Str.ofString cl) = some (some (.ref C))) (a : PySem.W.findIn K (.ref C) m = some (some (.ref f))) (i : PySem.W.isFn K (.ref f) = true) (l : FnAt K f m q st oc od sl kV dc pm an cd ct) (c : PySem.W.codeIn K cd q = true) (k : PySem.W.keepIn K (.ref f) = true) (b : BdT m q st ps) : Dm K cl m q st ps :=
  ⟨f, _, fun_mk (st := st) l c k, met_mk Cl nx a i k, (fun_mk (st := st) l c k).binds (ps := ps) b⟩
noncomputable def dp_mk (Cl : Cls K (cn K cl)) (nx : PySem.W.nsIn K mainGlobals (Str.ofString cl) = some (some (.ref C))) (a : PySem.W.findIn K (.ref C) m = some (some (.ref p))) (g : PySem.W.specialIn K (.ref p) "__get__" = some (some (.builtin "property.__get__"))) (t : PySem.W.takesIn K (.ref p) = some true) (r : PySem.W.recIn K p "property" = some (.ref f :: rs)) (l : FnAt K f m q st oc od sl kV dc pm an cd ct) (c : PySem.W.codeIn K cd q = true) (k : PySem.W.keepIn K (.ref f) = true) (b : BdT m q st ps) : Dp K cl m q st ps :=
  ⟨f, p, _, fun_mk (st := st) l c k, Cl, prop_mk nx a g t r, (fun_mk (st := st) l c k).binds (ps := ps) b⟩
noncomputable def dn_mk (X : K.In h) (G : h.Ns mainGlobals mg) (nx : PySem.W.nsIn K mainGlobals (Str.ofString cl) = some (some (.ref C))) (mk : PySem.W.makesIn K C = true) (kc : PySem.W.keepIn K (.ref C) = true) (a : PySem.W.findIn K (.ref C) "__init__" = some (some (.ref f))) (i : PySem.W.isFn K (.ref f) = true) (l : FnAt K f "__init__" q st oc od sl kV dc pm an cd ct) (c : PySem.W.codeIn K cd q = true) (k : PySem.W.keepIn K (.ref f) = true) (b : BdT "__init__" q st ps) : Dn K mg cl q st ps :=
  ⟨f, _, fun_mk (st := st) l c k, mk_mk nx mk a i kc, g_mk nx (PySem.W.mg_of X G nx), (fun_mk (st := st) l c k).binds (ps := ps) b⟩
end
end Dl
set_option Elab.async false
set_option maxRecDepth 100000
set_option maxHeartbeats 4000000
namespace Dl
open PySem PyProof.Rows L2
def top (i : Nat) : Stmt := PySem.Challenge.pw_evenplay_k13_films_formatted.main.body.getD i (.Pass ⟨0, 0, 0, 0⟩)
abbrev S_is_integer : Stmt := top 9
theorem sc_is_integer : FnScope n_is_integer ["thing"] (defScope S_is_integer) := ⟨rfl, rfl, rfl, by decide +kernel, rfl, by decide +kernel, by decide +kernel⟩
abbrev S_is_set : Stmt := top 15
theorem sc_is_set : FnScope n_is_set ["thing", "count"] (defScope S_is_set) := ⟨rfl, rfl, rfl, by decide +kernel, rfl, by decide +kernel, by decide +kernel⟩
abbrev S_Cover_init : Stmt := inClass (top 17) 0
theorem sc_Cover_init : FnScope n_Cover_init ["self", "count", "sets"] (defScope S_Cover_init) := ⟨rfl, rfl, rfl, by decide +kernel, rfl, by decide +kernel, by decide +kernel⟩
abbrev S_Cover_sets : Stmt := inClass (top 17) 2
theorem sc_Cover_sets : FnScope n_Cover_sets ["self"] (defScope S_Cover_sets) := ⟨rfl, rfl, rfl, by decide +kernel, rfl, by decide +kernel, by decide +kernel⟩
abbrev S_Cover_eq : Stmt := inClass (top 17) 9
theorem sc_Cover_eq : FnScope n_Cover_eq ["self", "other"] (defScope S_Cover_eq) := ⟨rfl, rfl, rfl, by decide +kernel, rfl, by decide +kernel, by decide +kernel⟩
abbrev S_is_size : Stmt := top 16
theorem sc_is_size : FnScope n_is_size ["thing"] (defScope S_is_size) := ⟨rfl, rfl, rfl, by decide +kernel, rfl, by decide +kernel, by decide +kernel⟩
abbrev S_is_byte : Stmt := top 10
theorem sc_is_byte : FnScope n_is_byte ["thing"] (defScope S_is_byte) := ⟨rfl, rfl, rfl, by decide +kernel, rfl, by decide +kernel, by decide +kernel⟩
abbrev S_is_packet : Stmt := top 11
theorem sc_is_packet : FnScope n_is_packet ["thing", "size"] (defScope S_is_packet) := ⟨rfl, rfl, rfl, by decide +kernel, rfl, by decide +kernel, by decide +kernel⟩
abbrev S_is_frame : Stmt := top 19
theorem sc_is_frame : FnScope n_is_frame ["thing", "size", "number"] (defScope S_is_frame) := ⟨rfl, rfl, rfl, by decide +kernel, rfl, by decide +kernel, by decide +kernel⟩
abbrev S_Film_init : Stmt := inClass (top 20) 0
theorem sc_Film_init : FnScope n_Film_init ["self", "size", "frames", "sets"] (defScope S_Film_init) := ⟨rfl, rfl, rfl, by decide +kernel, rfl, by decide +kernel, by decide +kernel⟩
abbrev S_Film_size : Stmt := inClass (top 20) 1
theorem sc_Film_size : FnScope n_Film_size ["self"] (defScope S_Film_size) := ⟨rfl, rfl, rfl, by decide +kernel, rfl, by decide +kernel, by decide +kernel⟩
abbrev S_Film_frames : Stmt := inClass (top 20) 2
theorem sc_Film_frames : FnScope n_Film_frames ["self"] (defScope S_Film_frames) := ⟨rfl, rfl, rfl, by decide +kernel, rfl, by decide +kernel, by decide +kernel⟩
abbrev S_Film_cover : Stmt := inClass (top 20) 4
theorem sc_Film_cover : FnScope n_Film_cover ["self"] (defScope S_Film_cover) := ⟨rfl, rfl, rfl, by decide +kernel, rfl, by decide +kernel, by decide +kernel⟩
abbrev S_Film_eq : Stmt := inClass (top 20) 12
theorem sc_Film_eq : FnScope n_Film_eq ["self", "other"] (defScope S_Film_eq) := ⟨rfl, rfl, rfl, by decide +kernel, rfl, by decide +kernel, by decide +kernel⟩
abbrev S_Reader_init : Stmt := inClass (top 26) 0
theorem sc_Reader_init : FnScope n_Reader_init ["self", "size"] (defScope S_Reader_init) := ⟨rfl, rfl, rfl, by decide +kernel, rfl, by decide +kernel, by decide +kernel⟩
abbrev S_Reader_tally : Stmt := inClass (top 26) 1
theorem sc_Reader_tally : FnScope n_Reader_tally ["self"] (defScope S_Reader_tally) := ⟨rfl, rfl, rfl, by decide +kernel, rfl, by decide +kernel, by decide +kernel⟩
abbrev S_Reader_is_open : Stmt := inClass (top 26) 2
theorem sc_Reader_is_open : FnScope n_Reader_is_open ["self"] (defScope S_Reader_is_open) := ⟨rfl, rfl, rfl, by decide +kernel, rfl, by decide +kernel, by decide +kernel⟩
abbrev S_is_setA : Stmt := top 15
theorem sc_is_setA : FnScope n_is_setA ["thing", "count"] (defScope S_is_setA) := ⟨rfl, rfl, rfl, by decide +kernel, rfl, by decide +kernel, by decide +kernel⟩
abbrev S_Reader_take_frame : Stmt := inClass (top 26) 3
theorem sc_Reader_take_frame : FnScope n_Reader_take_frame ["self", "numbers"] (defScope S_Reader_take_frame) := ⟨rfl, rfl, rfl, by decide +kernel, rfl, by decide +kernel, by decide +kernel⟩
abbrev S_Reader_take_packet : Stmt := inClass (top 26) 4
theorem sc_Reader_take_packet : FnScope n_Reader_take_packet ["self", "numbers"] (defScope S_Reader_take_packet) := ⟨rfl, rfl, rfl, by decide +kernel, rfl, by decide +kernel, by decide +kernel⟩
abbrev S_Reader_take_set : Stmt := inClass (top 26) 5
theorem sc_Reader_take_set : FnScope n_Reader_take_set ["self", "numbers"] (defScope S_Reader_take_set) := ⟨rfl, rfl, rfl, by decide +kernel, rfl, by decide +kernel, by decide +kernel⟩
abbrev S_integer_of : Stmt := top 25
theorem sc_integer_of : FnScope n_integer_of ["word"] (defScope S_integer_of) := ⟨rfl, rfl, rfl, by decide +kernel, rfl, by decide +kernel, by decide +kernel⟩
abbrev S_Reader_read : Stmt := inClass (top 26) 6
theorem sc_Reader_read : FnScope n_Reader_read ["self", "line"] (defScope S_Reader_read) := ⟨rfl, rfl, rfl, by decide +kernel, rfl, by decide +kernel, by decide +kernel⟩
abbrev S_line_of : Stmt := top 23
theorem sc_line_of : FnScope n_line_of ["word", "numbers"] (defScope S_line_of) := ⟨rfl, rfl, rfl, by decide +kernel, rfl, by decide +kernel, by decide +kernel⟩
abbrev S_format_film : Stmt := top 24
theorem sc_format_film : FnScope n_format_film ["film"] (defScope S_format_film) := ⟨rfl, rfl, rfl, by decide +kernel, rfl, by decide +kernel, by decide +kernel⟩
abbrev S_parse_film : Stmt := top 27
theorem sc_parse_film : FnScope n_parse_film ["text"] (defScope S_parse_film) := ⟨rfl, rfl, rfl, by decide +kernel, rfl, by decide +kernel, by decide +kernel⟩
abbrev S_l_pen : Stmt := top 29
theorem sc_l_pen : FnScope n_l_pen ["_law_script"] (defScope S_l_pen) := ⟨rfl, rfl, rfl, by decide +kernel, rfl, by decide +kernel, by decide +kernel⟩
abbrev S_l_next : Stmt := top 30
theorem sc_l_next : FnScope n_l_next ["_law_pen_here"] (defScope S_l_next) := ⟨rfl, rfl, rfl, by decide +kernel, rfl, by decide +kernel, by decide +kernel⟩
abbrev S_l_draw : Stmt := top 31
theorem sc_l_draw : FnScope n_l_draw ["_law_pen_here", "_law_under"] (defScope S_l_draw) := ⟨rfl, rfl, rfl, by decide +kernel, rfl, by decide +kernel, by decide +kernel⟩
abbrev S_l_some : Stmt := top 32
theorem sc_l_some : FnScope n_l_some ["_law_pen_here", "_law_pool", "_law_most"] (defScope S_l_some) := ⟨rfl, rfl, rfl, by decide +kernel, rfl, by decide +kernel, by decide +kernel⟩
abbrev S_l_groups : Stmt := top 33
theorem sc_l_groups : FnScope n_l_groups ["_law_pen_here", "_law_many", "_law_most"] (defScope S_l_groups) := ⟨rfl, rfl, rfl, by decide +kernel, rfl, by decide +kernel, by decide +kernel⟩
abbrev S_l_bytes : Stmt := top 34
theorem sc_l_bytes : FnScope n_l_bytes ["_law_pen_here", "_law_wide"] (defScope S_l_bytes) := ⟨rfl, rfl, rfl, by decide +kernel, rfl, by decide +kernel, by decide +kernel⟩
abbrev S_l_shape : Stmt := top 35
theorem sc_l_shape : FnScope n_l_shape ["_law_pen_here", "_law_most", "_law_most_sets"] (defScope S_l_shape) := ⟨rfl, rfl, rfl, by decide +kernel, rfl, by decide +kernel, by decide +kernel⟩
abbrev S_l_film : Stmt := top 37
theorem sc_l_film : FnScope n_l_film ["_law_shape_here"] (defScope S_l_film) := ⟨rfl, rfl, rfl, by decide +kernel, rfl, by decide +kernel, by decide +kernel⟩
abbrev S_l_lines : Stmt := top 38
theorem sc_l_lines : FnScope n_l_lines ["_law_shape_here"] (defScope S_l_lines) := ⟨rfl, rfl, rfl, by decide +kernel, rfl, by decide +kernel, by decide +kernel⟩
abbrev S_law : Stmt := top 39
theorem sc_law : FnScope n_law ["_law_script"] (defScope S_law) := ⟨rfl, rfl, rfl, by decide +kernel, rfl, by decide +kernel, by decide +kernel⟩
structure Txt (K : PySem.W.Frag) (mg : Str → Option Value) where
  z_all : mg "all" = none
  z_bool : mg "bool" = none
  z_enumerate : mg "enumerate" = none
  z_int : mg "int" = none
  z_isinstance : mg "isinstance" = none
  z_len : mg "len" = none
  z_list : mg "list" = none
  z_max : mg "max" = none
  z_min : mg "min" = none
  z_range : mg "range" = none
  z_repr : mg "repr" = none
  z_set : mg "set" = none
  z_sorted : mg "sorted" = none
  z_str : mg "str" = none
  z_sum : mg "sum" = none
  z_tuple : mg "tuple" = none
  t_FIGURES : Tok
  c_FIGURES : mg "FIGURES" = some (.str "0123456789" t_FIGURES)
  t_MAX_BYTE : Tok
  c_MAX_BYTE : mg "MAX_BYTE" = some (.int 255 t_MAX_BYTE)
  t_MAX_PACKETS : Tok
  c_MAX_PACKETS : mg "MAX_PACKETS" = some (.int 24 t_MAX_PACKETS)
  t_MAX_SETS : Tok
  c_MAX_SETS : mg "MAX_SETS" = some (.int 16 t_MAX_SETS)
  t_MAX_SIZE : Tok
  c_MAX_SIZE : mg "MAX_SIZE" = some (.int 8 t_MAX_SIZE)
  tb : TbOk K tbl
  kg_Cover : mg "Cover" = some (.ref (cn K "Cover"))
  kg_Film : mg "Film" = some (.ref (cn K "Film"))
  fo_Cover_known : FldOk K "Cover" "known"
  fo_Cover_mixtures : FldOk K "Cover" "mixtures"
  fo_Cover_vectors : FldOk K "Cover" "vectors"
  fo_Film_flat : FldOk K "Film" "flat"
  fo_Film_mixtures : FldOk K "Film" "mixtures"
  fo_Film_owners : FldOk K "Film" "owners"
  fo_Film_rows : FldOk K "Film" "rows"
  fo_Film_width : FldOk K "Film" "width"
  fo_Reader_groups : FldOk K "Reader" "groups"
  fo_Reader_rows : FldOk K "Reader" "rows"
  fo_Reader_wide : FldOk K "Reader" "wide"
  ne_Film : NeOk K "Film"
section
variable {T : Tbs} {P : Program} {w : World} {K : PySem.W.Frag} {mg : Str → Option Value} {base : Heap}
theorem ok_is_integer (Tx : Txt K mg) (D_is_integer : Df K mg "is_integer" "is_integer" S_is_integer ["thing"])  : Gn T P w K mg base 1 D_is_integer.f D_is_integer.fd ["thing"] sp_is_integer := by
  refine gn_of D_is_integer.F sc_is_integer len_is_integer ?_
  intro Ss G0 H0 Ab Gb X ls M Kd Ed cdv A outer s H E hX hcdv hr hg tk hp hbl hsp
  subst hX
  have gg : QSs ⟨K, Ss, G0, H0, Ab, Gb, T⟩ (cxOf (L2.CX P w) P w K mg base n_is_integer "is_integer" (defScope S_is_integer) D_is_integer.f cdv A outer s H E) (defBody S_is_integer) (rd_is_integer (fun x _ M' => BackX M.length Ed x M')) := (q_sone (q_ret (q_and (q_isi "int" rfl Tx.z_isinstance Tx.z_int (by decide +kernel) (q_var 0)) (q_one (q_notV (q_isi "bool" rfl Tx.z_isinstance Tx.z_bool (by decide +kernel) (q_var 0)))))))
  exact ⟨rd_is_integer (fun x _ M' => BackX M.length Ed x M'), gg, m_is_integer hsp⟩
theorem ok_is_set (Tx : Txt K mg) (D_is_set : Df K mg "is_set" "is_set" S_is_set ["thing", "count"]) (D_is_integer : Df K mg "is_integer" "is_integer" S_is_integer ["thing"]) (F_is_integer : Gn T P w K mg base 1 D_is_integer.f D_is_integer.fd ["thing"] sp_is_integer) : Gn T P w K mg base 2 D_is_set.f D_is_set.fd ["thing", "count"] sp_is_set := by
  refine gn_of D_is_set.F sc_is_set len_is_set ?_
  intro Ss G0 H0 Ab Gb X ls M Kd Ed cdv A outer s H E hX hcdv hr hg tk hp hbl hsp
  subst hX
  have gg : QSs ⟨K, Ss, G0, H0, Ab, Gb, T⟩ (cxOf (L2.CX P w) P w K mg base n_is_set "is_set" (defScope S_is_set) D_is_set.f cdv A outer s H E) (defBody S_is_set) (rd_is_set (fun x _ M' => BackX M.length Ed x M')) := (q_scons (q_if (q_wt (q_wor (q_not (q_tv (q_isi "tuple" rfl Tx.z_isinstance Tx.z_tuple (by decide +kernel) (q_var 0)))) (q_wor (q_tcmp eqL (op_eqU hr) (q_var 0) (q_tup q_nil) rfl) (q_wor1 (q_not (q_tv (q_bi (id := "all") allL (cr_all rfl) (by decide +kernel) Tx.z_all (q_cons (q_lcG (own := [("number", 2)]) outF_ok rfl sc_is_set.nd (blkOk_by (N := n_is_set) (sc := (defScope S_is_set)) (own := [("number", 2)]) (by decide +kernel)) (by decide) (q_itup rfl (q_var 0)) (fun _ _ _ _ _ => (q_name 2 sc_is_set.nd)) (fun _ _ _ _ _ => q_tnil) (fun _ _ _ _ _ => (q_callD F_is_integer D_is_integer.m D_is_integer.b D_is_integer.F.kp (hr.mono (by decide)) hg rfl tkF (q_cons (q_var 2) q_nil)))) q_nil)))))))) (q_sone (q_ret q_bl)) q_snil)
  (q_sone (q_ret (q_and (q_cmp eqL (op_eqU hr) (q_bt (T := "list") (listL outF_new) call_list_of (by decide +kernel) Tx.z_list (q_cons (q_var 0) q_nil)) (q_srtSet rfl outF_new Tx.z_sorted Tx.z_set (q_var 0)) rfl) (q_and (q_cmp geL op_ge (q_ix rfl (q_var 0) q_int) q_int rfl) (q_one (q_cmp ltL op_lt (q_ix rfl (q_var 0) (q_un negL un_neg q_int)) (q_var 1) rfl)))))))
  exact ⟨rd_is_set (fun x _ M' => BackX M.length Ed x M'), gg, m_is_set hsp⟩
theorem ok_Cover_init (Tx : Txt K mg) (D_Cover_init : Dn K mg "Cover" "Cover.__init__" S_Cover_init ["self", "count", "sets"]) (D_is_integer : Df K mg "is_integer" "is_integer" S_is_integer ["thing"]) (F_is_integer : Gn T P w K mg base 1 D_is_integer.f D_is_integer.fd ["thing"] sp_is_integer) (D_is_set : Df K mg "is_set" "is_set" S_is_set ["thing", "count"]) (F_is_set : Gn T P w K mg base 2 D_is_set.f D_is_set.fd ["thing", "count"] sp_is_set) : Gn T P w K mg base 3 D_Cover_init.f D_Cover_init.fd ["self", "count", "sets"] sp_Cover_init := by
  refine gn_of D_Cover_init.F sc_Cover_init len_Cover_init ?_
  intro Ss G0 H0 Ab Gb X ls M Kd Ed cdv A outer s H E hX hcdv hr hg tk hp hbl hsp
  subst hX
  have gg : QSs ⟨K, Ss, G0, H0, Ab, Gb, T⟩ (cxOf (L2.CX P w) P w K mg base n_Cover_init "Cover.__init__" (defScope S_Cover_init) D_Cover_init.f cdv A outer s H E) (defBody S_Cover_init) (rd_Cover_init (fun x _ M' => BackX M.length Ed x M')) := (q_scons (q_if (q_wt (q_wor (q_not (q_tv (q_callD F_is_integer D_is_integer.m D_is_integer.b D_is_integer.F.kp (hr.mono (by decide)) hg rfl tk (q_cons (q_var 1) q_nil)))) (q_wor1 (q_not (q_tchain leL op_le leL op_le q_int (q_var 1) (q_gint Tx.c_MAX_PACKETS)))))) (q_sone q_never) q_snil)
  (q_scons (q_if (q_wt (q_wor (q_not (q_tv (q_isi "list" rfl Tx.z_isinstance Tx.z_list (by decide +kernel) (q_var 2)))) (q_wor (q_tcmp gtL op_gt (q_bi (id := "len") lenL call_len (by decide +kernel) Tx.z_len (q_cons (q_var 2) q_nil)) (q_gint Tx.c_MAX_SETS) rfl) (q_wor1 (q_not (q_tv (q_bi (id := "all") allL (cr_all rfl) (by decide +kernel) Tx.z_all (q_cons (q_lcG (own := [("some", 3)]) outF_ok rfl sc_Cover_init.nd (blkOk_by (N := n_Cover_init) (sc := (defScope S_Cover_init)) (own := [("some", 3)]) (by decide +kernel)) (by decide) (q_ilist rfl (q_var 2)) (fun _ _ _ _ _ => (q_name 3 sc_Cover_init.nd)) (fun _ _ _ _ _ => q_tnil) (fun _ _ _ _ _ => (q_callD F_is_set D_is_set.m D_is_set.b D_is_set.F.kp (hr.mono (by decide)) hg rfl tkF (q_cons (q_var 3) (q_cons (q_var 1) q_nil))))) q_nil)))))))) (q_sone q_never) q_snil)
  (q_scons (q_setF (cs := ["Cover"]) rfl (fun c hc => by rw [List.mem_singleton.mp hc]; exact Tx.fo_Cover_known) (q_var 0) (q_var 1))
  (q_scons (q_setF (cs := ["Cover"]) rfl (fun c hc => by rw [List.mem_singleton.mp hc]; exact Tx.fo_Cover_mixtures) (q_var 0) (q_bt (T := "list") (listL outO_new) call_list_of (by decide +kernel) Tx.z_list (q_cons (q_var 2) q_nil)))
  (q_scons (q_setF (cs := ["Cover"]) rfl (fun c hc => by rw [List.mem_singleton.mp hc]; exact Tx.fo_Cover_vectors) (q_var 0) (q_lcG (own := [("number", 4)]) outO_ok rfl sc_Cover_init.nd (blkOk_by (N := n_Cover_init) (sc := (defScope S_Cover_init)) (own := [("number", 4)]) (by decide +kernel)) (by decide) (q_iran1 Tx.z_range (q_cons (q_var 1) q_nil)) (fun _ _ _ _ _ => (q_name 4 sc_Cover_init.nd)) (fun _ _ _ _ _ => q_tnil) (fun _ _ _ _ _ => (q_op shlL op_shl q_int (q_var 4)))))
  (q_sone (q_expr (q_me (T := "list") extendL rfl PySem.F.plainAttrs_list PySem.F.slot_list_extend PySem.F.type_list_extend mt_extend (q_fld (cs := ["Cover"]) rfl (fun c hc => by rw [List.mem_singleton.mp hc]; exact Tx.fo_Cover_vectors) (q_var 0)) (q_cons (q_lcG (own := [("some", 3)]) outF_ok rfl sc_Cover_init.nd (blkOk_by (N := n_Cover_init) (sc := (defScope S_Cover_init)) (own := [("some", 3)]) (by decide +kernel)) (by decide) (q_ilist rfl (q_var 2)) (fun _ _ _ _ _ => (q_name 3 sc_Cover_init.nd)) (fun _ _ _ _ _ => q_tnil) (fun _ _ _ _ _ => (q_bi (id := "sum") sumL (cr_sum rfl) (by decide +kernel) Tx.z_sum (q_cons (q_lcG (own := [("number", 4)]) outF_ok rfl sc_Cover_init.nd (blkOk_by (N := n_Cover_init) (sc := ⟨.function, [(".0", .local), ("some", .local), ("sum", .globalImplicit)], false, false, []⟩) (own := [("number", 4)]) (by decide +kernel)) (by decide) (q_itup rfl (q_var 3)) (fun _ _ _ _ _ => (q_name 4 sc_Cover_init.nd)) (fun _ _ _ _ _ => q_tnil) (fun _ _ _ _ _ => (q_op shlL op_shl q_int (q_var 4)))) q_nil)))) q_nil)))))))))
  exact ⟨rd_Cover_init (fun x _ M' => BackX M.length Ed x M'), gg, m_Cover_init hsp⟩
theorem ok_Cover_sets (Tx : Txt K mg) (D_Cover_sets : Dp K "Cover" "sets" "Cover.sets" S_Cover_sets ["self"])  : Gn T P w K mg base 1 D_Cover_sets.f D_Cover_sets.fd ["self"] sp_Cover_sets := by
  refine gn_of D_Cover_sets.F sc_Cover_sets len_Cover_sets ?_
  intro Ss G0 H0 Ab Gb X ls M Kd Ed cdv A outer s H E hX hcdv hr hg tk hp hbl hsp
  subst hX
  have gg : QSs ⟨K, Ss, G0, H0, Ab, Gb, T⟩ (cxOf (L2.CX P w) P w K mg base n_Cover_sets "Cover.sets" (defScope S_Cover_sets) D_Cover_sets.f cdv A outer s H E) (defBody S_Cover_sets) (rd_Cover_sets (fun x _ M' => BackX M.length Ed x M')) := (q_sone (q_ret (q_bt (T := "list") (listL outF_new) call_list_of (by decide +kernel) Tx.z_list (q_cons (q_fld (cs := ["Cover", "Film"]) rfl (fun c hc => by simp only [List.mem_cons, List.not_mem_nil, or_false] at hc; rcases hc with rfl | rfl <;> first | exact Tx.fo_Cover_mixtures | exact Tx.fo_Film_mixtures) (q_var 0)) q_nil))))
  exact ⟨rd_Cover_sets (fun x _ M' => BackX M.length Ed x M'), gg, m_Cover_sets hsp⟩
theorem ok_Cover_eq (Tx : Txt K mg) (D_Cover_eq : Dm K "Cover" "__eq__" "Cover.__eq__" S_Cover_eq ["self", "other"])  : Gn T P w K mg base 1 D_Cover_eq.f D_Cover_eq.fd ["self", "other"] sp_Cover_eq := by
  refine gn_of D_Cover_eq.F sc_Cover_eq len_Cover_eq ?_
  intro Ss G0 H0 Ab Gb X ls M Kd Ed cdv A outer s H E hX hcdv hr hg tk hp hbl hsp
  subst hX
  have gg : QSs ⟨K, Ss, G0, H0, Ab, Gb, T⟩ (cxOf (L2.CX P w) P w K mg base n_Cover_eq "Cover.__eq__" (defScope S_Cover_eq) D_Cover_eq.f cdv A outer s H E) (defBody S_Cover_eq) (rd_Cover_eq (fun x _ M' => BackX M.length Ed x M')) := (q_sone (q_ret (q_and (q_isX (tb := tbl) [(.o "Cover")] rfl Tx.tb Tx.z_isinstance (by simp) (q_kls "Cover" rfl Tx.kg_Cover) (.kls "Cover") (.inl ⟨(.o "Cover"), rfl, rfl⟩) (fun _ _ _ h => h) (q_var 1)) (q_and (q_cmp eqL (op_eqU hr) (q_fld (cs := ["Cover"]) rfl (fun c hc => by rw [List.mem_singleton.mp hc]; exact Tx.fo_Cover_known) (q_var 0)) (q_fld (cs := ["Cover"]) rfl (fun c hc => by rw [List.mem_singleton.mp hc]; exact Tx.fo_Cover_known) (q_var 1)) rfl) (q_one (q_cmp eqL (op_eqU hr) (q_fld (cs := ["Cover", "Film"]) rfl (fun c hc => by simp only [List.mem_cons, List.not_mem_nil, or_false] at hc; rcases hc with rfl | rfl <;> first | exact Tx.fo_Cover_mixtures | exact Tx.fo_Film_mixtures) (q_var 0)) (q_fld (cs := ["Cover", "Film"]) rfl (fun c hc => by simp only [List.mem_cons, List.not_mem_nil, or_false] at hc; rcases hc with rfl | rfl <;> first | exact Tx.fo_Cover_mixtures | exact Tx.fo_Film_mixtures) (q_var 1)) rfl))))))
  exact ⟨rd_Cover_eq (fun x _ M' => BackX M.length Ed x M'), gg, m_Cover_eq hsp⟩
theorem ok_is_size (Tx : Txt K mg) (D_is_size : Df K mg "is_size" "is_size" S_is_size ["thing"]) (D_is_integer : Df K mg "is_integer" "is_integer" S_is_integer ["thing"]) (F_is_integer : Gn T P w K mg base 1 D_is_integer.f D_is_integer.fd ["thing"] sp_is_integer) : Gn T P w K mg base 2 D_is_size.f D_is_size.fd ["thing"] sp_is_size := by
  refine gn_of D_is_size.F sc_is_size len_is_size ?_
  intro Ss G0 H0 Ab Gb X ls M Kd Ed cdv A outer s H E hX hcdv hr hg tk hp hbl hsp
  subst hX
  have gg : QSs ⟨K, Ss, G0, H0, Ab, Gb, T⟩ (cxOf (L2.CX P w) P w K mg base n_is_size "is_size" (defScope S_is_size) D_is_size.f cdv A outer s H E) (defBody S_is_size) (rd_is_size (fun x _ M' => BackX M.length Ed x M')) := (q_sone (q_ret (q_and (q_callD F_is_integer D_is_integer.m D_is_integer.b D_is_integer.F.kp (hr.mono (by decide)) hg rfl tk (q_cons (q_var 0) q_nil)) (q_one (q_chain leL op_le leL op_le q_int (q_var 0) (q_gint Tx.c_MAX_SIZE))))))
  exact ⟨rd_is_size (fun x _ M' => BackX M.length Ed x M'), gg, m_is_size hsp⟩
theorem ok_is_byte (Tx : Txt K mg) (D_is_byte : Df K mg "is_byte" "is_byte" S_is_byte ["thing"]) (D_is_integer : Df K mg "is_integer" "is_integer" S_is_integer ["thing"]) (F_is_integer : Gn T P w K mg base 1 D_is_integer.f D_is_integer.fd ["thing"] sp_is_integer) : Gn T P w K mg base 2 D_is_byte.f D_is_byte.fd ["thing"] sp_is_byte := by
  refine gn_of D_is_byte.F sc_is_byte len_is_byte ?_
  intro Ss G0 H0 Ab Gb X ls M Kd Ed cdv A outer s H E hX hcdv hr hg tk hp hbl hsp
  subst hX
  have gg : QSs ⟨K, Ss, G0, H0, Ab, Gb, T⟩ (cxOf (L2.CX P w) P w K mg base n_is_byte "is_byte" (defScope S_is_byte) D_is_byte.f cdv A outer s H E) (defBody S_is_byte) (rd_is_byte (fun x _ M' => BackX M.length Ed x M')) := (q_sone (q_ret (q_and (q_callD F_is_integer D_is_integer.m D_is_integer.b D_is_integer.F.kp (hr.mono (by decide)) hg rfl tk (q_cons (q_var 0) q_nil)) (q_one (q_chain leL op_le leL op_le q_int (q_var 0) (q_gint Tx.c_MAX_BYTE))))))
  exact ⟨rd_is_byte (fun x _ M' => BackX M.length Ed x M'), gg, m_is_byte hsp⟩
theorem ok_is_packet (Tx : Txt K mg) (D_is_packet : Df K mg "is_packet" "is_packet" S_is_packet ["thing", "size"]) (D_is_byte : Df K mg "is_byte" "is_byte" S_is_byte ["thing"]) (F_is_byte : Gn T P w K mg base 2 D_is_byte.f D_is_byte.fd ["thing"] sp_is_byte) : Gn T P w K mg base 3 D_is_packet.f D_is_packet.fd ["thing", "size"] sp_is_packet := by
  refine gn_of D_is_packet.F sc_is_packet len_is_packet ?_
  intro Ss G0 H0 Ab Gb X ls M Kd Ed cdv A outer s H E hX hcdv hr hg tk hp hbl hsp
  subst hX
  have gg : QSs ⟨K, Ss, G0, H0, Ab, Gb, T⟩ (cxOf (L2.CX P w) P w K mg base n_is_packet "is_packet" (defScope S_is_packet) D_is_packet.f cdv A outer s H E) (defBody S_is_packet) (rd_is_packet (fun x _ M' => BackX M.length Ed x M')) := (q_sone (q_ret (q_and (q_isi "tuple" rfl Tx.z_isinstance Tx.z_tuple (by decide +kernel) (q_var 0)) (q_and (q_cmp eqL (op_eqU hr) (q_bi (id := "len") lenL call_len (by decide +kernel) Tx.z_len (q_cons (q_var 0) q_nil)) (q_var 1) rfl) (q_one (q_bi (id := "all") allL (cr_all rfl) (by decide +kernel) Tx.z_all (q_cons (q_lcG (own := [("byte", 2)]) outF_ok rfl sc_is_packet.nd (blkOk_by (N := n_is_packet) (sc := (defScope S_is_packet)) (own := [("byte", 2)]) (by decide +kernel)) (by decide) (q_itup rfl (q_var 0)) (fun _ _ _ _ _ => (q_name 2 sc_is_packet.nd)) (fun _ _ _ _ _ => q_tnil) (fun _ _ _ _ _ => (q_callD F_is_byte D_is_byte.m D_is_byte.b D_is_byte.F.kp (hr.mono (by decide)) hg rfl tkF (q_cons (q_var 2) q_nil)))) q_nil)))))))
  exact ⟨rd_is_packet (fun x _ M' => BackX M.length Ed x M'), gg, m_is_packet hsp⟩
theorem ok_is_frame (Tx : Txt K mg) (D_is_frame : Df K mg "is_frame" "is_frame" S_is_frame ["thing", "size", "number"]) (D_is_packet : Df K mg "is_packet" "is_packet" S_is_packet ["thing", "size"]) (F_is_packet : Gn T P w K mg base 3 D_is_packet.f D_is_packet.fd ["thing", "size"] sp_is_packet) (D_is_set : Df K mg "is_set" "is_set" S_is_set ["thing", "count"]) (F_is_set : Gn T P w K mg base 2 D_is_set.f D_is_set.fd ["thing", "count"] sp_is_set) : Gn T P w K mg base 4 D_is_frame.f D_is_frame.fd ["thing", "size", "number"] sp_is_frame := by
  refine gn_of D_is_frame.F sc_is_frame len_is_frame ?_
  intro Ss G0 H0 Ab Gb X ls M Kd Ed cdv A outer s H E hX hcdv hr hg tk hp hbl hsp
  subst hX
  have gg : QSs ⟨K, Ss, G0, H0, Ab, Gb, T⟩ (cxOf (L2.CX P w) P w K mg base n_is_frame "is_frame" (defScope S_is_frame) D_is_frame.f cdv A outer s H E) (defBody S_is_frame) (rd_is_frame (fun x _ M' => BackX M.length Ed x M')) := (q_scons (q_if (q_wt (q_wor (q_not (q_tv (q_isi "tuple" rfl Tx.z_isinstance Tx.z_tuple (by decide +kernel) (q_var 0)))) (q_wor (q_tcmp neL (op_neU hr) (q_bi (id := "len") lenL call_len (by decide +kernel) Tx.z_len (q_cons (q_var 0) q_nil)) q_int rfl) (q_wor (q_not (q_tv (q_isi "tuple" rfl Tx.z_isinstance Tx.z_tuple (by decide +kernel) (q_ix rfl (q_var 0) q_int)))) (q_wor1 (q_tcmp eqL (op_eqU hr) (q_ix rfl (q_var 0) q_int) (q_tup q_nil) rfl)))))) (q_sone (q_ret q_bl)) q_snil)
  (q_scons (q_if (q_not (q_tv (q_bi (id := "all") allL (cr_all rfl) (by decide +kernel) Tx.z_all (q_cons (q_lcG (own := [("packet", 3)]) outF_ok rfl sc_is_frame.nd (blkOk_by (N := n_is_frame) (sc := (defScope S_is_frame)) (own := [("packet", 3)]) (by decide +kernel)) (by decide) (q_itup rfl (q_ix rfl (q_var 0) q_int)) (fun _ _ _ _ _ => (q_name 3 sc_is_frame.nd)) (fun _ _ _ _ _ => q_tnil) (fun _ _ _ _ _ => (q_callD F_is_packet D_is_packet.m D_is_packet.b D_is_packet.F.kp (hr.mono (by decide)) hg rfl tkF (q_cons (q_var 3) (q_cons (q_var 1) q_nil))))) q_nil)))) (q_sone (q_ret q_bl)) q_snil)
  (q_sone (q_ret (q_or (q_and (q_cmp eqL (op_eqU hr) (q_ix rfl (q_var 0) q_int) (q_tup q_nil) rfl) (q_one (q_isi "tuple" rfl Tx.z_isinstance Tx.z_tuple (by decide +kernel) (q_ix rfl (q_var 0) q_int)))) (q_one (q_callD F_is_set D_is_set.m D_is_set.b D_is_set.F.kp (hr.mono (by decide)) hg rfl tk (q_cons (q_ix rfl (q_var 0) q_int) (q_cons (q_var 2) q_nil)))))))))
  exact ⟨rd_is_frame (fun x _ M' => BackX M.length Ed x M'), gg, m_is_frame hsp⟩
theorem ok_Film_init (Tx : Txt K mg) (D_Film_init : Dn K mg "Film" "Film.__init__" S_Film_init ["self", "size", "frames", "sets"]) (D_is_size : Df K mg "is_size" "is_size" S_is_size ["thing"]) (F_is_size : Gn T P w K mg base 2 D_is_size.f D_is_size.fd ["thing"] sp_is_size) (D_is_frame : Df K mg "is_frame" "is_frame" S_is_frame ["thing", "size", "number"]) (F_is_frame : Gn T P w K mg base 4 D_is_frame.f D_is_frame.fd ["thing", "size", "number"] sp_is_frame) (D_Cover_init : Dn K mg "Cover" "Cover.__init__" S_Cover_init ["self", "count", "sets"]) (F_Cover_init : Gn T P w K mg base 3 D_Cover_init.f D_Cover_init.fd ["self", "count", "sets"] sp_Cover_init) : Gn T P w K mg base 5 D_Film_init.f D_Film_init.fd ["self", "size", "frames", "sets"] sp_Film_init := by
  refine gn_of D_Film_init.F sc_Film_init len_Film_init ?_
  intro Ss G0 H0 Ab Gb X ls M Kd Ed cdv A outer s H E hX hcdv hr hg tk hp hbl hsp
  subst hX
  have gg : QSs ⟨K, Ss, G0, H0, Ab, Gb, T⟩ (cxOf (L2.CX P w) P w K mg base n_Film_init "Film.__init__" (defScope S_Film_init) D_Film_init.f cdv A outer s H E) (defBody S_Film_init) (rd_Film_init (fun x _ M' => BackX M.length Ed x M')) := (q_scons (q_if (q_not (q_tv (q_callD F_is_size D_is_size.m D_is_size.b D_is_size.F.kp (hr.mono (by decide)) hg rfl tk (q_cons (q_var 1) q_nil)))) (q_sone q_never) q_snil)
  (q_scons (q_if (q_not (q_tv (q_isi "list" rfl Tx.z_isinstance Tx.z_list (by decide +kernel) (q_var 2)))) (q_sone q_never) q_snil)
  (q_scons (q_if (q_not (q_tv (q_bi (id := "all") allL (cr_all rfl) (by decide +kernel) Tx.z_all (q_cons (q_lcG (own := [("number", 4), ("frame", 5)]) outF_ok rfl sc_Film_init.nd (blkOk_by (N := n_Film_init) (sc := (defScope S_Film_init)) (own := [("number", 4), ("frame", 5)]) (by decide +kernel)) (by decide) (q_ienum rfl Tx.z_enumerate (q_cons (q_var 2) q_nil)) (fun _ _ _ _ _ => (q_gtup (n := 2) rfl rfl (q_gcons (q_name 4 sc_Film_init.nd) (q_gcons (q_name 5 sc_Film_init.nd) q_gnil)))) (fun _ _ _ _ _ => q_tnil) (fun _ _ _ _ _ => (q_callD F_is_frame D_is_frame.m D_is_frame.b D_is_frame.F.kp (hr.mono (by decide)) hg rfl tkF (q_cons (q_var 5) (q_cons (q_var 1) (q_cons (q_var 4) q_nil)))))) q_nil)))) (q_sone q_never) q_snil)
  (q_scons (q_setF (cs := ["Film"]) rfl (fun c hc => by rw [List.mem_singleton.mp hc]; exact Tx.fo_Film_width) (q_var 0) (q_var 1))
  (q_scons (q_setF (cs := ["Film"]) rfl (fun c hc => by rw [List.mem_singleton.mp hc]; exact Tx.fo_Film_rows) (q_var 0) (q_bt (T := "list") (listL outO_new) call_list_of (by decide +kernel) Tx.z_list (q_cons (q_var 2) q_nil)))
  (q_scons (q_setF (cs := ["Film"]) rfl (fun c hc => by rw [List.mem_singleton.mp hc]; exact Tx.fo_Film_flat) (q_var 0) (q_lc2 (own := [("packets", 6), ("references", 7), ("packet", 8)]) (vs1 := [8]) outO_ok rfl sc_Film_init.nd (blkOk_by (N := n_Film_init) (sc := (defScope S_Film_init)) (own := [("packets", 6), ("references", 7), ("packet", 8)]) (by decide +kernel)) (by decide) (by decide) (by decide) (q_ilist rfl (q_var 2)) (fun _ _ _ _ _ => (q_gtup (n := 2) rfl rfl (q_gcons (q_name 6 sc_Film_init.nd) (q_gcons (q_name 7 sc_Film_init.nd) q_gnil)))) (fun _ _ _ _ _ => q_tnil) (fun _ _ _ _ _ => (q_itup rfl (q_var 6))) (fun _ _ _ _ _ => (q_name 8 sc_Film_init.nd)) (fun _ _ _ _ _ => q_tnil) (fun _ _ _ _ _ => (q_var 8))))
  (q_scons (q_setF (cs := ["Film"]) rfl (fun c hc => by rw [List.mem_singleton.mp hc]; exact Tx.fo_Film_owners) (q_var 0) (q_lc2 (own := [("number", 4), ("packets", 6), ("references", 7), ("packet", 8)]) (vs1 := [8]) outO_ok rfl sc_Film_init.nd (blkOk_by (N := n_Film_init) (sc := (defScope S_Film_init)) (own := [("number", 4), ("packets", 6), ("references", 7), ("packet", 8)]) (by decide +kernel)) (by decide) (by decide) (by decide) (q_ienum rfl Tx.z_enumerate (q_cons (q_var 2) q_nil)) (fun _ _ _ _ _ => (q_gtup (n := 2) rfl rfl (q_gcons (q_name 4 sc_Film_init.nd) (q_gcons (q_gtup (n := 2) rfl rfl (q_gcons (q_name 6 sc_Film_init.nd) (q_gcons (q_name 7 sc_Film_init.nd) q_gnil))) q_gnil)))) (fun _ _ _ _ _ => q_tnil) (fun _ _ _ _ _ => (q_itup rfl (q_var 6))) (fun _ _ _ _ _ => (q_name 8 sc_Film_init.nd)) (fun _ _ _ _ _ => q_tnil) (fun _ _ _ _ _ => (q_var 4))))
  (q_sone (q_thru (q_sone (q_setF (cs := ["Cover", "Film"]) rfl (fun c hc => by simp only [List.mem_cons, List.not_mem_nil, or_false] at hc; rcases hc with rfl | rfl <;> first | exact Tx.fo_Cover_mixtures | exact Tx.fo_Film_mixtures) (q_var 0) (q_make D_Cover_init.g D_Cover_init.m F_Cover_init D_Cover_init.b (hr.mono (by decide)) hg rfl tkF (q_cons (q_bi (id := "len") lenL call_len (by decide +kernel) Tx.z_len (q_cons (q_fld (cs := ["Film"]) rfl (fun c hc => by rw [List.mem_singleton.mp hc]; exact Tx.fo_Film_flat) (q_var 0)) q_nil)) (q_cons (q_var 3) q_nil))))))))))))))
  exact ⟨rd_Film_init (fun x _ M' => BackX M.length Ed x M'), gg, m_Film_init hsp⟩
theorem ok_Film_size (Tx : Txt K mg) (D_Film_size : Dp K "Film" "size" "Film.size" S_Film_size ["self"])  : Gn T P w K mg base 1 D_Film_size.f D_Film_size.fd ["self"] sp_Film_size := by
  refine gn_of D_Film_size.F sc_Film_size len_Film_size ?_
  intro Ss G0 H0 Ab Gb X ls M Kd Ed cdv A outer s H E hX hcdv hr hg tk hp hbl hsp
  subst hX
  have gg : QSs ⟨K, Ss, G0, H0, Ab, Gb, T⟩ (cxOf (L2.CX P w) P w K mg base n_Film_size "Film.size" (defScope S_Film_size) D_Film_size.f cdv A outer s H E) (defBody S_Film_size) (rd_Film_size (fun x _ M' => BackX M.length Ed x M')) := (q_sone (q_ret (q_fld (cs := ["Film"]) rfl (fun c hc => by rw [List.mem_singleton.mp hc]; exact Tx.fo_Film_width) (q_var 0))))
  exact ⟨rd_Film_size (fun x _ M' => BackX M.length Ed x M'), gg, m_Film_size hsp⟩
theorem ok_Film_frames (Tx : Txt K mg) (D_Film_frames : Dp K "Film" "frames" "Film.frames" S_Film_frames ["self"])  : Gn T P w K mg base 1 D_Film_frames.f D_Film_frames.fd ["self"] sp_Film_frames := by
  refine gn_of D_Film_frames.F sc_Film_frames len_Film_frames ?_
  intro Ss G0 H0 Ab Gb X ls M Kd Ed cdv A outer s H E hX hcdv hr hg tk hp hbl hsp
  subst hX
  have gg : QSs ⟨K, Ss, G0, H0, Ab, Gb, T⟩ (cxOf (L2.CX P w) P w K mg base n_Film_frames "Film.frames" (defScope S_Film_frames) D_Film_frames.f cdv A outer s H E) (defBody S_Film_frames) (rd_Film_frames (fun x _ M' => BackX M.length Ed x M')) := (q_sone (q_ret (q_bt (T := "list") (listL outF_new) call_list_of (by decide +kernel) Tx.z_list (q_cons (q_fld (cs := ["Film"]) rfl (fun c hc => by rw [List.mem_singleton.mp hc]; exact Tx.fo_Film_rows) (q_var 0)) q_nil))))
  exact ⟨rd_Film_frames (fun x _ M' => BackX M.length Ed x M'), gg, m_Film_frames hsp⟩
theorem ok_Film_cover (Tx : Txt K mg) (D_Film_cover : Dp K "Film" "cover" "Film.cover" S_Film_cover ["self"])  : Gn T P w K mg base 1 D_Film_cover.f D_Film_cover.fd ["self"] sp_Film_cover := by
  refine gn_of D_Film_cover.F sc_Film_cover len_Film_cover ?_
  intro Ss G0 H0 Ab Gb X ls M Kd Ed cdv A outer s H E hX hcdv hr hg tk hp hbl hsp
  subst hX
  have gg : QSs ⟨K, Ss, G0, H0, Ab, Gb, T⟩ (cxOf (L2.CX P w) P w K mg base n_Film_cover "Film.cover" (defScope S_Film_cover) D_Film_cover.f cdv A outer s H E) (defBody S_Film_cover) (rd_Film_cover (fun x _ M' => BackX M.length Ed x M')) := (q_sone (q_ret (q_fld (cs := ["Cover", "Film"]) rfl (fun c hc => by simp only [List.mem_cons, List.not_mem_nil, or_false] at hc; rcases hc with rfl | rfl <;> first | exact Tx.fo_Cover_mixtures | exact Tx.fo_Film_mixtures) (q_var 0))))
  exact ⟨rd_Film_cover (fun x _ M' => BackX M.length Ed x M'), gg, m_Film_cover hsp⟩
theorem ok_Film_eq (Tx : Txt K mg) (D_Film_eq : Dm K "Film" "__eq__" "Film.__eq__" S_Film_eq ["self", "other"]) (D_Cover_eq : Dm K "Cover" "__eq__" "Cover.__eq__" S_Cover_eq ["self", "other"]) (F_Cover_eq : Gn T P w K mg base 1 D_Cover_eq.f D_Cover_eq.fd ["self", "other"] sp_Cover_eq) : Gn T P w K mg base 2 D_Film_eq.f D_Film_eq.fd ["self", "other"] sp_Film_eq := by
  refine gn_of D_Film_eq.F sc_Film_eq len_Film_eq ?_
  intro Ss G0 H0 Ab Gb X ls M Kd Ed cdv A outer s H E hX hcdv hr hg tk hp hbl hsp
  subst hX
  have gg : QSs ⟨K, Ss, G0, H0, Ab, Gb, T⟩ (cxOf (L2.CX P w) P w K mg base n_Film_eq "Film.__eq__" (defScope S_Film_eq) D_Film_eq.f cdv A outer s H E) (defBody S_Film_eq) (rd_Film_eq (fun x _ M' => BackX M.length Ed x M')) := (q_scons (q_if (q_wt (q_wor (q_not (q_tv (q_isX (tb := tbl) [(.o "Film")] rfl Tx.tb Tx.z_isinstance (by simp) (q_kls "Film" rfl Tx.kg_Film) (.kls "Film") (.inl ⟨(.o "Film"), rfl, rfl⟩) (fun _ _ _ h => h) (q_var 1)))) (q_wor (q_tcmp neL (op_neU hr) (q_fld (cs := ["Film"]) rfl (fun c hc => by rw [List.mem_singleton.mp hc]; exact Tx.fo_Film_width) (q_var 0)) (q_fld (cs := ["Film"]) rfl (fun c hc => by rw [List.mem_singleton.mp hc]; exact Tx.fo_Film_width) (q_var 1)) rfl) (q_wor1 (q_tcmp neL (op_neU hr) (q_fld (cs := ["Film"]) rfl (fun c hc => by rw [List.mem_singleton.mp hc]; exact Tx.fo_Film_rows) (q_var 0)) (q_fld (cs := ["Film"]) rfl (fun c hc => by rw [List.mem_singleton.mp hc]; exact Tx.fo_Film_rows) (q_var 1)) rfl))))) (q_sone (q_ret q_bl)) q_snil)
  (q_sone (q_ret (q_cmp (eqOL rfl D_Cover_eq.m F_Cover_eq D_Cover_eq.b (hr.mono (by decide)) hg) op_rawC (q_fld (cs := ["Cover", "Film"]) rfl (fun c hc => by simp only [List.mem_cons, List.not_mem_nil, or_false] at hc; rcases hc with rfl | rfl <;> first | exact Tx.fo_Cover_mixtures | exact Tx.fo_Film_mixtures) (q_var 0)) (q_fld (cs := ["Cover", "Film"]) rfl (fun c hc => by simp only [List.mem_cons, List.not_mem_nil, or_false] at hc; rcases hc with rfl | rfl <;> first | exact Tx.fo_Cover_mixtures | exact Tx.fo_Film_mixtures) (q_var 1)) rfl))))
  exact ⟨rd_Film_eq (fun x _ M' => BackX M.length Ed x M'), gg, m_Film_eq hsp⟩
theorem ok_Reader_init (Tx : Txt K mg) (D_Reader_init : Dn K mg "Reader" "Reader.__init__" S_Reader_init ["self", "size"])  : Gn T P w K mg base 1 D_Reader_init.f D_Reader_init.fd ["self", "size"] sp_Reader_init := by
  refine gn_of D_Reader_init.F sc_Reader_init len_Reader_init ?_
  intro Ss G0 H0 Ab Gb X ls M Kd Ed cdv A outer s H E hX hcdv hr hg tk hp hbl hsp
  subst hX
  have gg : QSs ⟨K, Ss, G0, H0, Ab, Gb, T⟩ (cxOf (L2.CX P w) P w K mg base n_Reader_init "Reader.__init__" (defScope S_Reader_init) D_Reader_init.f cdv A outer s H E) (defBody S_Reader_init) (rd_Reader_init (fun x _ M' => BackX M.length Ed x M')) := (q_scons (q_setF (cs := ["Reader"]) rfl (fun c hc => by rw [List.mem_singleton.mp hc]; exact Tx.fo_Reader_wide) (q_var 0) (q_var 1))
  (q_scons (q_setF (cs := ["Reader"]) rfl (fun c hc => by rw [List.mem_singleton.mp hc]; exact Tx.fo_Reader_rows) (q_var 0) (q_lstO q_nil))
  (q_sone (q_setF (cs := ["Reader"]) rfl (fun c hc => by rw [List.mem_singleton.mp hc]; exact Tx.fo_Reader_groups) (q_var 0) (q_lstO q_nil)))))
  exact ⟨rd_Reader_init (fun x _ M' => BackX M.length Ed x M'), gg, m_Reader_init hsp⟩
theorem ok_Reader_tally (Tx : Txt K mg) (D_Reader_tally : Dm K "Reader" "tally" "Reader.tally" S_Reader_tally ["self"])  : Gn T P w K mg base 1 D_Reader_tally.f D_Reader_tally.fd ["self"] sp_Reader_tally := by
  refine gn_of D_Reader_tally.F sc_Reader_tally len_Reader_tally ?_
  intro Ss G0 H0 Ab Gb X ls M Kd Ed cdv A outer s H E hX hcdv hr hg tk hp hbl hsp
  subst hX
  have gg : QSs ⟨K, Ss, G0, H0, Ab, Gb, T⟩ (cxOf (L2.CX P w) P w K mg base n_Reader_tally "Reader.tally" (defScope S_Reader_tally) D_Reader_tally.f cdv A outer s H E) (defBody S_Reader_tally) (rd_Reader_tally (fun x _ M' => BackX M.length Ed x M')) := (q_sone (q_base (fun Ab Gb => (q_ret (q_bi (id := "sum") sumL (cr_sum rfl) (by decide +kernel) Tx.z_sum (q_cons (q_lcL (own := [("packets", 1), ("references", 2)]) outF_ok rfl sc_Reader_tally.nd (blkOk_by (N := n_Reader_tally) (sc := (defScope S_Reader_tally)) (own := [("packets", 1), ("references", 2)]) (by decide +kernel)) (by decide) (q_iown rfl (q_fld (cs := ["Reader"]) rfl (fun c hc => by rw [List.mem_singleton.mp hc]; exact Tx.fo_Reader_rows) (q_var 0))) (fun _ _ _ _ _ => (q_gtup (n := 2) rfl rfl (q_gcons (q_name 1 sc_Reader_tally.nd) (q_gcons (q_name 2 sc_Reader_tally.nd) q_gnil)))) (fun _ _ _ _ _ => q_tnil) (fun _ _ _ _ _ => (q_bi (id := "len") lenL call_len (by decide +kernel) Tx.z_len (q_cons (q_var 1) q_nil)))) q_nil))))))
  exact ⟨rd_Reader_tally (fun x _ M' => BackX M.length Ed x M'), gg, m_Reader_tally hsp⟩
theorem ok_Reader_is_open (Tx : Txt K mg) (D_Reader_is_open : Dm K "Reader" "is_open" "Reader.is_open" S_Reader_is_open ["self"])  : Gn T P w K mg base 1 D_Reader_is_open.f D_Reader_is_open.fd ["self"] sp_Reader_is_open := by
  refine gn_of D_Reader_is_open.F sc_Reader_is_open len_Reader_is_open ?_
  intro Ss G0 H0 Ab Gb X ls M Kd Ed cdv A outer s H E hX hcdv hr hg tk hp hbl hsp
  subst hX
  have gg : QSs ⟨K, Ss, G0, H0, Ab, Gb, T⟩ (cxOf (L2.CX P w) P w K mg base n_Reader_is_open "Reader.is_open" (defScope S_Reader_is_open) D_Reader_is_open.f cdv A outer s H E) (defBody S_Reader_is_open) (rd_Reader_is_open (fun x _ M' => BackX M.length Ed x M')) := (q_sone (q_ret (q_and (q_cmp ne0L (op_neV hr) (q_fld (cs := ["Reader"]) rfl (fun c hc => by rw [List.mem_singleton.mp hc]; exact Tx.fo_Reader_rows) (q_var 0)) (q_lst q_nil) rfl) (q_one (q_cmp eqT0L (op_eqTn hr) (q_ix rfl (q_ix rfl (q_fld (cs := ["Reader"]) rfl (fun c hc => by rw [List.mem_singleton.mp hc]; exact Tx.fo_Reader_rows) (q_var 0)) (q_un negL un_neg q_int)) q_int) (q_tup q_nil) rfl)))))
  exact ⟨rd_Reader_is_open (fun x _ M' => BackX M.length Ed x M'), gg, m_Reader_is_open hsp⟩
theorem ok_is_setA (Tx : Txt K mg) (D_is_setA : Df K mg "is_set" "is_set" S_is_setA ["thing", "count"]) (D_is_integer : Df K mg "is_integer" "is_integer" S_is_integer ["thing"]) (F_is_integer : Gn T P w K mg base 1 D_is_integer.f D_is_integer.fd ["thing"] sp_is_integer) : Gn T P w K mg base 2 D_is_setA.f D_is_setA.fd ["thing", "count"] sp_is_setA := by
  refine gn_of D_is_setA.F sc_is_setA len_is_setA ?_
  intro Ss G0 H0 Ab Gb X ls M Kd Ed cdv A outer s H E hX hcdv hr hg tk hp hbl hsp
  subst hX
  have gg : QSs ⟨K, Ss, G0, H0, Ab, Gb, T⟩ (cxOf (L2.CX P w) P w K mg base n_is_setA "is_set" (defScope S_is_setA) D_is_setA.f cdv A outer s H E) (defBody S_is_setA) (rd_is_setA (fun x _ M' => BackX M.length Ed x M')) := (q_scons (q_if (q_wt (q_wor (q_not (q_tv (q_isi "tuple" rfl Tx.z_isinstance Tx.z_tuple (by decide +kernel) (q_var 0)))) (q_wor (q_tcmp eqT0L (op_eqTn hr) (q_var 0) (q_tup q_nil) rfl) (q_wor1 (q_not (q_tv (q_bi (id := "all") allL (cr_all rfl) (by decide +kernel) Tx.z_all (q_cons (q_lcG (own := [("number", 2)]) outF_ok rfl sc_is_setA.nd (blkOk_by (N := n_is_setA) (sc := (defScope S_is_setA)) (own := [("number", 2)]) (by decide +kernel)) (by decide) (q_itup rfl (q_var 0)) (fun _ _ _ _ _ => (q_name 2 sc_is_setA.nd)) (fun _ _ _ _ _ => q_tnil) (fun _ _ _ _ _ => (q_callD F_is_integer D_is_integer.m D_is_integer.b D_is_integer.F.kp (hr.mono (by decide)) hg rfl tkF (q_cons (q_var 2) q_nil)))) q_nil)))))))) (q_sone (q_ret q_bl)) q_snil)
  (q_sone (q_ret (q_and (q_cmp eqL (op_eqU hr) (q_bt (T := "list") (listL outF_new) call_list_of (by decide +kernel) Tx.z_list (q_cons (q_var 0) q_nil)) (q_srtSet rfl outF_new Tx.z_sorted Tx.z_set (q_var 0)) rfl) (q_and (q_cmp geL op_ge (q_ix rfl (q_var 0) q_int) q_int rfl) (q_one (q_cmp ltL op_lt (q_ix rfl (q_var 0) (q_un negL un_neg q_int)) (q_var 1) rfl)))))))
  exact ⟨rd_is_setA (fun x _ M' => BackX M.length Ed x M'), gg, m_is_setA hsp⟩
theorem ok_Reader_take_frame (Tx : Txt K mg) (D_Reader_take_frame : Dm K "Reader" "take_frame" "Reader.take_frame" S_Reader_take_frame ["self", "numbers"]) (D_Reader_is_open : Dm K "Reader" "is_open" "Reader.is_open" S_Reader_is_open ["self"]) (F_Reader_is_open : Gn T P w K mg base 1 D_Reader_is_open.f D_Reader_is_open.fd ["self"] sp_Reader_is_open) (D_Reader_tally : Dm K "Reader" "tally" "Reader.tally" S_Reader_tally ["self"]) (F_Reader_tally : Gn T P w K mg base 1 D_Reader_tally.f D_Reader_tally.fd ["self"] sp_Reader_tally) (D_is_setA : Df K mg "is_set" "is_set" S_is_setA ["thing", "count"]) (F_is_setA : Gn T P w K mg base 2 D_is_setA.f D_is_setA.fd ["thing", "count"] sp_is_setA) : Gn T P w K mg base 3 D_Reader_take_frame.f D_Reader_take_frame.fd ["self", "numbers"] sp_Reader_take_frame := by
  refine gn_of D_Reader_take_frame.F sc_Reader_take_frame len_Reader_take_frame ?_
  intro Ss G0 H0 Ab Gb X ls M Kd Ed cdv A outer s H E hX hcdv hr hg tk hp hbl hsp
  subst hX
  have gg : QSs ⟨K, Ss, G0, H0, Ab, Gb, T⟩ (cxOf (L2.CX P w) P w K mg base n_Reader_take_frame "Reader.take_frame" (defScope S_Reader_take_frame) D_Reader_take_frame.f cdv A outer s H E) (defBody S_Reader_take_frame) (rd_Reader_take_frame (fun x _ M' => BackX M.length Ed x M')) := (q_scons (q_if (q_wt (q_wor (q_tv (q_U (ca_meth0 rfl D_Reader_is_open.m (q_var 0)) F_Reader_is_open D_Reader_is_open.b (hr.mono (by decide)) hg rfl tk)) (q_wor (q_tcmp ne0L (op_neV hr) (q_fld (cs := ["Reader"]) rfl (fun c hc => by rw [List.mem_singleton.mp hc]; exact Tx.fo_Reader_groups) (q_var 0)) (q_lst q_nil) rfl) (q_wor1 (q_tcmp eqL (op_eqU hr) (q_U (ca_meth0 rfl D_Reader_tally.m (q_var 0)) F_Reader_tally D_Reader_tally.b (hr.mono (by decide)) hg rfl tk) (q_gint Tx.c_MAX_PACKETS) rfl))))) (q_sone (q_ret q_bl)) q_snil)
  (q_scons (q_expr (q_me (T := "list") appendL rfl PySem.F.plainAttrs_list PySem.F.slot_list_append PySem.F.type_list_append mt_append (q_fld (cs := ["Reader"]) rfl (fun c hc => by rw [List.mem_singleton.mp hc]; exact Tx.fo_Reader_rows) (q_var 0)) (q_cons (q_tup (q_cons (q_tup q_nil) (q_cons (q_var 1) q_nil))) q_nil)))
  (q_sone (q_ret (q_or (q_cmp eqT0L (op_eqTn hr) (q_var 1) (q_tup q_nil) rfl) (q_one (q_callD F_is_setA D_is_setA.m D_is_setA.b D_is_setA.F.kp (hr.mono (by decide)) hg rfl tk (q_cons (q_var 1) (q_cons (q_op subL op_sub (q_bi (id := "len") lenL call_len (by decide +kernel) Tx.z_len (q_cons (q_fld (cs := ["Reader"]) rfl (fun c hc => by rw [List.mem_singleton.mp hc]; exact Tx.fo_Reader_rows) (q_var 0)) q_nil)) q_int) q_nil)))))))))
  exact ⟨rd_Reader_take_frame (fun x _ M' => BackX M.length Ed x M'), gg, m_Reader_take_frame hsp⟩
theorem ok_Reader_take_packet (Tx : Txt K mg) (D_Reader_take_packet : Dm K "Reader" "take_packet" "Reader.take_packet" S_Reader_take_packet ["self", "numbers"]) (D_Reader_tally : Dm K "Reader" "tally" "Reader.tally" S_Reader_tally ["self"]) (F_Reader_tally : Gn T P w K mg base 1 D_Reader_tally.f D_Reader_tally.fd ["self"] sp_Reader_tally) : Gn T P w K mg base 2 D_Reader_take_packet.f D_Reader_take_packet.fd ["self", "numbers"] sp_Reader_take_packet := by
  refine gn_of D_Reader_take_packet.F sc_Reader_take_packet len_Reader_take_packet ?_
  intro Ss G0 H0 Ab Gb X ls M Kd Ed cdv A outer s H E hX hcdv hr hg tk hp hbl hsp
  subst hX
  have gg : QSs ⟨K, Ss, G0, H0, Ab, Gb, T⟩ (cxOf (L2.CX P w) P w K mg base n_Reader_take_packet "Reader.take_packet" (defScope S_Reader_take_packet) D_Reader_take_packet.f cdv A outer s H E) (defBody S_Reader_take_packet) (rd_Reader_take_packet (fun x _ M' => BackX M.length Ed x M')) := (q_scons (q_if (q_wt (q_wor (q_tcmp eq0L (op_eqV hr) (q_fld (cs := ["Reader"]) rfl (fun c hc => by rw [List.mem_singleton.mp hc]; exact Tx.fo_Reader_rows) (q_var 0)) (q_lst q_nil) rfl) (q_wor (q_tcmp ne0L (op_neV hr) (q_fld (cs := ["Reader"]) rfl (fun c hc => by rw [List.mem_singleton.mp hc]; exact Tx.fo_Reader_groups) (q_var 0)) (q_lst q_nil) rfl) (q_wor (q_tcmp eqL (op_eqU hr) (q_U (ca_meth0 rfl D_Reader_tally.m (q_var 0)) F_Reader_tally D_Reader_tally.b (hr.mono (by decide)) hg rfl tk) (q_gint Tx.c_MAX_PACKETS) rfl) (q_wor1 (q_tcmp neL (op_neU hr) (q_bi (id := "len") lenL call_len (by decide +kernel) Tx.z_len (q_cons (q_var 1) q_nil)) (q_fld (cs := ["Reader"]) rfl (fun c hc => by rw [List.mem_singleton.mp hc]; exact Tx.fo_Reader_wide) (q_var 0)) rfl)))))) (q_sone (q_ret q_bl)) q_snil)
  (q_scons (q_asg (q_me0 (T := "list") popL rfl PySem.F.plainAttrs_list PySem.F.slot_list_pop PySem.F.type_list_pop mt_pop (q_fld (cs := ["Reader"]) rfl (fun c hc => by rw [List.mem_singleton.mp hc]; exact Tx.fo_Reader_rows) (q_var 0))) (q_gtup (n := 2) rfl rfl (q_gcons (q_name 2 sc_Reader_take_packet.nd) (q_gcons (q_name 3 sc_Reader_take_packet.nd) q_gnil))))
  (q_scons (q_expr (q_me (T := "list") appendL rfl PySem.F.plainAttrs_list PySem.F.slot_list_append PySem.F.type_list_append mt_append (q_fld (cs := ["Reader"]) rfl (fun c hc => by rw [List.mem_singleton.mp hc]; exact Tx.fo_Reader_rows) (q_var 0)) (q_cons (q_tup (q_cons (q_tup (q_star rfl (q_var 2) (q_cons (q_var 1) q_nil))) (q_cons (q_var 3) q_nil))) q_nil)))
  (q_sone (q_ret (q_cmp leL op_le (q_bi (id := "max") maxTL (cr_maxT rfl (room2t hr)) (by decide +kernel) Tx.z_max (q_cons (q_var 1) q_nil)) (q_gint Tx.c_MAX_BYTE) rfl))))))
  exact ⟨rd_Reader_take_packet (fun x _ M' => BackX M.length Ed x M'), gg, m_Reader_take_packet hsp⟩
theorem ok_Reader_take_set (Tx : Txt K mg) (D_Reader_take_set : Dm K "Reader" "take_set" "Reader.take_set" S_Reader_take_set ["self", "numbers"]) (D_Reader_is_open : Dm K "Reader" "is_open" "Reader.is_open" S_Reader_is_open ["self"]) (F_Reader_is_open : Gn T P w K mg base 1 D_Reader_is_open.f D_Reader_is_open.fd ["self"] sp_Reader_is_open) (D_Reader_tally : Dm K "Reader" "tally" "Reader.tally" S_Reader_tally ["self"]) (F_Reader_tally : Gn T P w K mg base 1 D_Reader_tally.f D_Reader_tally.fd ["self"] sp_Reader_tally) (D_is_setA : Df K mg "is_set" "is_set" S_is_setA ["thing", "count"]) (F_is_setA : Gn T P w K mg base 2 D_is_setA.f D_is_setA.fd ["thing", "count"] sp_is_setA) : Gn T P w K mg base 3 D_Reader_take_set.f D_Reader_take_set.fd ["self", "numbers"] sp_Reader_take_set := by
  refine gn_of D_Reader_take_set.F sc_Reader_take_set len_Reader_take_set ?_
  intro Ss G0 H0 Ab Gb X ls M Kd Ed cdv A outer s H E hX hcdv hr hg tk hp hbl hsp
  subst hX
  have gg : QSs ⟨K, Ss, G0, H0, Ab, Gb, T⟩ (cxOf (L2.CX P w) P w K mg base n_Reader_take_set "Reader.take_set" (defScope S_Reader_take_set) D_Reader_take_set.f cdv A outer s H E) (defBody S_Reader_take_set) (rd_Reader_take_set (fun x _ M' => BackX M.length Ed x M')) := (q_scons (q_if (q_wt (q_wor (q_tv (q_U (ca_meth0 rfl D_Reader_is_open.m (q_var 0)) F_Reader_is_open D_Reader_is_open.b (hr.mono (by decide)) hg rfl tk)) (q_wor1 (q_tcmp eqL (op_eqU hr) (q_bi (id := "len") lenL call_len (by decide +kernel) Tx.z_len (q_cons (q_fld (cs := ["Reader"]) rfl (fun c hc => by rw [List.mem_singleton.mp hc]; exact Tx.fo_Reader_groups) (q_var 0)) q_nil)) (q_gint Tx.c_MAX_SETS) rfl)))) (q_sone (q_ret q_bl)) q_snil)
  (q_scons (q_expr (q_me (T := "list") appendL rfl PySem.F.plainAttrs_list PySem.F.slot_list_append PySem.F.type_list_append mt_append (q_fld (cs := ["Reader"]) rfl (fun c hc => by rw [List.mem_singleton.mp hc]; exact Tx.fo_Reader_groups) (q_var 0)) (q_cons (q_var 1) q_nil)))
  (q_sone (q_ret (q_callD F_is_setA D_is_setA.m D_is_setA.b D_is_setA.F.kp (hr.mono (by decide)) hg rfl tk (q_cons (q_var 1) (q_cons (q_U (ca_meth0 rfl D_Reader_tally.m (q_var 0)) F_Reader_tally D_Reader_tally.b (hr.mono (by decide)) hg rfl tk) q_nil)))))))
  exact ⟨rd_Reader_take_set (fun x _ M' => BackX M.length Ed x M'), gg, m_Reader_take_set hsp⟩
theorem ok_integer_of (Tx : Txt K mg) (D_integer_of : Df K mg "integer_of" "integer_of" S_integer_of ["word"])  : Gn T P w K mg base 1 D_integer_of.f D_integer_of.fd ["word"] sp_integer_of := by
  refine gn_of D_integer_of.F sc_integer_of len_integer_of ?_
  intro Ss G0 H0 Ab Gb X ls M Kd Ed cdv A outer s H E hX hcdv hr hg tk hp hbl hsp
  subst hX
  have gg : QSs ⟨K, Ss, G0, H0, Ab, Gb, T⟩ (cxOf (L2.CX P w) P w K mg base n_integer_of "integer_of" (defScope S_integer_of) D_integer_of.f cdv A outer s H E) (defBody S_integer_of) (rd_integer_of (fun x _ M' => BackX M.length Ed x M')) := (q_scons (q_if (q_wt (q_wor (q_not (q_tchain leL op_le leL op_le q_int (q_bi (id := "len") lenL call_len (by decide +kernel) Tx.z_len (q_cons (q_var 0) q_nil)) q_int)) (q_wor1 (q_not (q_tv (q_bi (id := "all") allL (cr_all rfl) (by decide +kernel) Tx.z_all (q_cons (q_lcG (own := [("sign", 1)]) outF_ok rfl sc_integer_of.nd (blkOk_by (N := n_integer_of) (sc := (defScope S_integer_of)) (own := [("sign", 1)]) (by decide +kernel)) (by decide) (q_istr (q_var 0)) (fun _ _ _ _ _ => (q_name 1 sc_integer_of.nd)) (fun _ _ _ _ _ => q_tnil) (fun _ _ _ _ _ => (q_cmp inCL op_in_sign (q_var 1) (q_gstr Tx.c_FIGURES) rfl))) q_nil))))))) (q_sone (q_ret q_non)) q_snil)
  (q_sone (q_ret (q_ife (q_tcmp eqL (op_eqU hr) (q_var 0) (q_bt (T := "str") strL call_str_int (by decide +kernel) Tx.z_str (q_cons (q_bt (T := "int") intSL call_int_str (by decide +kernel) Tx.z_int (q_cons (q_var 0) q_nil)) q_nil)) rfl) (q_bt (T := "int") intSL call_int_str (by decide +kernel) Tx.z_int (q_cons (q_var 0) q_nil)) q_non))))
  exact ⟨rd_integer_of (fun x _ M' => BackX M.length Ed x M'), gg, m_integer_of hsp⟩
theorem ok_Reader_read (Tx : Txt K mg) (D_Reader_read : Dm K "Reader" "read" "Reader.read" S_Reader_read ["self", "line"]) (D_integer_of : Df K mg "integer_of" "integer_of" S_integer_of ["word"]) (F_integer_of : Gn T P w K mg base 1 D_integer_of.f D_integer_of.fd ["word"] sp_integer_of) (D_Reader_take_frame : Dm K "Reader" "take_frame" "Reader.take_frame" S_Reader_take_frame ["self", "numbers"]) (F_Reader_take_frame : Gn T P w K mg base 3 D_Reader_take_frame.f D_Reader_take_frame.fd ["self", "numbers"] sp_Reader_take_frame) (D_Reader_take_packet : Dm K "Reader" "take_packet" "Reader.take_packet" S_Reader_take_packet ["self", "numbers"]) (F_Reader_take_packet : Gn T P w K mg base 2 D_Reader_take_packet.f D_Reader_take_packet.fd ["self", "numbers"] sp_Reader_take_packet) (D_Reader_take_set : Dm K "Reader" "take_set" "Reader.take_set" S_Reader_take_set ["self", "numbers"]) (F_Reader_take_set : Gn T P w K mg base 3 D_Reader_take_set.f D_Reader_take_set.fd ["self", "numbers"] sp_Reader_take_set) : Gn T P w K mg base 4 D_Reader_read.f D_Reader_read.fd ["self", "line"] sp_Reader_read := by
  refine gn_of D_Reader_read.F sc_Reader_read len_Reader_read ?_
  intro Ss G0 H0 Ab Gb X ls M Kd Ed cdv A outer s H E hX hcdv hr hg tk hp hbl hsp
  subst hX
  have gg : QSs ⟨K, Ss, G0, H0, Ab, Gb, T⟩ (cxOf (L2.CX P w) P w K mg base n_Reader_read "Reader.read" (defScope S_Reader_read) D_Reader_read.f cdv A outer s H E) (defBody S_Reader_read) (rd_Reader_read (fun x _ M' => BackX M.length Ed x M')) := (q_scons (q_set 2 sc_Reader_read.nd (q_me (T := "str") (splitL outF_new) rfl PySem.F.plainAttrs_str PySem.F.slot_str_split PySem.F.type_str_split mt_split (q_var 1) (q_cons q_str q_nil)))
  (q_scons (q_set 3 sc_Reader_read.nd (q_bt (T := "tuple") tupleL call_tuple_of (by decide +kernel) Tx.z_tuple (q_cons (q_lcG (own := [("word", 4)]) outF_ok rfl sc_Reader_read.nd (blkOk_by (N := n_Reader_read) (sc := (defScope S_Reader_read)) (own := [("word", 4)]) (by decide +kernel)) (by decide) (q_ilist rfl (q_slice outF_new rfl (q_var 2) (q_osome q_int) q_onone)) (fun _ _ _ _ _ => (q_name 4 sc_Reader_read.nd)) (fun _ _ _ _ _ => q_tnil) (fun _ _ _ _ _ => (q_callD F_integer_of D_integer_of.m D_integer_of.b D_integer_of.F.kp (hr.mono (by decide)) hg rfl tkF (q_cons (q_var 4) q_nil)))) q_nil)))
  (q_scons (q_if (q_tcmp (inL (neg := false)) op_in_seq q_non (q_var 3) rfl) (q_sone (q_ret q_bl)) q_snil)
  (q_scons (q_if (q_tcmp eqL (op_eqU hr) (q_ix rfl (q_var 2) q_int) q_str rfl) (q_sone (q_ret (q_U (ca_meth rfl D_Reader_take_frame.m (q_var 0) (q_cons (q_var 3) q_nil)) F_Reader_take_frame D_Reader_take_frame.b (hr.mono (by decide)) hg rfl tk))) q_snil)
  (q_scons (q_if (q_tcmp eqL (op_eqU hr) (q_ix rfl (q_var 2) q_int) q_str rfl) (q_sone (q_ret (q_U (ca_meth rfl D_Reader_take_packet.m (q_var 0) (q_cons (q_var 3) q_nil)) F_Reader_take_packet D_Reader_take_packet.b (hr.mono (by decide)) hg rfl tk))) q_snil)
  (q_sone (q_ret (q_and (q_cmp eqL (op_eqU hr) (q_ix rfl (q_var 2) q_int) q_str rfl) (q_one (q_U (ca_meth rfl D_Reader_take_set.m (q_var 0) (q_cons (q_var 3) q_nil)) F_Reader_take_set D_Reader_take_set.b (hr.mono (by decide)) hg rfl tk))))))))))
  exact ⟨rd_Reader_read (fun x _ M' => BackX M.length Ed x M'), gg, m_Reader_read hsp⟩
theorem ok_line_of (Tx : Txt K mg) (D_line_of : Df K mg "line_of" "line_of" S_line_of ["word", "numbers"])  : Gn T P w K mg base 1 D_line_of.f D_line_of.fd ["word", "numbers"] sp_line_of := by
  refine gn_of D_line_of.F sc_line_of len_line_of ?_
  intro Ss G0 H0 Ab Gb X ls M Kd Ed cdv A outer s H E hX hcdv hr hg tk hp hbl hsp
  subst hX
  have gg : QSs ⟨K, Ss, G0, H0, Ab, Gb, T⟩ (cxOf (L2.CX P w) P w K mg base n_line_of "line_of" (defScope S_line_of) D_line_of.f cdv A outer s H E) (defBody S_line_of) (rd_line_of (fun x _ M' => BackX M.length Ed x M')) := (q_sone (q_ret (q_me (T := "str") joinL rfl PySem.F.plainAttrs_str PySem.F.slot_str_join PySem.F.type_str_join mt_join q_str (q_cons (q_lst (q_cons (q_var 0) (q_star rfl (q_lcG (own := [("number", 2)]) outF_ok rfl sc_line_of.nd (blkOk_by (N := n_line_of) (sc := (defScope S_line_of)) (own := [("number", 2)]) (by decide +kernel)) (by decide) (q_iseq rfl (q_var 1)) (fun _ _ _ _ _ => (q_name 2 sc_line_of.nd)) (fun _ _ _ _ _ => q_tnil) (fun _ _ _ _ _ => (q_bt (T := "str") strL call_str_int (by decide +kernel) Tx.z_str (q_cons (q_var 2) q_nil)))) q_nil))) q_nil))))
  exact ⟨rd_line_of (fun x _ M' => BackX M.length Ed x M'), gg, m_line_of hsp⟩
theorem ok_format_film (Tx : Txt K mg) (D_format_film : Df K mg "format_film" "format_film" S_format_film ["film"]) (D_Film_size : Dp K "Film" "size" "Film.size" S_Film_size ["self"]) (F_Film_size : Gn T P w K mg base 1 D_Film_size.f D_Film_size.fd ["self"] sp_Film_size) (D_line_of : Df K mg "line_of" "line_of" S_line_of ["word", "numbers"]) (F_line_of : Gn T P w K mg base 1 D_line_of.f D_line_of.fd ["word", "numbers"] sp_line_of) (D_Film_frames : Dp K "Film" "frames" "Film.frames" S_Film_frames ["self"]) (F_Film_frames : Gn T P w K mg base 1 D_Film_frames.f D_Film_frames.fd ["self"] sp_Film_frames) (D_Film_cover : Dp K "Film" "cover" "Film.cover" S_Film_cover ["self"]) (F_Film_cover : Gn T P w K mg base 1 D_Film_cover.f D_Film_cover.fd ["self"] sp_Film_cover) (D_Cover_sets : Dp K "Cover" "sets" "Cover.sets" S_Cover_sets ["self"]) (F_Cover_sets : Gn T P w K mg base 1 D_Cover_sets.f D_Cover_sets.fd ["self"] sp_Cover_sets) : Gn T P w K mg base 3 D_format_film.f D_format_film.fd ["film"] sp_format_film := by
  refine gn_of D_format_film.F sc_format_film len_format_film ?_
  intro Ss G0 H0 Ab Gb X ls M Kd Ed cdv A outer s H E hX hcdv hr hg tk hp hbl hsp
  subst hX
  have gg : QSs ⟨K, Ss, G0, H0, Ab, Gb, T⟩ (cxOf (L2.CX P w) P w K mg base n_format_film "format_film" (defScope S_format_film) D_format_film.f cdv A outer s H E) (defBody S_format_film) (rd_format_film (fun x _ M' => BackX M.length Ed x M')) := (q_scons (q_set 1 sc_format_film.nd (q_lstO (q_cons (q_callD F_line_of D_line_of.m D_line_of.b D_line_of.F.kp (hr.mono (by decide)) hg rfl tk (q_cons q_str (q_cons (q_lst (q_cons (q_prop rfl D_Film_size.c D_Film_size.m F_Film_size D_Film_size.b (hr.mono (by decide)) hg (q_var 0)) q_nil)) q_nil))) q_nil)))
  (q_scons (q_for hp rfl (q_ilist rfl (q_prop rfl D_Film_frames.c D_Film_frames.m F_Film_frames D_Film_frames.b (hr.mono (by decide)) hg (q_var 0))) (q_gtup (n := 2) rfl rfl (q_gcons (q_name 2 sc_format_film.nd) (q_gcons (q_name 3 sc_format_film.nd) q_gnil))) (q_scons (q_expr (q_me (T := "list") appendL rfl PySem.F.plainAttrs_list PySem.F.slot_list_append PySem.F.type_list_append mt_append (q_var 1) (q_cons (q_callD F_line_of D_line_of.m D_line_of.b D_line_of.F.kp (hr.mono (by decide)) hg rfl tk (q_cons q_str (q_cons (q_var 3) q_nil))) q_nil)))
  (q_sone (q_expr (q_me (T := "list") extendL rfl PySem.F.plainAttrs_list PySem.F.slot_list_extend PySem.F.type_list_extend mt_extend (q_var 1) (q_cons (q_lcG (own := [("packet", 4)]) outF_ok rfl sc_format_film.nd (blkOk_by (N := n_format_film) (sc := (defScope S_format_film)) (own := [("packet", 4)]) (by decide +kernel)) (by decide) (q_itup rfl (q_var 2)) (fun _ _ _ _ _ => (q_name 4 sc_format_film.nd)) (fun _ _ _ _ _ => q_tnil) (fun _ _ _ _ _ => (q_callD F_line_of D_line_of.m D_line_of.b D_line_of.F.kp (hr.mono (by decide)) hg rfl tkF (q_cons q_str (q_cons (q_var 4) q_nil))))) q_nil))))))
  (q_scons (q_expr (q_me (T := "list") extendL rfl PySem.F.plainAttrs_list PySem.F.slot_list_extend PySem.F.type_list_extend mt_extend (q_var 1) (q_cons (q_lcG (own := [("numbers", 5)]) outF_ok rfl sc_format_film.nd (blkOk_by (N := n_format_film) (sc := (defScope S_format_film)) (own := [("numbers", 5)]) (by decide +kernel)) (by decide) (q_ilist rfl (q_prop rfl D_Cover_sets.c D_Cover_sets.m F_Cover_sets D_Cover_sets.b (hr.mono (by decide)) hg (q_prop rfl D_Film_cover.c D_Film_cover.m F_Film_cover D_Film_cover.b (hr.mono (by decide)) hg (q_var 0)))) (fun _ _ _ _ _ => (q_name 5 sc_format_film.nd)) (fun _ _ _ _ _ => q_tnil) (fun _ _ _ _ _ => (q_callD F_line_of D_line_of.m D_line_of.b D_line_of.F.kp (hr.mono (by decide)) hg rfl tkF (q_cons q_str (q_cons (q_var 5) q_nil))))) q_nil)))
  (q_sone (q_ret (q_me (T := "str") joinL rfl PySem.F.plainAttrs_str PySem.F.slot_str_join PySem.F.type_str_join mt_join q_str (q_cons (q_var 1) q_nil)))))))
  exact ⟨rd_format_film (fun x _ M' => BackX M.length Ed x M'), gg, m_format_film hsp⟩
theorem ok_parse_film (Tx : Txt K mg) (D_parse_film : Df K mg "parse_film" "parse_film" S_parse_film ["text"]) (D_integer_of : Df K mg "integer_of" "integer_of" S_integer_of ["word"]) (F_integer_of : Gn T P w K mg base 1 D_integer_of.f D_integer_of.fd ["word"] sp_integer_of) (D_is_size : Df K mg "is_size" "is_size" S_is_size ["thing"]) (F_is_size : Gn T P w K mg base 2 D_is_size.f D_is_size.fd ["thing"] sp_is_size) (D_Reader_init : Dn K mg "Reader" "Reader.__init__" S_Reader_init ["self", "size"]) (F_Reader_init : Gn T P w K mg base 1 D_Reader_init.f D_Reader_init.fd ["self", "size"] sp_Reader_init) (D_Reader_read : Dm K "Reader" "read" "Reader.read" S_Reader_read ["self", "line"]) (F_Reader_read : Gn T P w K mg base 4 D_Reader_read.f D_Reader_read.fd ["self", "line"] sp_Reader_read) (D_Reader_is_open : Dm K "Reader" "is_open" "Reader.is_open" S_Reader_is_open ["self"]) (F_Reader_is_open : Gn T P w K mg base 1 D_Reader_is_open.f D_Reader_is_open.fd ["self"] sp_Reader_is_open) (D_Film_init : Dn K mg "Film" "Film.__init__" S_Film_init ["self", "size", "frames", "sets"]) (F_Film_init : Gn T P w K mg base 5 D_Film_init.f D_Film_init.fd ["self", "size", "frames", "sets"] sp_Film_init) : Gn T P w K mg base 7 D_parse_film.f D_parse_film.fd ["text"] sp_parse_film := by
  refine gn_of D_parse_film.F sc_parse_film len_parse_film ?_
  intro Ss G0 H0 Ab Gb X ls M Kd Ed cdv A outer s H E hX hcdv hr hg tk hp hbl hsp
  subst hX
  have hb0 := ml_parse_film hsp
  have hb1 : (Fc.mk K Ss G0 H0 Ab Gb T).S.length ≤ _ := Nat.le_trans hbl.1 hb0
  have hb2 : (Fc.mk K Ss G0 H0 Ab Gb T).Ab.length ≤ _ := Nat.le_trans hbl.2 hb0
  have gg : QSs ⟨K, Ss, G0, H0, Ab, Gb, T⟩ (cxOf (L2.CX P w) P w K mg base n_parse_film "parse_film" (defScope S_parse_film) D_parse_film.f cdv A outer s H E) (defBody S_parse_film) (rd_parse_film (fun x _ M' => BackX M.length Ed x M')) := (q_scons (q_set 1 sc_parse_film.nd (q_ife (q_tv (q_isi "str" rfl Tx.z_isinstance Tx.z_str (by decide +kernel) (q_var 0))) (q_me (T := "str") (splitL outF_new) rfl PySem.F.plainAttrs_str PySem.F.slot_str_split PySem.F.type_str_split mt_split (q_var 0) (q_cons q_str q_nil)) (q_lst (q_cons q_str q_nil))))
  (q_scons (q_set 2 sc_parse_film.nd (q_me (T := "str") (splitL outF_new) rfl PySem.F.plainAttrs_str PySem.F.slot_str_split PySem.F.type_str_split mt_split (q_ix rfl (q_var 1) q_int) (q_cons q_str q_nil)))
  (q_scons (q_if (q_wt (q_wor (q_tcmp neL (op_neU hr) (q_bi (id := "len") lenL call_len (by decide +kernel) Tx.z_len (q_cons (q_var 2) q_nil)) q_int rfl) (q_wor (q_tcmp neL (op_neU hr) (q_ix rfl (q_var 2) q_int) q_str rfl) (q_wor1 (q_not (q_tv (q_callD F_is_size D_is_size.m D_is_size.b D_is_size.F.kp (hr.mono (by decide)) hg rfl tk (q_cons (q_callD F_integer_of D_integer_of.m D_integer_of.b D_integer_of.F.kp (hr.mono (by decide)) hg rfl tk (q_cons (q_ix rfl (q_var 2) q_int) q_nil)) q_nil)))))))) (q_sone q_never) q_snil)
  (q_scons (q_set 3 sc_parse_film.nd (q_make D_Reader_init.g D_Reader_init.m F_Reader_init D_Reader_init.b (hr.mono (by decide)) hg rfl tk (q_cons (q_callD F_integer_of D_integer_of.m D_integer_of.b D_integer_of.F.kp (hr.mono (by decide)) hg rfl tk (q_cons (q_ix rfl (q_var 2) q_int) q_nil)) q_nil)))
  (q_scons (q_for hp rfl (q_ienumF rfl Tx.z_enumerate (q_cons (q_slice outF_new rfl (q_var 1) (q_osome q_int) q_onone) (q_cons q_int q_nil))) (q_gtup (n := 2) rfl rfl (q_gcons (q_name 4 sc_parse_film.nd) (q_gcons (q_name 5 sc_parse_film.nd) q_gnil))) (q_sone (q_if (q_not (q_tv (q_U (ca_meth rfl D_Reader_read.m (q_var 3) (q_cons (q_var 5) q_nil)) F_Reader_read D_Reader_read.b (hr.mono (by decide)) hg rfl tk))) (q_sone q_never) q_snil)))
  (q_scons (q_if (q_tv (q_U (ca_meth0 rfl D_Reader_is_open.m (q_var 3)) F_Reader_is_open D_Reader_is_open.b (hr.mono (by decide)) hg rfl tk)) (q_sone q_never) q_snil)
  (q_sone (q_wkF (b := 0) hb1 hb2 (q_ret (q_fz (q_make D_Film_init.g D_Film_init.m F_Film_init D_Film_init.b (hr.mono (by decide)) hg rfl tk (q_cons (q_fld (cs := ["Reader"]) rfl (fun c hc => by rw [List.mem_singleton.mp hc]; exact Tx.fo_Reader_wide) (q_var 3)) (q_cons (q_fld (cs := ["Film", "Reader"]) rfl (fun c hc => by simp only [List.mem_cons, List.not_mem_nil, or_false] at hc; rcases hc with rfl | rfl <;> first | exact Tx.fo_Film_rows | exact Tx.fo_Reader_rows) (q_var 3)) (q_cons (q_fld (cs := ["Reader"]) rfl (fun c hc => by rw [List.mem_singleton.mp hc]; exact Tx.fo_Reader_groups) (q_var 3)) q_nil))))))))))))))
  exact ⟨rd_parse_film (fun x _ M' => BackX M.length Ed x M'), gg, m_parse_film hsp⟩
theorem ok_l_pen (Tx : Txt K mg) (D_l_pen : Df K mg "_law_pen" "_law_pen" S_l_pen ["_law_script"])  : Gn T P w K mg base 1 D_l_pen.f D_l_pen.fd ["_law_script"] sp_l_pen := by
  refine gn_of D_l_pen.F sc_l_pen len_l_pen ?_
  intro Ss G0 H0 Ab Gb X ls M Kd Ed cdv A outer s H E hX hcdv hr hg tk hp hbl hsp
  subst hX
  have gg : QSs ⟨K, Ss, G0, H0, Ab, Gb, T⟩ (cxOf (L2.CX P w) P w K mg base n_l_pen "_law_pen" (defScope S_l_pen) D_l_pen.f cdv A outer s H E) (defBody S_l_pen) (rd_l_pen (fun x _ M' => BackX M.length Ed x M')) := (q_sone (q_ret (q_lstO (q_cons (q_bt (T := "list") (listL outF_new) call_list_of (by decide +kernel) Tx.z_list (q_cons (q_slice outF_new rfl (q_var 0) q_onone (q_osome q_int)) q_nil)) (q_cons q_int (q_cons q_int q_nil))))))
  exact ⟨rd_l_pen (fun x _ M' => BackX M.length Ed x M'), gg, m_l_pen hsp⟩
theorem ok_l_next (Tx : Txt K mg) (D_l_next : Df K mg "_law_next" "_law_next" S_l_next ["_law_pen_here"])  : Gn T P w K mg base 1 D_l_next.f D_l_next.fd ["_law_pen_here"] sp_l_next := by
  refine gn_of D_l_next.F sc_l_next len_l_next ?_
  intro Ss G0 H0 Ab Gb X ls M Kd Ed cdv A outer s H E hX hcdv hr hg tk hp hbl hsp
  subst hX
  have gg : QSs ⟨K, Ss, G0, H0, Ab, Gb, T⟩ (cxOf (L2.CX P w) P w K mg base n_l_next "_law_next" (defScope S_l_next) D_l_next.f cdv A outer s H E) (defBody S_l_next) (rd_l_next (fun x _ M' => BackX M.length Ed x M')) := (q_scons (q_set 1 sc_l_next.nd (q_ix rfl (q_var 0) q_int))
  (q_scons (q_asg (q_op (addL outF_new) op_addU (q_var 1) q_int) (q_gsub (q_var 0) q_int))
  (q_scons (q_set 2 sc_l_next.nd (q_op (addL outF_new) op_addU (q_op (mulL outF_new) op_mulU (q_var 1) q_int) q_int))
  (q_scons (q_if (q_tcmp neL (op_neU hr) (q_ix rfl (q_var 0) q_int) (q_lst q_nil) rfl) (q_sone (q_set 2 sc_l_next.nd (q_ix rfl (q_ix rfl (q_var 0) q_int) (q_op modL op_mod (q_bt (T := "int") intL call_int1 (by decide +kernel) Tx.z_int (q_cons (q_var 1) q_nil)) (q_bi (id := "len") lenL call_len (by decide +kernel) Tx.z_len (q_cons (q_ix rfl (q_var 0) q_int) q_nil)))))) q_snil)
  (q_scons (q_if (q_wt (q_wand (q_tcmp ltL op_lt (q_var 1) (q_bi (id := "len") lenL call_len (by decide +kernel) Tx.z_len (q_cons (q_ix rfl (q_var 0) q_int) q_nil)) rfl) (q_wand1 (q_tcmp geL op_ge (q_var 2) (cpowL (c := 1000000000000000000)) rfl)))) (q_sone (q_ret (q_var 2))) q_snil)
  (q_scons (q_set 3 sc_l_next.nd (q_op modL op_mod (q_bt (T := "int") intL call_int1 (by decide +kernel) Tx.z_int (q_cons (q_op (addL outF_new) op_addU (q_op (addL outF_new) op_addU (q_op modL op_mod (q_bt (T := "int") intL call_int1 (by decide +kernel) Tx.z_int (q_cons (q_var 2) q_nil)) q_int) (q_op (mulL outF_new) op_mulU (q_var 1) q_int)) q_int) q_nil)) q_int))
  (q_scons (q_set 4 sc_l_next.nd (q_op modL op_mod (q_bt (T := "int") intL call_int1 (by decide +kernel) Tx.z_int (q_cons (q_op (addL outF_new) op_addU (q_op (addL outF_new) op_addU (q_op (mulL outF_new) op_mulU (q_var 3) (q_var 3)) (q_op (mulL outF_new) op_mulU (q_var 1) q_int)) q_int) q_nil)) q_int))
  (q_scons (q_set 5 sc_l_next.nd (q_op modL op_mod (q_bt (T := "int") intL call_int1 (by decide +kernel) Tx.z_int (q_cons (q_op (addL outF_new) op_addU (q_op (addL outF_new) op_addU (q_op (mulL outF_new) op_mulU (q_var 4) (q_var 4)) (q_var 3)) (q_op (mulL outF_new) op_mulU (q_op (mulL outF_new) op_mulU (q_var 1) (q_var 1)) q_int)) q_nil)) q_int))
  (q_sone (q_ret (q_op (addL outF_new) op_addU (q_op (mulL outF_new) op_mulU (q_op (addL outF_new) op_addU (q_op (mulL outF_new) op_mulU (q_var 5) q_int) (q_var 4)) q_int) (q_var 3))))))))))))
  exact ⟨rd_l_next (fun x _ M' => BackX M.length Ed x M'), gg, m_l_next hsp⟩
theorem ok_l_draw (Tx : Txt K mg) (D_l_draw : Df K mg "_law_draw" "_law_draw" S_l_draw ["_law_pen_here", "_law_under"]) (D_l_next : Df K mg "_law_next" "_law_next" S_l_next ["_law_pen_here"]) (F_l_next : Gn T P w K mg base 1 D_l_next.f D_l_next.fd ["_law_pen_here"] sp_l_next) : Gn T P w K mg base 2 D_l_draw.f D_l_draw.fd ["_law_pen_here", "_law_under"] sp_l_draw := by
  refine gn_of D_l_draw.F sc_l_draw len_l_draw ?_
  intro Ss G0 H0 Ab Gb X ls M Kd Ed cdv A outer s H E hX hcdv hr hg tk hp hbl hsp
  subst hX
  have gg : QSs ⟨K, Ss, G0, H0, Ab, Gb, T⟩ (cxOf (L2.CX P w) P w K mg base n_l_draw "_law_draw" (defScope S_l_draw) D_l_draw.f cdv A outer s H E) (defBody S_l_draw) (rd_l_draw (fun x _ M' => BackX M.length Ed x M')) := (q_scons (q_if (q_tcmp ltL op_lt (q_ix rfl (q_var 0) q_int) (q_var 1) rfl) (q_sone (q_asg (q_callP F_l_next D_l_next.m D_l_next.b D_l_next.F.kp (hr.mono (by decide)) hg rfl (q_cons (q_var 0) q_nil)) (q_gsub (q_var 0) q_int))) q_snil)
  (q_scons (q_set 2 sc_l_draw.nd (q_op modL op_mod (q_bt (T := "int") intL call_int1 (by decide +kernel) Tx.z_int (q_cons (q_ix rfl (q_var 0) q_int) q_nil)) (q_var 1)))
  (q_scons (q_asg (q_op divL op_fdivW (q_ix rfl (q_var 0) q_int) (q_var 1)) (q_gsub (q_var 0) q_int))
  (q_sone (q_ret (q_var 2))))))
  exact ⟨rd_l_draw (fun x _ M' => BackX M.length Ed x M'), gg, m_l_draw hsp⟩
theorem ok_l_some (Tx : Txt K mg) (D_l_some : Df K mg "_law_some" "_law_some" S_l_some ["_law_pen_here", "_law_pool", "_law_most"]) (D_l_draw : Df K mg "_law_draw" "_law_draw" S_l_draw ["_law_pen_here", "_law_under"]) (F_l_draw : Gn T P w K mg base 2 D_l_draw.f D_l_draw.fd ["_law_pen_here", "_law_under"] sp_l_draw) : Gn T P w K mg base 3 D_l_some.f D_l_some.fd ["_law_pen_here", "_law_pool", "_law_most"] sp_l_some := by
  refine gn_of D_l_some.F sc_l_some len_l_some ?_
  intro Ss G0 H0 Ab Gb X ls M Kd Ed cdv A outer s H E hX hcdv hr hg tk hp hbl hsp
  subst hX
  have gg : QSs ⟨K, Ss, G0, H0, Ab, Gb, T⟩ (cxOf (L2.CX P w) P w K mg base n_l_some "_law_some" (defScope S_l_some) D_l_some.f cdv A outer s H E) (defBody S_l_some) (rd_l_some (fun x _ M' => BackX M.length Ed x M')) := (q_scons (q_set 3 sc_l_some.nd (q_bt (T := "list") (listL outO_new) call_list_of (by decide +kernel) Tx.z_list (q_cons (q_var 1) q_nil)))
  (q_sone (q_ret (q_lcB (own := [("_law_turn", 4)]) outF_ok rfl sc_l_some.nd (blkOk_by (N := n_l_some) (sc := (defScope S_l_some)) (own := [("_law_turn", 4)]) (by decide +kernel)) (by decide) (q_iran1 Tx.z_range (q_cons (q_callP F_l_draw D_l_draw.m D_l_draw.b D_l_draw.F.kp (hr.mono (by decide)) hg rfl (q_cons (q_var 0) (q_cons (q_op (addL outF_new) op_addU (q_bi (id := "min") minL (cr_minU rfl) (by decide +kernel) Tx.z_min (q_cons (q_var 2) (q_cons (q_bi (id := "len") lenL call_len (by decide +kernel) Tx.z_len (q_cons (q_var 3) q_nil)) q_nil))) q_int) q_nil))) q_nil)) (fun _ _ _ _ _ => (q_name 4 sc_l_some.nd)) (fun _ _ _ _ _ => q_tnil) (fun _ _ _ _ _ => (q_me (T := "list") popAtL rfl PySem.F.plainAttrs_list PySem.F.slot_list_pop PySem.F.type_list_pop mt_popAt (q_var 3) (q_cons (q_callP F_l_draw D_l_draw.m D_l_draw.b D_l_draw.F.kp (hr.mono (by decide)) hg rfl (q_cons (q_var 0) (q_cons (q_bi (id := "len") lenL call_len (by decide +kernel) Tx.z_len (q_cons (q_var 3) q_nil)) q_nil))) q_nil)))))))
  exact ⟨rd_l_some (fun x _ M' => BackX M.length Ed x M'), gg, m_l_some hsp⟩
theorem ok_l_groups (Tx : Txt K mg) (D_l_groups : Df K mg "_law_groups" "_law_groups" S_l_groups ["_law_pen_here", "_law_many", "_law_most"]) (D_l_draw : Df K mg "_law_draw" "_law_draw" S_l_draw ["_law_pen_here", "_law_under"]) (F_l_draw : Gn T P w K mg base 2 D_l_draw.f D_l_draw.fd ["_law_pen_here", "_law_under"] sp_l_draw) (D_l_some : Df K mg "_law_some" "_law_some" S_l_some ["_law_pen_here", "_law_pool", "_law_most"]) (F_l_some : Gn T P w K mg base 3 D_l_some.f D_l_some.fd ["_law_pen_here", "_law_pool", "_law_most"] sp_l_some) : Gn T P w K mg base 4 D_l_groups.f D_l_groups.fd ["_law_pen_here", "_law_many", "_law_most"] sp_l_groups := by
  refine gn_of D_l_groups.F sc_l_groups len_l_groups ?_
  intro Ss G0 H0 Ab Gb X ls M Kd Ed cdv A outer s H E hX hcdv hr hg tk hp hbl hsp
  subst hX
  have hb0 := ml_l_groups hsp
  have hb1 : (Fc.mk K Ss G0 H0 Ab Gb T).S.length ≤ _ := Nat.le_trans hbl.1 hb0
  have hb2 : (Fc.mk K Ss G0 H0 Ab Gb T).Ab.length ≤ _ := Nat.le_trans hbl.2 hb0
  have gg : QSs ⟨K, Ss, G0, H0, Ab, Gb, T⟩ (cxOf (L2.CX P w) P w K mg base n_l_groups "_law_groups" (defScope S_l_groups) D_l_groups.f cdv A outer s H E) (defBody S_l_groups) (rd_l_groups (fun x _ M' => BackX M.length Ed x M')) := (q_scons (q_set 3 sc_l_groups.nd (q_lstO q_nil))
  (q_scons (q_for hp rfl (q_iran1 Tx.z_range (q_cons (q_ife (q_tcmp gtL op_gt (q_var 1) q_int rfl) (q_callP F_l_draw D_l_draw.m D_l_draw.b D_l_draw.F.kp (hr.mono (by decide)) hg rfl (q_cons (q_var 0) (q_cons (q_op (addL outF_new) op_addU (q_var 2) q_int) q_nil))) q_int) q_nil)) (q_name 4 sc_l_groups.nd) (q_scons (q_par 5 6 rfl sc_l_groups.nd (q_cons (q_callP F_l_draw D_l_draw.m D_l_draw.b D_l_draw.F.kp (hr.mono (by decide)) hg rfl (q_cons (q_var 0) (q_cons q_int q_nil))) (q_cons (q_callP F_l_draw D_l_draw.m D_l_draw.b D_l_draw.F.kp (hr.mono (by decide)) hg rfl (q_cons (q_var 0) (q_cons (q_var 1) q_nil))) q_nil)))
  (q_scons (q_set 7 sc_l_groups.nd (q_tupRg2 rfl Tx.z_tuple Tx.z_range (q_var 6) (q_bi (id := "min") minL (cr_minU rfl) (by decide +kernel) Tx.z_min (q_cons (q_var 1) (q_cons (q_op (addL outF_new) op_addU (q_op (addL outF_new) op_addU (q_var 6) q_int) (q_callP F_l_draw D_l_draw.m D_l_draw.b D_l_draw.F.kp (hr.mono (by decide)) hg rfl (q_cons (q_var 0) (q_cons q_int q_nil)))) q_nil)))))
  (q_scons (q_if (q_tcmp eqL (op_eqU hr) (q_var 5) q_int rfl) (q_sone (q_set 7 sc_l_groups.nd (q_tupRg rfl Tx.z_tuple Tx.z_range (q_var 1)))) (q_sone (q_if (q_wt (q_wand (q_tcmp eqL (op_eqU hr) (q_var 5) q_int rfl) (q_wand1 (q_tcmp neL (op_neU hr) (q_var 3) (q_lst q_nil) rfl)))) (q_sone (q_set 7 sc_l_groups.nd (q_ix rfl (q_var 3) (q_callP F_l_draw D_l_draw.m D_l_draw.b D_l_draw.F.kp (hr.mono (by decide)) hg rfl (q_cons (q_var 0) (q_cons (q_bi (id := "len") lenL call_len (by decide +kernel) Tx.z_len (q_cons (q_var 3) q_nil)) q_nil)))))) (q_sone (q_if (q_tcmp gtL op_gt (q_var 5) q_int rfl) (q_sone (q_set 7 sc_l_groups.nd (q_bt (T := "tuple") tupleL call_tuple_of (by decide +kernel) Tx.z_tuple (q_cons (q_bi (id := "sorted") (sortedL outF_new) cr_srtU (by decide +kernel) Tx.z_sorted (q_cons (q_callP F_l_some D_l_some.m D_l_some.b D_l_some.F.kp (hr.mono (by decide)) hg rfl (q_cons (q_var 0) (q_cons (q_listRg outF_new rfl Tx.z_list Tx.z_range (q_var 1)) (q_cons (q_var 1) q_nil)))) q_nil)) q_nil)))) q_snil)))))
  (q_sone (q_expr (q_me (T := "list") appendL rfl PySem.F.plainAttrs_list PySem.F.slot_list_append PySem.F.type_list_append mt_append (q_var 3) (q_cons (q_ife (q_tcmp neL (op_neU hr) (q_var 7) (q_tup q_nil) rfl) (q_var 7) (q_tup (q_cons (q_var 6) q_nil))) q_nil))))))))
  (q_sone (q_wkF (b := 1) hb1 hb2 (q_ret (q_var 3))))))
  exact ⟨rd_l_groups (fun x _ M' => BackX M.length Ed x M'), gg, m_l_groups hsp⟩
theorem ok_l_bytes (Tx : Txt K mg) (D_l_bytes : Df K mg "_law_bytes" "_law_bytes" S_l_bytes ["_law_pen_here", "_law_wide"]) (D_l_draw : Df K mg "_law_draw" "_law_draw" S_l_draw ["_law_pen_here", "_law_under"]) (F_l_draw : Gn T P w K mg base 2 D_l_draw.f D_l_draw.fd ["_law_pen_here", "_law_under"] sp_l_draw) : Gn T P w K mg base 3 D_l_bytes.f D_l_bytes.fd ["_law_pen_here", "_law_wide"] sp_l_bytes := by
  refine gn_of D_l_bytes.F sc_l_bytes len_l_bytes ?_
  intro Ss G0 H0 Ab Gb X ls M Kd Ed cdv A outer s H E hX hcdv hr hg tk hp hbl hsp
  subst hX
  have gg : QSs ⟨K, Ss, G0, H0, Ab, Gb, T⟩ (cxOf (L2.CX P w) P w K mg base n_l_bytes "_law_bytes" (defScope S_l_bytes) D_l_bytes.f cdv A outer s H E) (defBody S_l_bytes) (rd_l_bytes (fun x _ M' => BackX M.length Ed x M')) := (q_scons (q_set 2 sc_l_bytes.nd (q_ix rfl (q_lst (q_cons q_int (q_cons q_int (q_cons q_int q_nil)))) (q_callP F_l_draw D_l_draw.m D_l_draw.b D_l_draw.F.kp (hr.mono (by decide)) hg rfl (q_cons (q_var 0) (q_cons q_int q_nil)))))
  (q_sone (q_ret (q_bt (T := "tuple") tupleL call_tuple_of (by decide +kernel) Tx.z_tuple (q_cons (q_lcB (own := [("_law_k", 3)]) outF_ok rfl sc_l_bytes.nd (blkOk_by (N := n_l_bytes) (sc := (defScope S_l_bytes)) (own := [("_law_k", 3)]) (by decide +kernel)) (by decide) (q_iran1 Tx.z_range (q_cons (q_var 1) q_nil)) (fun _ _ _ _ _ => (q_name 3 sc_l_bytes.nd)) (fun _ _ _ _ _ => q_tnil) (fun _ _ _ _ _ => (q_ix rfl (q_lst (q_cons (q_callP F_l_draw D_l_draw.m D_l_draw.b D_l_draw.F.kp (hr.mono (by decide)) hg rfl (q_cons (q_var 0) (q_cons (q_var 2) q_nil))) (q_cons q_int (q_cons q_int q_nil)))) (q_bi (id := "max") maxL (cr_maxU rfl) (by decide +kernel) Tx.z_max (q_cons q_int (q_cons (q_op subL op_sub (q_callP F_l_draw D_l_draw.m D_l_draw.b D_l_draw.F.kp (hr.mono (by decide)) hg rfl (q_cons (q_var 0) (q_cons q_int q_nil))) q_int) q_nil)))))) q_nil)))))
  exact ⟨rd_l_bytes (fun x _ M' => BackX M.length Ed x M'), gg, m_l_bytes hsp⟩
theorem ok_l_shape (Tx : Txt K mg) (D_l_shape : Df K mg "_law_shape" "_law_shape" S_l_shape ["_law_pen_here", "_law_most", "_law_most_sets"]) (D_l_draw : Df K mg "_law_draw" "_law_draw" S_l_draw ["_law_pen_here", "_law_under"]) (F_l_draw : Gn T P w K mg base 2 D_l_draw.f D_l_draw.fd ["_law_pen_here", "_law_under"] sp_l_draw) (D_l_bytes : Df K mg "_law_bytes" "_law_bytes" S_l_bytes ["_law_pen_here", "_law_wide"]) (F_l_bytes : Gn T P w K mg base 3 D_l_bytes.f D_l_bytes.fd ["_law_pen_here", "_law_wide"] sp_l_bytes) (D_l_some : Df K mg "_law_some" "_law_some" S_l_some ["_law_pen_here", "_law_pool", "_law_most"]) (F_l_some : Gn T P w K mg base 3 D_l_some.f D_l_some.fd ["_law_pen_here", "_law_pool", "_law_most"] sp_l_some) (D_l_groups : Df K mg "_law_groups" "_law_groups" S_l_groups ["_law_pen_here", "_law_many", "_law_most"]) (F_l_groups : Gn T P w K mg base 4 D_l_groups.f D_l_groups.fd ["_law_pen_here", "_law_many", "_law_most"] sp_l_groups) : Gn T P w K mg base 5 D_l_shape.f D_l_shape.fd ["_law_pen_here", "_law_most", "_law_most_sets"] sp_l_shape := by
  refine gn_of D_l_shape.F sc_l_shape len_l_shape ?_
  intro Ss G0 H0 Ab Gb X ls M Kd Ed cdv A outer s H E hX hcdv hr hg tk hp hbl hsp
  subst hX
  have hb0 := ml_l_shape hsp
  have hb1 : (Fc.mk K Ss G0 H0 Ab Gb T).S.length ≤ _ := Nat.le_trans hbl.1 hb0
  have hb2 : (Fc.mk K Ss G0 H0 Ab Gb T).Ab.length ≤ _ := Nat.le_trans hbl.2 hb0
  have gg : QSs ⟨K, Ss, G0, H0, Ab, Gb, T⟩ (cxOf (L2.CX P w) P w K mg base n_l_shape "_law_shape" (defScope S_l_shape) D_l_shape.f cdv A outer s H E) (defBody S_l_shape) (rd_l_shape (fun x _ M' => BackX M.length Ed x M')) := (q_scons (q_asg (q_tup (q_cons (q_op (addL outF_new) op_addU q_int (q_callP F_l_draw D_l_draw.m D_l_draw.b D_l_draw.F.kp (hr.mono (by decide)) hg rfl (q_cons (q_var 0) (q_cons q_int q_nil)))) (q_cons (q_lstO q_nil) (q_cons q_int q_nil)))) (q_gtup (n := 3) rfl rfl (q_gcons (q_name 3 sc_l_shape.nd) (q_gcons (q_name 4 sc_l_shape.nd) (q_gcons (q_name 5 sc_l_shape.nd) q_gnil)))))
  (q_scons (q_for hp rfl (q_iran1 Tx.z_range (q_cons (q_callP F_l_draw D_l_draw.m D_l_draw.b D_l_draw.F.kp (hr.mono (by decide)) hg rfl (q_cons (q_var 0) (q_cons (q_op (addL outF_new) op_addU (q_var 1) q_int) q_nil))) q_nil)) (q_name 6 sc_l_shape.nd) (q_scons (q_set 7 sc_l_shape.nd (q_bt (T := "tuple") tupleL call_tuple_of (by decide +kernel) Tx.z_tuple (q_cons (q_lcB (own := [("_law_turn", 8)]) outF_ok rfl sc_l_shape.nd (blkOk_by (N := n_l_shape) (sc := (defScope S_l_shape)) (own := [("_law_turn", 8)]) (by decide +kernel)) (by decide) (q_iran1 Tx.z_range (q_cons (q_op (addL outF_new) op_addU q_int (q_callP F_l_draw D_l_draw.m D_l_draw.b D_l_draw.F.kp (hr.mono (by decide)) hg rfl (q_cons (q_var 0) (q_cons q_int q_nil)))) q_nil)) (fun _ _ _ _ _ => (q_name 8 sc_l_shape.nd)) (fun _ _ _ _ _ => q_tnil) (fun _ _ _ _ _ => (q_callP F_l_bytes D_l_bytes.m D_l_bytes.b D_l_bytes.F.kp (hr.mono (by decide)) hg rfl (q_cons (q_var 0) (q_cons (q_var 3) q_nil))))) q_nil)))
  (q_scons (q_expr (q_me (T := "list") appendL rfl PySem.F.plainAttrs_list PySem.F.slot_list_append PySem.F.type_list_append mt_append (q_var 4) (q_cons (q_tup (q_cons (q_var 7) (q_cons (q_bt (T := "tuple") tupleL call_tuple_of (by decide +kernel) Tx.z_tuple (q_cons (q_bi (id := "sorted") (sortedL outF_new) cr_srtU (by decide +kernel) Tx.z_sorted (q_cons (q_callP F_l_some D_l_some.m D_l_some.b D_l_some.F.kp (hr.mono (by decide)) hg rfl (q_cons (q_var 0) (q_cons (q_listRg outF_new rfl Tx.z_list Tx.z_range (q_var 6)) (q_cons q_int q_nil)))) q_nil)) q_nil)) q_nil))) q_nil)))
  (q_sone (q_set 5 sc_l_shape.nd (q_op (addL outF_new) op_addU (q_var 5) (q_bi (id := "len") lenL call_len (by decide +kernel) Tx.z_len (q_cons (q_var 7) q_nil))))))))
  (q_sone (q_wkF (b := 1) hb1 hb2 (q_ret (q_tup (q_cons (q_var 3) (q_cons (q_var 4) (q_cons (q_callP F_l_groups D_l_groups.m D_l_groups.b D_l_groups.F.kp (hr.mono (by decide)) hg rfl (q_cons (q_var 0) (q_cons (q_var 5) (q_cons (q_var 2) q_nil)))) q_nil)))))))))
  exact ⟨rd_l_shape (fun x _ M' => BackX M.length Ed x M'), gg, m_l_shape hsp⟩
theorem ok_l_film (Tx : Txt K mg) (D_l_film : Df K mg "_law_film" "_law_film" S_l_film ["_law_shape_here"]) (D_Film_init : Dn K mg "Film" "Film.__init__" S_Film_init ["self", "size", "frames", "sets"]) (F_Film_init : Gn T P w K mg base 5 D_Film_init.f D_Film_init.fd ["self", "size", "frames", "sets"] sp_Film_init) : Gn T P w K mg base 7 D_l_film.f D_l_film.fd ["_law_shape_here"] sp_l_film := by
  refine gn_of D_l_film.F sc_l_film len_l_film ?_
  intro Ss G0 H0 Ab Gb X ls M Kd Ed cdv A outer s H E hX hcdv hr hg tk hp hbl hsp
  subst hX
  have gg : QSs ⟨K, Ss, G0, H0, Ab, Gb, T⟩ (cxOf (L2.CX P w) P w K mg base n_l_film "_law_film" (defScope S_l_film) D_l_film.f cdv A outer s H E) (defBody S_l_film) (rd_l_film (fun x _ M' => BackX M.length Ed x M')) := (q_sone (q_ret (q_fz (q_make D_Film_init.g D_Film_init.m F_Film_init D_Film_init.b (hr.mono (by decide)) hg rfl tk (q_cons (q_ix rfl (q_var 0) q_int) (q_cons (q_ix rfl (q_var 0) q_int) (q_cons (q_ix rfl (q_var 0) q_int) q_nil)))))))
  exact ⟨rd_l_film (fun x _ M' => BackX M.length Ed x M'), gg, m_l_film hsp⟩
theorem ok_l_lines (Tx : Txt K mg) (D_l_lines : Df K mg "_law_lines" "_law_lines" S_l_lines ["_law_shape_here"])  : Gn T P w K mg base 1 D_l_lines.f D_l_lines.fd ["_law_shape_here"] sp_l_lines := by
  refine gn_of D_l_lines.F sc_l_lines len_l_lines ?_
  intro Ss G0 H0 Ab Gb X ls M Kd Ed cdv A outer s H E hX hcdv hr hg tk hp hbl hsp
  subst hX
  have hb0 := ml_l_lines hsp
  have hb1 : (Fc.mk K Ss G0 H0 Ab Gb T).S.length ≤ _ := Nat.le_trans hbl.1 hb0
  have hb2 : (Fc.mk K Ss G0 H0 Ab Gb T).Ab.length ≤ _ := Nat.le_trans hbl.2 hb0
  have gg : QSs ⟨K, Ss, G0, H0, Ab, Gb, T⟩ (cxOf (L2.CX P w) P w K mg base n_l_lines "_law_lines" (defScope S_l_lines) D_l_lines.f cdv A outer s H E) (defBody S_l_lines) (rd_l_lines (fun x _ M' => BackX M.length Ed x M')) := (q_scons (q_set 1 sc_l_lines.nd (q_lstO (q_cons (q_op (addL outF_new) op_addU q_str (q_bt (T := "str") strL call_str_int (by decide +kernel) Tx.z_str (q_cons (q_ix rfl (q_var 0) q_int) q_nil))) q_nil)))
  (q_scons (q_for hp rfl (q_ilist rfl (q_ix rfl (q_var 0) q_int)) (q_gtup (n := 2) rfl rfl (q_gcons (q_name 2 sc_l_lines.nd) (q_gcons (q_name 3 sc_l_lines.nd) q_gnil))) (q_scons (q_expr (q_me (T := "list") appendL rfl PySem.F.plainAttrs_list PySem.F.slot_list_append PySem.F.type_list_append mt_append (q_var 1) (q_cons (q_me (T := "str") joinL rfl PySem.F.plainAttrs_str PySem.F.slot_str_join PySem.F.type_str_join mt_join q_str (q_cons (q_op (addL outF_new) op_addU (q_lst (q_cons q_str q_nil)) (q_lcG (own := [("_law_one", 4)]) outF_ok rfl sc_l_lines.nd (blkOk_by (N := n_l_lines) (sc := (defScope S_l_lines)) (own := [("_law_one", 4)]) (by decide +kernel)) (by decide) (q_itup rfl (q_var 3)) (fun _ _ _ _ _ => (q_name 4 sc_l_lines.nd)) (fun _ _ _ _ _ => q_tnil) (fun _ _ _ _ _ => (q_bt (T := "str") strL call_str_int (by decide +kernel) Tx.z_str (q_cons (q_var 4) q_nil))))) q_nil)) q_nil)))
  (q_sone (q_for hp rfl (q_itup rfl (q_var 2)) (q_name 4 sc_l_lines.nd) (q_sone (q_expr (q_me (T := "list") appendL rfl PySem.F.plainAttrs_list PySem.F.slot_list_append PySem.F.type_list_append mt_append (q_var 1) (q_cons (q_me (T := "str") joinL rfl PySem.F.plainAttrs_str PySem.F.slot_str_join PySem.F.type_str_join mt_join q_str (q_cons (q_op (addL outF_new) op_addU (q_lst (q_cons q_str q_nil)) (q_lcG (own := [("_law_byte", 5)]) outF_ok rfl sc_l_lines.nd (blkOk_by (N := n_l_lines) (sc := (defScope S_l_lines)) (own := [("_law_byte", 5)]) (by decide +kernel)) (by decide) (q_itup rfl (q_var 4)) (fun _ _ _ _ _ => (q_name 5 sc_l_lines.nd)) (fun _ _ _ _ _ => q_tnil) (fun _ _ _ _ _ => (q_bt (T := "str") strL call_str_int (by decide +kernel) Tx.z_str (q_cons (q_var 5) q_nil))))) q_nil)) q_nil))))))))
  (q_scons (q_for hp rfl (q_ilist rfl (q_ix rfl (q_var 0) q_int)) (q_name 6 sc_l_lines.nd) (q_sone (q_expr (q_me (T := "list") appendL rfl PySem.F.plainAttrs_list PySem.F.slot_list_append PySem.F.type_list_append mt_append (q_var 1) (q_cons (q_me (T := "str") joinL rfl PySem.F.plainAttrs_str PySem.F.slot_str_join PySem.F.type_str_join mt_join q_str (q_cons (q_op (addL outF_new) op_addU (q_lst (q_cons q_str q_nil)) (q_lcG (own := [("_law_one", 4)]) outF_ok rfl sc_l_lines.nd (blkOk_by (N := n_l_lines) (sc := (defScope S_l_lines)) (own := [("_law_one", 4)]) (by decide +kernel)) (by decide) (q_itup rfl (q_var 6)) (fun _ _ _ _ _ => (q_name 4 sc_l_lines.nd)) (fun _ _ _ _ _ => q_tnil) (fun _ _ _ _ _ => (q_bt (T := "str") strL call_str_int (by decide +kernel) Tx.z_str (q_cons (q_var 4) q_nil))))) q_nil)) q_nil)))))
  (q_sone (q_wkF (b := 0) hb1 hb2 (q_ret (q_var 1)))))))
  exact ⟨rd_l_lines (fun x _ M' => BackX M.length Ed x M'), gg, m_l_lines hsp⟩
theorem ok_law (Tx : Txt K mg) (D_law : Df K mg "law" "law" S_law ["_law_script"]) (D_l_pen : Df K mg "_law_pen" "_law_pen" S_l_pen ["_law_script"]) (F_l_pen : Gn T P w K mg base 1 D_l_pen.f D_l_pen.fd ["_law_script"] sp_l_pen) (D_l_shape : Df K mg "_law_shape" "_law_shape" S_l_shape ["_law_pen_here", "_law_most", "_law_most_sets"]) (F_l_shape : Gn T P w K mg base 5 D_l_shape.f D_l_shape.fd ["_law_pen_here", "_law_most", "_law_most_sets"] sp_l_shape) (D_l_lines : Df K mg "_law_lines" "_law_lines" S_l_lines ["_law_shape_here"]) (F_l_lines : Gn T P w K mg base 1 D_l_lines.f D_l_lines.fd ["_law_shape_here"] sp_l_lines) (D_l_film : Df K mg "_law_film" "_law_film" S_l_film ["_law_shape_here"]) (F_l_film : Gn T P w K mg base 7 D_l_film.f D_l_film.fd ["_law_shape_here"] sp_l_film) (D_format_film : Df K mg "format_film" "format_film" S_format_film ["film"]) (F_format_film : Gn T P w K mg base 3 D_format_film.f D_format_film.fd ["film"] sp_format_film) (D_Film_eq : Dm K "Film" "__eq__" "Film.__eq__" S_Film_eq ["self", "other"]) (F_Film_eq : Gn T P w K mg base 2 D_Film_eq.f D_Film_eq.fd ["self", "other"] sp_Film_eq) (D_parse_film : Df K mg "parse_film" "parse_film" S_parse_film ["text"]) (F_parse_film : Gn T P w K mg base 7 D_parse_film.f D_parse_film.fd ["text"] sp_parse_film) (D_Film_frames : Dp K "Film" "frames" "Film.frames" S_Film_frames ["self"]) (F_Film_frames : Gn T P w K mg base 1 D_Film_frames.f D_Film_frames.fd ["self"] sp_Film_frames) (D_Film_cover : Dp K "Film" "cover" "Film.cover" S_Film_cover ["self"]) (F_Film_cover : Gn T P w K mg base 1 D_Film_cover.f D_Film_cover.fd ["self"] sp_Film_cover) (D_Cover_sets : Dp K "Cover" "sets" "Cover.sets" S_Cover_sets ["self"]) (F_Cover_sets : Gn T P w K mg base 1 D_Cover_sets.f D_Cover_sets.fd ["self"] sp_Cover_sets) : Gn T P w K mg base 8 D_law.f D_law.fd ["_law_script"] sp_law := by
  refine gn_of D_law.F sc_law len_law ?_
  intro Ss G0 H0 Ab Gb X ls M Kd Ed cdv A outer s H E hX hcdv hr hg tk hp hbl hsp
  subst hX
  have hb0 := ml_law hsp
  have hb1 : (Fc.mk K Ss G0 H0 Ab Gb T).S.length ≤ _ := Nat.le_trans hbl.1 hb0
  have hb2 : (Fc.mk K Ss G0 H0 Ab Gb T).Ab.length ≤ _ := Nat.le_trans hbl.2 hb0
  have gg : QSs ⟨K, Ss, G0, H0, Ab, Gb, T⟩ (cxOf (L2.CX P w) P w K mg base n_law "law" (defScope S_law) D_law.f cdv A outer s H E) (defBody S_law) (rd_law (fun x _ M' => BackX M.length Ed x M')) := (q_scons (q_set 1 sc_law.nd (q_callD F_l_pen D_l_pen.m D_l_pen.b D_l_pen.F.kp (hr.mono (by decide)) hg rfl tk (q_cons (q_var 0) q_nil)))
  (q_scons (q_setLcG (own := [("_law_k", 3)]) outF_ok 2 rfl sc_law.nd (sw_true rfl rfl rfl (by decide +kernel)) (blkOk_by (N := n_law) (sc := (defScope S_law)) (own := [("_law_k", 3)]) (by decide +kernel)) (by decide) (q_iran1 Tx.z_range (q_cons q_int q_nil)) (fun _ _ _ _ _ => (q_name 3 sc_law.nd)) (fun _ _ _ _ _ => q_tnil) (fun _ _ _ _ _ => (q_tup (q_cons (q_tup (q_cons (q_tup (q_cons (q_var 3) (q_cons q_int q_nil))) (q_cons (q_tup (q_cons q_int (q_cons q_int q_nil))) q_nil))) (q_cons (q_tupRg rfl Tx.z_tuple Tx.z_range (q_var 3)) q_nil)))))
  (q_scons (q_set 4 sc_law.nd (q_lstO (q_cons (q_tup (q_cons q_int (q_cons (q_lst q_nil) (q_cons (q_lst q_nil) q_nil)))) (q_cons (q_tup (q_cons q_int (q_cons (q_var 2) (q_cons (q_lcG (own := [("_law_k", 3)]) outF_ok rfl sc_law.nd (blkOk_by (N := n_law) (sc := (defScope S_law)) (own := [("_law_k", 3)]) (by decide +kernel)) (by decide) (q_iran1 Tx.z_range (q_cons q_int q_nil)) (fun _ _ _ _ _ => (q_name 3 sc_law.nd)) (fun _ _ _ _ _ => q_tnil) (fun _ _ _ _ _ => (q_tupRg2 rfl Tx.z_tuple Tx.z_range (q_var 3) q_int))) q_nil)))) q_nil))))
  (q_scons (q_expr (q_me (T := "list") appendL rfl PySem.F.plainAttrs_list PySem.F.slot_list_append PySem.F.type_list_append mt_append (q_var 4) (q_cons (q_tup (q_cons q_int (q_cons (q_lst (q_cons (q_tup (q_cons (q_tup (q_cons (q_op (mulL outF_new) op_mulU (q_tup (q_cons q_int q_nil)) q_int) (q_cons (q_op (mulL outF_new) op_mulU (q_tup (q_cons q_int q_nil)) q_int) q_nil))) (q_cons (q_tup q_nil) q_nil))) q_nil)) (q_cons (q_lst (q_cons (q_tup (q_cons q_int q_nil)) (q_cons (q_tup (q_cons q_int (q_cons q_int q_nil))) q_nil))) q_nil)))) q_nil)))
  (q_scons (q_for hp rfl (q_iran1 Tx.z_range (q_cons q_int q_nil)) (q_name 5 sc_law.nd) (q_sone (q_expr (q_me (T := "list") appendL rfl PySem.F.plainAttrs_list PySem.F.slot_list_append PySem.F.type_list_append mt_append (q_var 4) (q_cons (q_callP F_l_shape D_l_shape.m D_l_shape.b D_l_shape.F.kp (hr.mono (by decide)) hg rfl (q_cons (q_var 1) (q_cons q_int (q_cons q_int q_nil)))) q_nil)))))
  (q_scons (q_wkF (b := 1) (Nat.le_trans hb1 (by decide)) (Nat.le_trans hb2 (by decide)) (q_for hp rfl (q_ilist rfl (q_var 4)) (q_name 6 sc_law.nd) (q_scons (q_par 7 8 rfl sc_law.nd (q_cons (q_callD F_l_film D_l_film.m D_l_film.b D_l_film.F.kp (hr.mono (by decide)) hg rfl tk (q_cons (q_var 6) q_nil)) (q_cons (q_me (T := "str") joinL rfl PySem.F.plainAttrs_str PySem.F.slot_str_join PySem.F.type_str_join mt_join q_str (q_cons (q_callD F_l_lines D_l_lines.m D_l_lines.b D_l_lines.F.kp (hr.mono (by decide)) hg rfl tk (q_cons (q_var 6) q_nil)) q_nil)) q_nil)))
  (q_sone (q_for hp rfl (q_iran1 Tx.z_range (q_cons q_int q_nil)) (q_name 9 sc_law.nd) (q_scons (q_if (q_wt (q_wor (q_tcmp neL (op_neU hr) (q_bi (id := "repr") reprRL (call_reprR hg (room70 hr)) (by decide +kernel) Tx.z_repr (q_cons (q_callD F_format_film D_format_film.m D_format_film.b D_format_film.F.kp (hr.mono (by decide)) hg rfl tk (q_cons (q_var 7) q_nil)) q_nil)) (q_bi (id := "repr") reprRL (call_reprR hg (room70 hr)) (by decide +kernel) Tx.z_repr (q_cons (q_var 8) q_nil)) rfl) (q_wor1 (q_tcmp (neOL rfl Tx.ne_Film D_Film_eq.m F_Film_eq D_Film_eq.b (hr.mono (by decide)) hg) op_rawC (q_var 7) (q_callD F_l_film D_l_film.m D_l_film.b D_l_film.F.kp (hr.mono (by decide)) hg rfl tk (q_cons (q_var 6) q_nil)) rfl)))) (q_sone (q_ret q_bl)) q_snil)
  (q_scons (q_set 10 sc_law.nd (q_callD F_parse_film D_parse_film.m D_parse_film.b D_parse_film.F.kp (hr.mono (by decide)) hg rfl tk (q_cons (q_var 8) q_nil)))
  (q_sone (q_if (q_wt (q_wor (q_tcmp (neOL rfl Tx.ne_Film D_Film_eq.m F_Film_eq D_Film_eq.b (hr.mono (by decide)) hg) op_rawC (q_var 10) (q_var 7) rfl) (q_wor (q_tcmp neL (op_neU hr) (q_bi (id := "repr") reprRL (call_reprR hg (room70 hr)) (by decide +kernel) Tx.z_repr (q_cons (q_prop rfl D_Film_frames.c D_Film_frames.m F_Film_frames D_Film_frames.b (hr.mono (by decide)) hg (q_var 10)) q_nil)) (q_bi (id := "repr") reprRL (call_reprR hg (room70 hr)) (by decide +kernel) Tx.z_repr (q_cons (q_ix rfl (q_var 6) q_int) q_nil)) rfl) (q_wor1 (q_tcmp neL (op_neU hr) (q_prop rfl D_Cover_sets.c D_Cover_sets.m F_Cover_sets D_Cover_sets.b (hr.mono (by decide)) hg (q_prop rfl D_Film_cover.c D_Film_cover.m F_Film_cover D_Film_cover.b (hr.mono (by decide)) hg (q_var 10))) (q_ix rfl (q_var 6) q_int) rfl))))) (q_sone (q_ret q_bl)) q_snil)))))))))
  (q_sone (q_ret q_bl))))))))
  exact ⟨rd_law (fun x _ M' => BackX M.length Ed x M'), gg, m_law hsp⟩
end
theorem bd_is_integer : BdT "is_integer" "is_integer" S_is_integer ["thing"] := fun _ _ _ _ _ _ us hl => match us, hl with | [_], _ => rfl
theorem bd_is_set : BdT "is_set" "is_set" S_is_set ["thing", "count"] := fun _ _ _ _ _ _ us hl => match us, hl with | [_, _], _ => rfl
theorem bd_Cover_init : BdT "__init__" "Cover.__init__" S_Cover_init ["self", "count", "sets"] := fun _ _ _ _ _ _ us hl => match us, hl with | [_, _, _], _ => rfl
theorem bd_Cover_sets : BdT "sets" "Cover.sets" S_Cover_sets ["self"] := fun _ _ _ _ _ _ us hl => match us, hl with | [_], _ => rfl
theorem bd_Cover_eq : BdT "__eq__" "Cover.__eq__" S_Cover_eq ["self", "other"] := fun _ _ _ _ _ _ us hl => match us, hl with | [_, _], _ => rfl
theorem bd_is_size : BdT "is_size" "is_size" S_is_size ["thing"] := fun _ _ _ _ _ _ us hl => match us, hl with | [_], _ => rfl
theorem bd_is_byte : BdT "is_byte" "is_byte" S_is_byte ["thing"] := fun _ _ _ _ _ _ us hl => match us, hl with | [_], _ => rfl
theorem bd_is_packet : BdT "is_packet" "is_packet" S_is_packet ["thing", "size"] := fun _ _ _ _ _ _ us hl => match us, hl with | [_, _], _ => rfl
theorem bd_is_frame : BdT "is_frame" "is_frame" S_is_frame ["thing", "size", "number"] := fun _ _ _ _ _ _ us hl => match us, hl with | [_, _, _], _ => rfl
theorem bd_Film_init : BdT "__init__" "Film.__init__" S_Film_init ["self", "size", "frames", "sets"] := fun _ _ _ _ _ _ us hl => match us, hl with | [_, _, _, _], _ => rfl
theorem bd_Film_size : BdT "size" "Film.size" S_Film_size ["self"] := fun _ _ _ _ _ _ us hl => match us, hl with | [_], _ => rfl
theorem bd_Film_frames : BdT "frames" "Film.frames" S_Film_frames ["self"] := fun _ _ _ _ _ _ us hl => match us, hl with | [_], _ => rfl
theorem bd_Film_cover : BdT "cover" "Film.cover" S_Film_cover ["self"] := fun _ _ _ _ _ _ us hl => match us, hl with | [_], _ => rfl
theorem bd_Film_eq : BdT "__eq__" "Film.__eq__" S_Film_eq ["self", "other"] := fun _ _ _ _ _ _ us hl => match us, hl with | [_, _], _ => rfl
theorem bd_Reader_init : BdT "__init__" "Reader.__init__" S_Reader_init ["self", "size"] := fun _ _ _ _ _ _ us hl => match us, hl with | [_, _], _ => rfl
theorem bd_Reader_tally : BdT "tally" "Reader.tally" S_Reader_tally ["self"] := fun _ _ _ _ _ _ us hl => match us, hl with | [_], _ => rfl
theorem bd_Reader_is_open : BdT "is_open" "Reader.is_open" S_Reader_is_open ["self"] := fun _ _ _ _ _ _ us hl => match us, hl with | [_], _ => rfl
theorem bd_is_setA : BdT "is_set" "is_set" S_is_setA ["thing", "count"] := fun _ _ _ _ _ _ us hl => match us, hl with | [_, _], _ => rfl
theorem bd_Reader_take_frame : BdT "take_frame" "Reader.take_frame" S_Reader_take_frame ["self", "numbers"] := fun _ _ _ _ _ _ us hl => match us, hl with | [_, _], _ => rfl
theorem bd_Reader_take_packet : BdT "take_packet" "Reader.take_packet" S_Reader_take_packet ["self", "numbers"] := fun _ _ _ _ _ _ us hl => match us, hl with | [_, _], _ => rfl
theorem bd_Reader_take_set : BdT "take_set" "Reader.take_set" S_Reader_take_set ["self", "numbers"] := fun _ _ _ _ _ _ us hl => match us, hl with | [_, _], _ => rfl
theorem bd_integer_of : BdT "integer_of" "integer_of" S_integer_of ["word"] := fun _ _ _ _ _ _ us hl => match us, hl with | [_], _ => rfl
theorem bd_Reader_read : BdT "read" "Reader.read" S_Reader_read ["self", "line"] := fun _ _ _ _ _ _ us hl => match us, hl with | [_, _], _ => rfl
theorem bd_line_of : BdT "line_of" "line_of" S_line_of ["word", "numbers"] := fun _ _ _ _ _ _ us hl => match us, hl with | [_, _], _ => rfl
theorem bd_format_film : BdT "format_film" "format_film" S_format_film ["film"] := fun _ _ _ _ _ _ us hl => match us, hl with | [_], _ => rfl
theorem bd_parse_film : BdT "parse_film" "parse_film" S_parse_film ["text"] := fun _ _ _ _ _ _ us hl => match us, hl with | [_], _ => rfl
theorem bd_l_pen : BdT "_law_pen" "_law_pen" S_l_pen ["_law_script"] := fun _ _ _ _ _ _ us hl => match us, hl with | [_], _ => rfl
theorem bd_l_next : BdT "_law_next" "_law_next" S_l_next ["_law_pen_here"] := fun _ _ _ _ _ _ us hl => match us, hl with | [_], _ => rfl
theorem bd_l_draw : BdT "_law_draw" "_law_draw" S_l_draw ["_law_pen_here", "_law_under"] := fun _ _ _ _ _ _ us hl => match us, hl with | [_, _], _ => rfl
theorem bd_l_some : BdT "_law_some" "_law_some" S_l_some ["_law_pen_here", "_law_pool", "_law_most"] := fun _ _ _ _ _ _ us hl => match us, hl with | [_, _, _], _ => rfl
theorem bd_l_groups : BdT "_law_groups" "_law_groups" S_l_groups ["_law_pen_here", "_law_many", "_law_most"] := fun _ _ _ _ _ _ us hl => match us, hl with | [_, _, _], _ => rfl
theorem bd_l_bytes : BdT "_law_bytes" "_law_bytes" S_l_bytes ["_law_pen_here", "_law_wide"] := fun _ _ _ _ _ _ us hl => match us, hl with | [_, _], _ => rfl
theorem bd_l_shape : BdT "_law_shape" "_law_shape" S_l_shape ["_law_pen_here", "_law_most", "_law_most_sets"] := fun _ _ _ _ _ _ us hl => match us, hl with | [_, _, _], _ => rfl
theorem bd_l_film : BdT "_law_film" "_law_film" S_l_film ["_law_shape_here"] := fun _ _ _ _ _ _ us hl => match us, hl with | [_], _ => rfl
theorem bd_l_lines : BdT "_law_lines" "_law_lines" S_l_lines ["_law_shape_here"] := fun _ _ _ _ _ _ us hl => match us, hl with | [_], _ => rfl
theorem bd_law : BdT "law" "law" S_law ["_law_script"] := fun _ _ _ _ _ _ us hl => match us, hl with | [_], _ => rfl
theorem all_fn {l : PySem.W.OpenLaw} {w : World} {K : PySem.W.Frag} {mg : Str → Option Value} {base : Heap} (Tx : Txt K mg) (D_is_integer : Df K mg "is_integer" "is_integer" S_is_integer ["thing"]) (D_is_set : Df K mg "is_set" "is_set" S_is_set ["thing", "count"]) (D_Cover_init : Dn K mg "Cover" "Cover.__init__" S_Cover_init ["self", "count", "sets"]) (D_Cover_sets : Dp K "Cover" "sets" "Cover.sets" S_Cover_sets ["self"]) (D_Cover_eq : Dm K "Cover" "__eq__" "Cover.__eq__" S_Cover_eq ["self", "other"]) (D_is_size : Df K mg "is_size" "is_size" S_is_size ["thing"]) (D_is_byte : Df K mg "is_byte" "is_byte" S_is_byte ["thing"]) (D_is_packet : Df K mg "is_packet" "is_packet" S_is_packet ["thing", "size"]) (D_is_frame : Df K mg "is_frame" "is_frame" S_is_frame ["thing", "size", "number"]) (D_Film_init : Dn K mg "Film" "Film.__init__" S_Film_init ["self", "size", "frames", "sets"]) (D_Film_size : Dp K "Film" "size" "Film.size" S_Film_size ["self"]) (D_Film_frames : Dp K "Film" "frames" "Film.frames" S_Film_frames ["self"]) (D_Film_cover : Dp K "Film" "cover" "Film.cover" S_Film_cover ["self"]) (D_Film_eq : Dm K "Film" "__eq__" "Film.__eq__" S_Film_eq ["self", "other"]) (D_Reader_init : Dn K mg "Reader" "Reader.__init__" S_Reader_init ["self", "size"]) (D_Reader_tally : Dm K "Reader" "tally" "Reader.tally" S_Reader_tally ["self"]) (D_Reader_is_open : Dm K "Reader" "is_open" "Reader.is_open" S_Reader_is_open ["self"]) (D_is_setA : Df K mg "is_set" "is_set" S_is_setA ["thing", "count"]) (D_Reader_take_frame : Dm K "Reader" "take_frame" "Reader.take_frame" S_Reader_take_frame ["self", "numbers"]) (D_Reader_take_packet : Dm K "Reader" "take_packet" "Reader.take_packet" S_Reader_take_packet ["self", "numbers"]) (D_Reader_take_set : Dm K "Reader" "take_set" "Reader.take_set" S_Reader_take_set ["self", "numbers"]) (D_integer_of : Df K mg "integer_of" "integer_of" S_integer_of ["word"]) (D_Reader_read : Dm K "Reader" "read" "Reader.read" S_Reader_read ["self", "line"]) (D_line_of : Df K mg "line_of" "line_of" S_line_of ["word", "numbers"]) (D_format_film : Df K mg "format_film" "format_film" S_format_film ["film"]) (D_parse_film : Df K mg "parse_film" "parse_film" S_parse_film ["text"]) (D_l_pen : Df K mg "_law_pen" "_law_pen" S_l_pen ["_law_script"]) (D_l_next : Df K mg "_law_next" "_law_next" S_l_next ["_law_pen_here"]) (D_l_draw : Df K mg "_law_draw" "_law_draw" S_l_draw ["_law_pen_here", "_law_under"]) (D_l_some : Df K mg "_law_some" "_law_some" S_l_some ["_law_pen_here", "_law_pool", "_law_most"]) (D_l_groups : Df K mg "_law_groups" "_law_groups" S_l_groups ["_law_pen_here", "_law_many", "_law_most"]) (D_l_bytes : Df K mg "_law_bytes" "_law_bytes" S_l_bytes ["_law_pen_here", "_law_wide"]) (D_l_shape : Df K mg "_law_shape" "_law_shape" S_l_shape ["_law_pen_here", "_law_most", "_law_most_sets"]) (D_l_film : Df K mg "_law_film" "_law_film" S_l_film ["_law_shape_here"]) (D_l_lines : Df K mg "_law_lines" "_law_lines" S_l_lines ["_law_shape_here"]) (D_law : Df K mg "law" "law" S_law ["_law_script"]) : Gn (fun _ => none) l.prog w K mg base 8 D_law.f D_law.fd ["_law_script"] sp_law := by
  have F_is_integer := ok_is_integer (T := (fun _ => none)) (P := l.prog) (w := w) (base := base) Tx D_is_integer 
  have F_is_set := ok_is_set (T := (fun _ => none)) (P := l.prog) (w := w) (base := base) Tx D_is_set D_is_integer F_is_integer
  have F_Cover_init := ok_Cover_init (T := (fun _ => none)) (P := l.prog) (w := w) (base := base) Tx D_Cover_init D_is_integer F_is_integer D_is_set F_is_set
  have F_Cover_sets := ok_Cover_sets (T := (fun _ => none)) (P := l.prog) (w := w) (base := base) Tx D_Cover_sets 
  have F_Cover_eq := ok_Cover_eq (T := (fun _ => none)) (P := l.prog) (w := w) (base := base) Tx D_Cover_eq 
  have F_is_size := ok_is_size (T := (fun _ => none)) (P := l.prog) (w := w) (base := base) Tx D_is_size D_is_integer F_is_integer
  have F_is_byte := ok_is_byte (T := (fun _ => none)) (P := l.prog) (w := w) (base := base) Tx D_is_byte D_is_integer F_is_integer
  have F_is_packet := ok_is_packet (T := (fun _ => none)) (P := l.prog) (w := w) (base := base) Tx D_is_packet D_is_byte F_is_byte
  have F_is_frame := ok_is_frame (T := (fun _ => none)) (P := l.prog) (w := w) (base := base) Tx D_is_frame D_is_packet F_is_packet D_is_set F_is_set
  have F_Film_init := ok_Film_init (T := (fun _ => none)) (P := l.prog) (w := w) (base := base) Tx D_Film_init D_is_size F_is_size D_is_frame F_is_frame D_Cover_init F_Cover_init
  have F_Film_size := ok_Film_size (T := (fun _ => none)) (P := l.prog) (w := w) (base := base) Tx D_Film_size 
  have F_Film_frames := ok_Film_frames (T := (fun _ => none)) (P := l.prog) (w := w) (base := base) Tx D_Film_frames 
  have F_Film_cover := ok_Film_cover (T := (fun _ => none)) (P := l.prog) (w := w) (base := base) Tx D_Film_cover 
  have F_Film_eq := ok_Film_eq (T := (fun _ => none)) (P := l.prog) (w := w) (base := base) Tx D_Film_eq D_Cover_eq F_Cover_eq
  have F_Reader_init := ok_Reader_init (T := (fun _ => none)) (P := l.prog) (w := w) (base := base) Tx D_Reader_init 
  have F_Reader_tally := ok_Reader_tally (T := (fun _ => none)) (P := l.prog) (w := w) (base := base) Tx D_Reader_tally 
  have F_Reader_is_open := ok_Reader_is_open (T := (fun _ => none)) (P := l.prog) (w := w) (base := base) Tx D_Reader_is_open 
  have F_is_setA := ok_is_setA (T := (fun _ => none)) (P := l.prog) (w := w) (base := base) Tx D_is_setA D_is_integer F_is_integer
  have F_Reader_take_frame := ok_Reader_take_frame (T := (fun _ => none)) (P := l.prog) (w := w) (base := base) Tx D_Reader_take_frame D_Reader_is_open F_Reader_is_open D_Reader_tally F_Reader_tally D_is_setA F_is_setA
  have F_Reader_take_packet := ok_Reader_take_packet (T := (fun _ => none)) (P := l.prog) (w := w) (base := base) Tx D_Reader_take_packet D_Reader_tally F_Reader_tally
  have F_Reader_take_set := ok_Reader_take_set (T := (fun _ => none)) (P := l.prog) (w := w) (base := base) Tx D_Reader_take_set D_Reader_is_open F_Reader_is_open D_Reader_tally F_Reader_tally D_is_setA F_is_setA
  have F_integer_of := ok_integer_of (T := (fun _ => none)) (P := l.prog) (w := w) (base := base) Tx D_integer_of 
  have F_Reader_read := ok_Reader_read (T := (fun _ => none)) (P := l.prog) (w := w) (base := base) Tx D_Reader_read D_integer_of F_integer_of D_Reader_take_frame F_Reader_take_frame D_Reader_take_packet F_Reader_take_packet D_Reader_take_set F_Reader_take_set
  have F_line_of := ok_line_of (T := (fun _ => none)) (P := l.prog) (w := w) (base := base) Tx D_line_of 
  have F_format_film := ok_format_film (T := (fun _ => none)) (P := l.prog) (w := w) (base := base) Tx D_format_film D_Film_size F_Film_size D_line_of F_line_of D_Film_frames F_Film_frames D_Film_cover F_Film_cover D_Cover_sets F_Cover_sets
  have F_parse_film := ok_parse_film (T := (fun _ => none)) (P := l.prog) (w := w) (base := base) Tx D_parse_film D_integer_of F_integer_of D_is_size F_is_size D_Reader_init F_Reader_init D_Reader_read F_Reader_read D_Reader_is_open F_Reader_is_open D_Film_init F_Film_init
  have F_l_pen := ok_l_pen (T := (fun _ => none)) (P := l.prog) (w := w) (base := base) Tx D_l_pen 
  have F_l_next := ok_l_next (T := (fun _ => none)) (P := l.prog) (w := w) (base := base) Tx D_l_next 
  have F_l_draw := ok_l_draw (T := (fun _ => none)) (P := l.prog) (w := w) (base := base) Tx D_l_draw D_l_next F_l_next
  have F_l_some := ok_l_some (T := (fun _ => none)) (P := l.prog) (w := w) (base := base) Tx D_l_some D_l_draw F_l_draw
  have F_l_groups := ok_l_groups (T := (fun _ => none)) (P := l.prog) (w := w) (base := base) Tx D_l_groups D_l_draw F_l_draw D_l_some F_l_some
  have F_l_bytes := ok_l_bytes (T := (fun _ => none)) (P := l.prog) (w := w) (base := base) Tx D_l_bytes D_l_draw F_l_draw
  have F_l_shape := ok_l_shape (T := (fun _ => none)) (P := l.prog) (w := w) (base := base) Tx D_l_shape D_l_draw F_l_draw D_l_bytes F_l_bytes D_l_some F_l_some D_l_groups F_l_groups
  have F_l_film := ok_l_film (T := (fun _ => none)) (P := l.prog) (w := w) (base := base) Tx D_l_film D_Film_init F_Film_init
  have F_l_lines := ok_l_lines (T := (fun _ => none)) (P := l.prog) (w := w) (base := base) Tx D_l_lines 
  have F_law := ok_law (T := (fun _ => none)) (P := l.prog) (w := w) (base := base) Tx D_law D_l_pen F_l_pen D_l_shape F_l_shape D_l_lines F_l_lines D_l_film F_l_film D_format_film F_format_film D_Film_eq F_Film_eq D_parse_film F_parse_film D_Film_frames F_Film_frames D_Film_cover F_Film_cover D_Cover_sets F_Cover_sets
  exact F_law
theorem all_mk {l : PySem.W.OpenLaw} {w : World} {K : PySem.W.Frag} {h : Heap} {mg : Str → Option Value} {fa : Addr} {f_is_integer f_is_set f_Cover_init f_Cover_sets f_Cover_eq f_is_size f_is_byte f_is_packet f_is_frame f_Film_init f_Film_size f_Film_frames f_Film_cover f_Film_eq f_Reader_init f_Reader_tally f_Reader_is_open f_is_setA f_Reader_take_frame f_Reader_take_packet f_Reader_take_set f_integer_of f_Reader_read f_line_of f_format_film f_parse_film f_l_pen f_l_next f_l_draw f_l_some f_l_groups f_l_bytes f_l_shape f_l_film f_l_lines f_law : Addr} (X : K.In h) (G : h.Ns mainGlobals mg) (hfa : mg "law" = some (.ref fa))
    {oc_is_integer : Value} {od_is_integer an_is_integer : Option Addr} {sl_is_integer : Array (Option Value)} {kV_is_integer dc_is_integer pm_is_integer cd_is_integer ct_is_integer : Value}
    {oc_is_set : Value} {od_is_set an_is_set : Option Addr} {sl_is_set : Array (Option Value)} {kV_is_set dc_is_set pm_is_set cd_is_set ct_is_set : Value}
    {oc_Cover_init : Value} {od_Cover_init an_Cover_init : Option Addr} {sl_Cover_init : Array (Option Value)} {kV_Cover_init dc_Cover_init pm_Cover_init cd_Cover_init ct_Cover_init : Value}
    {C_Cover : Addr}
    {oc_Cover_sets : Value} {od_Cover_sets an_Cover_sets : Option Addr} {sl_Cover_sets : Array (Option Value)} {kV_Cover_sets dc_Cover_sets pm_Cover_sets cd_Cover_sets ct_Cover_sets : Value}
    {p_Cover_sets : Addr} {rs_Cover_sets : List Value}
    {oc_Cover_eq : Value} {od_Cover_eq an_Cover_eq : Option Addr} {sl_Cover_eq : Array (Option Value)} {kV_Cover_eq dc_Cover_eq pm_Cover_eq cd_Cover_eq ct_Cover_eq : Value}
    {oc_is_size : Value} {od_is_size an_is_size : Option Addr} {sl_is_size : Array (Option Value)} {kV_is_size dc_is_size pm_is_size cd_is_size ct_is_size : Value}
    {oc_is_byte : Value} {od_is_byte an_is_byte : Option Addr} {sl_is_byte : Array (Option Value)} {kV_is_byte dc_is_byte pm_is_byte cd_is_byte ct_is_byte : Value}
    {oc_is_packet : Value} {od_is_packet an_is_packet : Option Addr} {sl_is_packet : Array (Option Value)} {kV_is_packet dc_is_packet pm_is_packet cd_is_packet ct_is_packet : Value}
    {oc_is_frame : Value} {od_is_frame an_is_frame : Option Addr} {sl_is_frame : Array (Option Value)} {kV_is_frame dc_is_frame pm_is_frame cd_is_frame ct_is_frame : Value}
    {oc_Film_init : Value} {od_Film_init an_Film_init : Option Addr} {sl_Film_init : Array (Option Value)} {kV_Film_init dc_Film_init pm_Film_init cd_Film_init ct_Film_init : Value}
    {C_Film : Addr}
    {oc_Film_size : Value} {od_Film_size an_Film_size : Option Addr} {sl_Film_size : Array (Option Value)} {kV_Film_size dc_Film_size pm_Film_size cd_Film_size ct_Film_size : Value}
    {p_Film_size : Addr} {rs_Film_size : List Value}
    {oc_Film_frames : Value} {od_Film_frames an_Film_frames : Option Addr} {sl_Film_frames : Array (Option Value)} {kV_Film_frames dc_Film_frames pm_Film_frames cd_Film_frames ct_Film_frames : Value}
    {p_Film_frames : Addr} {rs_Film_frames : List Value}
    {oc_Film_cover : Value} {od_Film_cover an_Film_cover : Option Addr} {sl_Film_cover : Array (Option Value)} {kV_Film_cover dc_Film_cover pm_Film_cover cd_Film_cover ct_Film_cover : Value}
    {p_Film_cover : Addr} {rs_Film_cover : List Value}
    {oc_Film_eq : Value} {od_Film_eq an_Film_eq : Option Addr} {sl_Film_eq : Array (Option Value)} {kV_Film_eq dc_Film_eq pm_Film_eq cd_Film_eq ct_Film_eq : Value}
    {oc_Reader_init : Value} {od_Reader_init an_Reader_init : Option Addr} {sl_Reader_init : Array (Option Value)} {kV_Reader_init dc_Reader_init pm_Reader_init cd_Reader_init ct_Reader_init : Value}
    {C_Reader : Addr}
    {oc_Reader_tally : Value} {od_Reader_tally an_Reader_tally : Option Addr} {sl_Reader_tally : Array (Option Value)} {kV_Reader_tally dc_Reader_tally pm_Reader_tally cd_Reader_tally ct_Reader_tally : Value}
    {oc_Reader_is_open : Value} {od_Reader_is_open an_Reader_is_open : Option Addr} {sl_Reader_is_open : Array (Option Value)} {kV_Reader_is_open dc_Reader_is_open pm_Reader_is_open cd_Reader_is_open ct_Reader_is_open : Value}
    {oc_is_setA : Value} {od_is_setA an_is_setA : Option Addr} {sl_is_setA : Array (Option Value)} {kV_is_setA dc_is_setA pm_is_setA cd_is_setA ct_is_setA : Value}
    {oc_Reader_take_frame : Value} {od_Reader_take_frame an_Reader_take_frame : Option Addr} {sl_Reader_take_frame : Array (Option Value)} {kV_Reader_take_frame dc_Reader_take_frame pm_Reader_take_frame cd_Reader_take_frame ct_Reader_take_frame : Value}
    {oc_Reader_take_packet : Value} {od_Reader_take_packet an_Reader_take_packet : Option Addr} {sl_Reader_take_packet : Array (Option Value)} {kV_Reader_take_packet dc_Reader_take_packet pm_Reader_take_packet cd_Reader_take_packet ct_Reader_take_packet : Value}
    {oc_Reader_take_set : Value} {od_Reader_take_set an_Reader_take_set : Option Addr} {sl_Reader_take_set : Array (Option Value)} {kV_Reader_take_set dc_Reader_take_set pm_Reader_take_set cd_Reader_take_set ct_Reader_take_set : Value}
    {oc_integer_of : Value} {od_integer_of an_integer_of : Option Addr} {sl_integer_of : Array (Option Value)} {kV_integer_of dc_integer_of pm_integer_of cd_integer_of ct_integer_of : Value}
    {oc_Reader_read : Value} {od_Reader_read an_Reader_read : Option Addr} {sl_Reader_read : Array (Option Value)} {kV_Reader_read dc_Reader_read pm_Reader_read cd_Reader_read ct_Reader_read : Value}
    {oc_line_of : Value} {od_line_of an_line_of : Option Addr} {sl_line_of : Array (Option Value)} {kV_line_of dc_line_of pm_line_of cd_line_of ct_line_of : Value}
    {oc_format_film : Value} {od_format_film an_format_film : Option Addr} {sl_format_film : Array (Option Value)} {kV_format_film dc_format_film pm_format_film cd_format_film ct_format_film : Value}
    {oc_parse_film : Value} {od_parse_film an_parse_film : Option Addr} {sl_parse_film : Array (Option Value)} {kV_parse_film dc_parse_film pm_parse_film cd_parse_film ct_parse_film : Value}
    {oc_l_pen : Value} {od_l_pen an_l_pen : Option Addr} {sl_l_pen : Array (Option Value)} {kV_l_pen dc_l_pen pm_l_pen cd_l_pen ct_l_pen : Value}
    {oc_l_next : Value} {od_l_next an_l_next : Option Addr} {sl_l_next : Array (Option Value)} {kV_l_next dc_l_next pm_l_next cd_l_next ct_l_next : Value}
    {oc_l_draw : Value} {od_l_draw an_l_draw : Option Addr} {sl_l_draw : Array (Option Value)} {kV_l_draw dc_l_draw pm_l_draw cd_l_draw ct_l_draw : Value}
    {oc_l_some : Value} {od_l_some an_l_some : Option Addr} {sl_l_some : Array (Option Value)} {kV_l_some dc_l_some pm_l_some cd_l_some ct_l_some : Value}
    {oc_l_groups : Value} {od_l_groups an_l_groups : Option Addr} {sl_l_groups : Array (Option Value)} {kV_l_groups dc_l_groups pm_l_groups cd_l_groups ct_l_groups : Value}
    {oc_l_bytes : Value} {od_l_bytes an_l_bytes : Option Addr} {sl_l_bytes : Array (Option Value)} {kV_l_bytes dc_l_bytes pm_l_bytes cd_l_bytes ct_l_bytes : Value}
    {oc_l_shape : Value} {od_l_shape an_l_shape : Option Addr} {sl_l_shape : Array (Option Value)} {kV_l_shape dc_l_shape pm_l_shape cd_l_shape ct_l_shape : Value}
    {oc_l_film : Value} {od_l_film an_l_film : Option Addr} {sl_l_film : Array (Option Value)} {kV_l_film dc_l_film pm_l_film cd_l_film ct_l_film : Value}
    {oc_l_lines : Value} {od_l_lines an_l_lines : Option Addr} {sl_l_lines : Array (Option Value)} {kV_l_lines dc_l_lines pm_l_lines cd_l_lines ct_l_lines : Value}
    {oc_law : Value} {od_law an_law : Option Addr} {sl_law : Array (Option Value)} {kV_law dc_law pm_law cd_law ct_law : Value} {t_FIGURES t_MAX_BYTE t_MAX_PACKETS t_MAX_SETS t_MAX_SIZE : Tok}
    (a_is_integer : PySem.W.nsIn K mainGlobals "is_integer" = some (some (.ref f_is_integer)))
    (l_is_integer : K.lookup f_is_integer = some ⟨oc_is_integer, od_is_integer, .func (PySem.W.fnOf "is_integer" "is_integer" (defArgs S_is_integer) (defBody S_is_integer) (defScope S_is_integer) .none kV_is_integer dc_is_integer pm_is_integer an_is_integer cd_is_integer ct_is_integer), sl_is_integer⟩)
    (c_is_integer : PySem.W.codeIn K cd_is_integer "is_integer" = true)
    (k_is_integer : PySem.W.keepIn K (.ref f_is_integer) = true)
    (a_is_set : PySem.W.nsIn K mainGlobals "is_set" = some (some (.ref f_is_set)))
    (l_is_set : K.lookup f_is_set = some ⟨oc_is_set, od_is_set, .func (PySem.W.fnOf "is_set" "is_set" (defArgs S_is_set) (defBody S_is_set) (defScope S_is_set) .none kV_is_set dc_is_set pm_is_set an_is_set cd_is_set ct_is_set), sl_is_set⟩)
    (c_is_set : PySem.W.codeIn K cd_is_set "is_set" = true)
    (k_is_set : PySem.W.keepIn K (.ref f_is_set) = true)
    (nx_Cover : PySem.W.nsIn K mainGlobals "Cover" = some (some (.ref C_Cover)))
    (cpg_Cover : PySem.W.plainGet K C_Cover Str.empty = true)
    (chd_Cover : PySem.W.hasDictIn K C_Cover = true)
    (cpo_Cover : PySem.W.plainOver K C_Cover = true)
    (csa_Cover : PySem.W.findIn K (.ref C_Cover) "__setattr__" = some (some (.builtin "object.__setattr__")))
    (cha_Cover : PySem.W.findIn K (.ref C_Cover) "__class__" = some (some (.builtin "object.__class__")))
    (cty_Cover : PySem.W.typeIn K (.ref C_Cover) = some (.type "type"))
    (cmo_Cover : PySem.W.mroIn K C_Cover (.type "object") = some true)
    (cf_Cover_known : PySem.W.findIn K (.ref C_Cover) "known" = some none)
    (cf_Cover_mixtures : PySem.W.findIn K (.ref C_Cover) "mixtures" = some none)
    (cf_Cover_vectors : PySem.W.findIn K (.ref C_Cover) "vectors" = some none)
    (a_Cover_init : PySem.W.findIn K (.ref C_Cover) "__init__" = some (some (.ref f_Cover_init)))
    (i_Cover_init : PySem.W.isFn K (.ref f_Cover_init) = true)
    (mk_Cover : PySem.W.makesIn K C_Cover = true)
    (kc_Cover : PySem.W.keepIn K (.ref C_Cover) = true)
    (l_Cover_init : K.lookup f_Cover_init = some ⟨oc_Cover_init, od_Cover_init, .func (PySem.W.fnOf "__init__" "Cover.__init__" (defArgs S_Cover_init) (defBody S_Cover_init) (defScope S_Cover_init) .none kV_Cover_init dc_Cover_init pm_Cover_init an_Cover_init cd_Cover_init ct_Cover_init), sl_Cover_init⟩)
    (c_Cover_init : PySem.W.codeIn K cd_Cover_init "Cover.__init__" = true)
    (k_Cover_init : PySem.W.keepIn K (.ref f_Cover_init) = true)
    (a_Cover_sets : PySem.W.findIn K (.ref C_Cover) "sets" = some (some (.ref p_Cover_sets)))
    (pr_Cover_sets : PySem.W.recIn K p_Cover_sets "property" = some (.ref f_Cover_sets :: rs_Cover_sets))
    (pg_Cover_sets : PySem.W.specialIn K (.ref p_Cover_sets) "__get__" = some (some (.builtin "property.__get__")))
    (pt_Cover_sets : PySem.W.takesIn K (.ref p_Cover_sets) = some true)
    (l_Cover_sets : K.lookup f_Cover_sets = some ⟨oc_Cover_sets, od_Cover_sets, .func (PySem.W.fnOf "sets" "Cover.sets" (defArgs S_Cover_sets) (defBody S_Cover_sets) (defScope S_Cover_sets) .none kV_Cover_sets dc_Cover_sets pm_Cover_sets an_Cover_sets cd_Cover_sets ct_Cover_sets), sl_Cover_sets⟩)
    (c_Cover_sets : PySem.W.codeIn K cd_Cover_sets "Cover.sets" = true)
    (k_Cover_sets : PySem.W.keepIn K (.ref f_Cover_sets) = true)
    (a_Cover_eq : PySem.W.findIn K (.ref C_Cover) "__eq__" = some (some (.ref f_Cover_eq)))
    (i_Cover_eq : PySem.W.isFn K (.ref f_Cover_eq) = true)
    (l_Cover_eq : K.lookup f_Cover_eq = some ⟨oc_Cover_eq, od_Cover_eq, .func (PySem.W.fnOf "__eq__" "Cover.__eq__" (defArgs S_Cover_eq) (defBody S_Cover_eq) (defScope S_Cover_eq) .none kV_Cover_eq dc_Cover_eq pm_Cover_eq an_Cover_eq cd_Cover_eq ct_Cover_eq), sl_Cover_eq⟩)
    (c_Cover_eq : PySem.W.codeIn K cd_Cover_eq "Cover.__eq__" = true)
    (k_Cover_eq : PySem.W.keepIn K (.ref f_Cover_eq) = true)
    (a_is_size : PySem.W.nsIn K mainGlobals "is_size" = some (some (.ref f_is_size)))
    (l_is_size : K.lookup f_is_size = some ⟨oc_is_size, od_is_size, .func (PySem.W.fnOf "is_size" "is_size" (defArgs S_is_size) (defBody S_is_size) (defScope S_is_size) .none kV_is_size dc_is_size pm_is_size an_is_size cd_is_size ct_is_size), sl_is_size⟩)
    (c_is_size : PySem.W.codeIn K cd_is_size "is_size" = true)
    (k_is_size : PySem.W.keepIn K (.ref f_is_size) = true)
    (a_is_byte : PySem.W.nsIn K mainGlobals "is_byte" = some (some (.ref f_is_byte)))
    (l_is_byte : K.lookup f_is_byte = some ⟨oc_is_byte, od_is_byte, .func (PySem.W.fnOf "is_byte" "is_byte" (defArgs S_is_byte) (defBody S_is_byte) (defScope S_is_byte) .none kV_is_byte dc_is_byte pm_is_byte an_is_byte cd_is_byte ct_is_byte), sl_is_byte⟩)
    (c_is_byte : PySem.W.codeIn K cd_is_byte "is_byte" = true)
    (k_is_byte : PySem.W.keepIn K (.ref f_is_byte) = true)
    (a_is_packet : PySem.W.nsIn K mainGlobals "is_packet" = some (some (.ref f_is_packet)))
    (l_is_packet : K.lookup f_is_packet = some ⟨oc_is_packet, od_is_packet, .func (PySem.W.fnOf "is_packet" "is_packet" (defArgs S_is_packet) (defBody S_is_packet) (defScope S_is_packet) .none kV_is_packet dc_is_packet pm_is_packet an_is_packet cd_is_packet ct_is_packet), sl_is_packet⟩)
    (c_is_packet : PySem.W.codeIn K cd_is_packet "is_packet" = true)
    (k_is_packet : PySem.W.keepIn K (.ref f_is_packet) = true)
    (a_is_frame : PySem.W.nsIn K mainGlobals "is_frame" = some (some (.ref f_is_frame)))
    (l_is_frame : K.lookup f_is_frame = some ⟨oc_is_frame, od_is_frame, .func (PySem.W.fnOf "is_frame" "is_frame" (defArgs S_is_frame) (defBody S_is_frame) (defScope S_is_frame) .none kV_is_frame dc_is_frame pm_is_frame an_is_frame cd_is_frame ct_is_frame), sl_is_frame⟩)
    (c_is_frame : PySem.W.codeIn K cd_is_frame "is_frame" = true)
    (k_is_frame : PySem.W.keepIn K (.ref f_is_frame) = true)
    (nx_Film : PySem.W.nsIn K mainGlobals "Film" = some (some (.ref C_Film)))
    (cpg_Film : PySem.W.plainGet K C_Film Str.empty = true)
    (chd_Film : PySem.W.hasDictIn K C_Film = true)
    (cpo_Film : PySem.W.plainOver K C_Film = true)
    (csa_Film : PySem.W.findIn K (.ref C_Film) "__setattr__" = some (some (.builtin "object.__setattr__")))
    (cha_Film : PySem.W.findIn K (.ref C_Film) "__class__" = some (some (.builtin "object.__class__")))
    (cty_Film : PySem.W.typeIn K (.ref C_Film) = some (.type "type"))
    (cne_Film : PySem.W.findIn K (.ref C_Film) "__ne__" = some (some (.builtin "object.__ne__")))
    (cmo_Film : PySem.W.mroIn K C_Film (.type "object") = some true)
    (cf_Film_flat : PySem.W.findIn K (.ref C_Film) "flat" = some none)
    (cf_Film_mixtures : PySem.W.findIn K (.ref C_Film) "mixtures" = some none)
    (cf_Film_owners : PySem.W.findIn K (.ref C_Film) "owners" = some none)
    (cf_Film_rows : PySem.W.findIn K (.ref C_Film) "rows" = some none)
    (cf_Film_width : PySem.W.findIn K (.ref C_Film) "width" = some none)
    (a_Film_init : PySem.W.findIn K (.ref C_Film) "__init__" = some (some (.ref f_Film_init)))
    (i_Film_init : PySem.W.isFn K (.ref f_Film_init) = true)
    (mk_Film : PySem.W.makesIn K C_Film = true)
    (kc_Film : PySem.W.keepIn K (.ref C_Film) = true)
    (l_Film_init : K.lookup f_Film_init = some ⟨oc_Film_init, od_Film_init, .func (PySem.W.fnOf "__init__" "Film.__init__" (defArgs S_Film_init) (defBody S_Film_init) (defScope S_Film_init) .none kV_Film_init dc_Film_init pm_Film_init an_Film_init cd_Film_init ct_Film_init), sl_Film_init⟩)
    (c_Film_init : PySem.W.codeIn K cd_Film_init "Film.__init__" = true)
    (k_Film_init : PySem.W.keepIn K (.ref f_Film_init) = true)
    (a_Film_size : PySem.W.findIn K (.ref C_Film) "size" = some (some (.ref p_Film_size)))
    (pr_Film_size : PySem.W.recIn K p_Film_size "property" = some (.ref f_Film_size :: rs_Film_size))
    (pg_Film_size : PySem.W.specialIn K (.ref p_Film_size) "__get__" = some (some (.builtin "property.__get__")))
    (pt_Film_size : PySem.W.takesIn K (.ref p_Film_size) = some true)
    (l_Film_size : K.lookup f_Film_size = some ⟨oc_Film_size, od_Film_size, .func (PySem.W.fnOf "size" "Film.size" (defArgs S_Film_size) (defBody S_Film_size) (defScope S_Film_size) .none kV_Film_size dc_Film_size pm_Film_size an_Film_size cd_Film_size ct_Film_size), sl_Film_size⟩)
    (c_Film_size : PySem.W.codeIn K cd_Film_size "Film.size" = true)
    (k_Film_size : PySem.W.keepIn K (.ref f_Film_size) = true)
    (a_Film_frames : PySem.W.findIn K (.ref C_Film) "frames" = some (some (.ref p_Film_frames)))
    (pr_Film_frames : PySem.W.recIn K p_Film_frames "property" = some (.ref f_Film_frames :: rs_Film_frames))
    (pg_Film_frames : PySem.W.specialIn K (.ref p_Film_frames) "__get__" = some (some (.builtin "property.__get__")))
    (pt_Film_frames : PySem.W.takesIn K (.ref p_Film_frames) = some true)
    (l_Film_frames : K.lookup f_Film_frames = some ⟨oc_Film_frames, od_Film_frames, .func (PySem.W.fnOf "frames" "Film.frames" (defArgs S_Film_frames) (defBody S_Film_frames) (defScope S_Film_frames) .none kV_Film_frames dc_Film_frames pm_Film_frames an_Film_frames cd_Film_frames ct_Film_frames), sl_Film_frames⟩)
    (c_Film_frames : PySem.W.codeIn K cd_Film_frames "Film.frames" = true)
    (k_Film_frames : PySem.W.keepIn K (.ref f_Film_frames) = true)
    (a_Film_cover : PySem.W.findIn K (.ref C_Film) "cover" = some (some (.ref p_Film_cover)))
    (pr_Film_cover : PySem.W.recIn K p_Film_cover "property" = some (.ref f_Film_cover :: rs_Film_cover))
    (pg_Film_cover : PySem.W.specialIn K (.ref p_Film_cover) "__get__" = some (some (.builtin "property.__get__")))
    (pt_Film_cover : PySem.W.takesIn K (.ref p_Film_cover) = some true)
    (l_Film_cover : K.lookup f_Film_cover = some ⟨oc_Film_cover, od_Film_cover, .func (PySem.W.fnOf "cover" "Film.cover" (defArgs S_Film_cover) (defBody S_Film_cover) (defScope S_Film_cover) .none kV_Film_cover dc_Film_cover pm_Film_cover an_Film_cover cd_Film_cover ct_Film_cover), sl_Film_cover⟩)
    (c_Film_cover : PySem.W.codeIn K cd_Film_cover "Film.cover" = true)
    (k_Film_cover : PySem.W.keepIn K (.ref f_Film_cover) = true)
    (a_Film_eq : PySem.W.findIn K (.ref C_Film) "__eq__" = some (some (.ref f_Film_eq)))
    (i_Film_eq : PySem.W.isFn K (.ref f_Film_eq) = true)
    (l_Film_eq : K.lookup f_Film_eq = some ⟨oc_Film_eq, od_Film_eq, .func (PySem.W.fnOf "__eq__" "Film.__eq__" (defArgs S_Film_eq) (defBody S_Film_eq) (defScope S_Film_eq) .none kV_Film_eq dc_Film_eq pm_Film_eq an_Film_eq cd_Film_eq ct_Film_eq), sl_Film_eq⟩)
    (c_Film_eq : PySem.W.codeIn K cd_Film_eq "Film.__eq__" = true)
    (k_Film_eq : PySem.W.keepIn K (.ref f_Film_eq) = true)
    (nx_Reader : PySem.W.nsIn K mainGlobals "Reader" = some (some (.ref C_Reader)))
    (cpg_Reader : PySem.W.plainGet K C_Reader Str.empty = true)
    (chd_Reader : PySem.W.hasDictIn K C_Reader = true)
    (cpo_Reader : PySem.W.plainOver K C_Reader = true)
    (csa_Reader : PySem.W.findIn K (.ref C_Reader) "__setattr__" = some (some (.builtin "object.__setattr__")))
    (cf_Reader_groups : PySem.W.findIn K (.ref C_Reader) "groups" = some none)
    (cf_Reader_rows : PySem.W.findIn K (.ref C_Reader) "rows" = some none)
    (cf_Reader_wide : PySem.W.findIn K (.ref C_Reader) "wide" = some none)
    (a_Reader_init : PySem.W.findIn K (.ref C_Reader) "__init__" = some (some (.ref f_Reader_init)))
    (i_Reader_init : PySem.W.isFn K (.ref f_Reader_init) = true)
    (mk_Reader : PySem.W.makesIn K C_Reader = true)
    (kc_Reader : PySem.W.keepIn K (.ref C_Reader) = true)
    (l_Reader_init : K.lookup f_Reader_init = some ⟨oc_Reader_init, od_Reader_init, .func (PySem.W.fnOf "__init__" "Reader.__init__" (defArgs S_Reader_init) (defBody S_Reader_init) (defScope S_Reader_init) .none kV_Reader_init dc_Reader_init pm_Reader_init an_Reader_init cd_Reader_init ct_Reader_init), sl_Reader_init⟩)
    (c_Reader_init : PySem.W.codeIn K cd_Reader_init "Reader.__init__" = true)
    (k_Reader_init : PySem.W.keepIn K (.ref f_Reader_init) = true)
    (a_Reader_tally : PySem.W.findIn K (.ref C_Reader) "tally" = some (some (.ref f_Reader_tally)))
    (i_Reader_tally : PySem.W.isFn K (.ref f_Reader_tally) = true)
    (l_Reader_tally : K.lookup f_Reader_tally = some ⟨oc_Reader_tally, od_Reader_tally, .func (PySem.W.fnOf "tally" "Reader.tally" (defArgs S_Reader_tally) (defBody S_Reader_tally) (defScope S_Reader_tally) .none kV_Reader_tally dc_Reader_tally pm_Reader_tally an_Reader_tally cd_Reader_tally ct_Reader_tally), sl_Reader_tally⟩)
    (c_Reader_tally : PySem.W.codeIn K cd_Reader_tally "Reader.tally" = true)
    (k_Reader_tally : PySem.W.keepIn K (.ref f_Reader_tally) = true)
    (a_Reader_is_open : PySem.W.findIn K (.ref C_Reader) "is_open" = some (some (.ref f_Reader_is_open)))
    (i_Reader_is_open : PySem.W.isFn K (.ref f_Reader_is_open) = true)
    (l_Reader_is_open : K.lookup f_Reader_is_open = some ⟨oc_Reader_is_open, od_Reader_is_open, .func (PySem.W.fnOf "is_open" "Reader.is_open" (defArgs S_Reader_is_open) (defBody S_Reader_is_open) (defScope S_Reader_is_open) .none kV_Reader_is_open dc_Reader_is_open pm_Reader_is_open an_Reader_is_open cd_Reader_is_open ct_Reader_is_open), sl_Reader_is_open⟩)
    (c_Reader_is_open : PySem.W.codeIn K cd_Reader_is_open "Reader.is_open" = true)
    (k_Reader_is_open : PySem.W.keepIn K (.ref f_Reader_is_open) = true)
    (a_is_setA : PySem.W.nsIn K mainGlobals "is_set" = some (some (.ref f_is_setA)))
    (l_is_setA : K.lookup f_is_setA = some ⟨oc_is_setA, od_is_setA, .func (PySem.W.fnOf "is_set" "is_set" (defArgs S_is_setA) (defBody S_is_setA) (defScope S_is_setA) .none kV_is_setA dc_is_setA pm_is_setA an_is_setA cd_is_setA ct_is_setA), sl_is_setA⟩)
    (c_is_setA : PySem.W.codeIn K cd_is_setA "is_set" = true)
    (k_is_setA : PySem.W.keepIn K (.ref f_is_setA) = true)
    (a_Reader_take_frame : PySem.W.findIn K (.ref C_Reader) "take_frame" = some (some (.ref f_Reader_take_frame)))
    (i_Reader_take_frame : PySem.W.isFn K (.ref f_Reader_take_frame) = true)
    (l_Reader_take_frame : K.lookup f_Reader_take_frame = some ⟨oc_Reader_take_frame, od_Reader_take_frame, .func (PySem.W.fnOf "take_frame" "Reader.take_frame" (defArgs S_Reader_take_frame) (defBody S_Reader_take_frame) (defScope S_Reader_take_frame) .none kV_Reader_take_frame dc_Reader_take_frame pm_Reader_take_frame an_Reader_take_frame cd_Reader_take_frame ct_Reader_take_frame), sl_Reader_take_frame⟩)
    (c_Reader_take_frame : PySem.W.codeIn K cd_Reader_take_frame "Reader.take_frame" = true)
    (k_Reader_take_frame : PySem.W.keepIn K (.ref f_Reader_take_frame) = true)
    (a_Reader_take_packet : PySem.W.findIn K (.ref C_Reader) "take_packet" = some (some (.ref f_Reader_take_packet)))
    (i_Reader_take_packet : PySem.W.isFn K (.ref f_Reader_take_packet) = true)
    (l_Reader_take_packet : K.lookup f_Reader_take_packet = some ⟨oc_Reader_take_packet, od_Reader_take_packet, .func (PySem.W.fnOf "take_packet" "Reader.take_packet" (defArgs S_Reader_take_packet) (defBody S_Reader_take_packet) (defScope S_Reader_take_packet) .none kV_Reader_take_packet dc_Reader_take_packet pm_Reader_take_packet an_Reader_take_packet cd_Reader_take_packet ct_Reader_take_packet), sl_Reader_take_packet⟩)
    (c_Reader_take_packet : PySem.W.codeIn K cd_Reader_take_packet "Reader.take_packet" = true)
    (k_Reader_take_packet : PySem.W.keepIn K (.ref f_Reader_take_packet) = true)
    (a_Reader_take_set : PySem.W.findIn K (.ref C_Reader) "take_set" = some (some (.ref f_Reader_take_set)))
    (i_Reader_take_set : PySem.W.isFn K (.ref f_Reader_take_set) = true)
    (l_Reader_take_set : K.lookup f_Reader_take_set = some ⟨oc_Reader_take_set, od_Reader_take_set, .func (PySem.W.fnOf "take_set" "Reader.take_set" (defArgs S_Reader_take_set) (defBody S_Reader_take_set) (defScope S_Reader_take_set) .none kV_Reader_take_set dc_Reader_take_set pm_Reader_take_set an_Reader_take_set cd_Reader_take_set ct_Reader_take_set), sl_Reader_take_set⟩)
    (c_Reader_take_set : PySem.W.codeIn K cd_Reader_take_set "Reader.take_set" = true)
    (k_Reader_take_set : PySem.W.keepIn K (.ref f_Reader_take_set) = true)
    (a_integer_of : PySem.W.nsIn K mainGlobals "integer_of" = some (some (.ref f_integer_of)))
    (l_integer_of : K.lookup f_integer_of = some ⟨oc_integer_of, od_integer_of, .func (PySem.W.fnOf "integer_of" "integer_of" (defArgs S_integer_of) (defBody S_integer_of) (defScope S_integer_of) .none kV_integer_of dc_integer_of pm_integer_of an_integer_of cd_integer_of ct_integer_of), sl_integer_of⟩)
    (c_integer_of : PySem.W.codeIn K cd_integer_of "integer_of" = true)
    (k_integer_of : PySem.W.keepIn K (.ref f_integer_of) = true)
    (a_Reader_read : PySem.W.findIn K (.ref C_Reader) "read" = some (some (.ref f_Reader_read)))
    (i_Reader_read : PySem.W.isFn K (.ref f_Reader_read) = true)
    (l_Reader_read : K.lookup f_Reader_read = some ⟨oc_Reader_read, od_Reader_read, .func (PySem.W.fnOf "read" "Reader.read" (defArgs S_Reader_read) (defBody S_Reader_read) (defScope S_Reader_read) .none kV_Reader_read dc_Reader_read pm_Reader_read an_Reader_read cd_Reader_read ct_Reader_read), sl_Reader_read⟩)
    (c_Reader_read : PySem.W.codeIn K cd_Reader_read "Reader.read" = true)
    (k_Reader_read : PySem.W.keepIn K (.ref f_Reader_read) = true)
    (a_line_of : PySem.W.nsIn K mainGlobals "line_of" = some (some (.ref f_line_of)))
    (l_line_of : K.lookup f_line_of = some ⟨oc_line_of, od_line_of, .func (PySem.W.fnOf "line_of" "line_of" (defArgs S_line_of) (defBody S_line_of) (defScope S_line_of) .none kV_line_of dc_line_of pm_line_of an_line_of cd_line_of ct_line_of), sl_line_of⟩)
    (c_line_of : PySem.W.codeIn K cd_line_of "line_of" = true)
    (k_line_of : PySem.W.keepIn K (.ref f_line_of) = true)
    (a_format_film : PySem.W.nsIn K mainGlobals "format_film" = some (some (.ref f_format_film)))
    (l_format_film : K.lookup f_format_film = some ⟨oc_format_film, od_format_film, .func (PySem.W.fnOf "format_film" "format_film" (defArgs S_format_film) (defBody S_format_film) (defScope S_format_film) .none kV_format_film dc_format_film pm_format_film an_format_film cd_format_film ct_format_film), sl_format_film⟩)
    (c_format_film : PySem.W.codeIn K cd_format_film "format_film" = true)
    (k_format_film : PySem.W.keepIn K (.ref f_format_film) = true)
    (a_parse_film : PySem.W.nsIn K mainGlobals "parse_film" = some (some (.ref f_parse_film)))
    (l_parse_film : K.lookup f_parse_film = some ⟨oc_parse_film, od_parse_film, .func (PySem.W.fnOf "parse_film" "parse_film" (defArgs S_parse_film) (defBody S_parse_film) (defScope S_parse_film) .none kV_parse_film dc_parse_film pm_parse_film an_parse_film cd_parse_film ct_parse_film), sl_parse_film⟩)
    (c_parse_film : PySem.W.codeIn K cd_parse_film "parse_film" = true)
    (k_parse_film : PySem.W.keepIn K (.ref f_parse_film) = true)
    (a_l_pen : PySem.W.nsIn K mainGlobals "_law_pen" = some (some (.ref f_l_pen)))
    (l_l_pen : K.lookup f_l_pen = some ⟨oc_l_pen, od_l_pen, .func (PySem.W.fnOf "_law_pen" "_law_pen" (defArgs S_l_pen) (defBody S_l_pen) (defScope S_l_pen) .none kV_l_pen dc_l_pen pm_l_pen an_l_pen cd_l_pen ct_l_pen), sl_l_pen⟩)
    (c_l_pen : PySem.W.codeIn K cd_l_pen "_law_pen" = true)
    (k_l_pen : PySem.W.keepIn K (.ref f_l_pen) = true)
    (a_l_next : PySem.W.nsIn K mainGlobals "_law_next" = some (some (.ref f_l_next)))
    (l_l_next : K.lookup f_l_next = some ⟨oc_l_next, od_l_next, .func (PySem.W.fnOf "_law_next" "_law_next" (defArgs S_l_next) (defBody S_l_next) (defScope S_l_next) .none kV_l_next dc_l_next pm_l_next an_l_next cd_l_next ct_l_next), sl_l_next⟩)
    (c_l_next : PySem.W.codeIn K cd_l_next "_law_next" = true)
    (k_l_next : PySem.W.keepIn K (.ref f_l_next) = true)
    (a_l_draw : PySem.W.nsIn K mainGlobals "_law_draw" = some (some (.ref f_l_draw)))
    (l_l_draw : K.lookup f_l_draw = some ⟨oc_l_draw, od_l_draw, .func (PySem.W.fnOf "_law_draw" "_law_draw" (defArgs S_l_draw) (defBody S_l_draw) (defScope S_l_draw) .none kV_l_draw dc_l_draw pm_l_draw an_l_draw cd_l_draw ct_l_draw), sl_l_draw⟩)
    (c_l_draw : PySem.W.codeIn K cd_l_draw "_law_draw" = true)
    (k_l_draw : PySem.W.keepIn K (.ref f_l_draw) = true)
    (a_l_some : PySem.W.nsIn K mainGlobals "_law_some" = some (some (.ref f_l_some)))
    (l_l_some : K.lookup f_l_some = some ⟨oc_l_some, od_l_some, .func (PySem.W.fnOf "_law_some" "_law_some" (defArgs S_l_some) (defBody S_l_some) (defScope S_l_some) .none kV_l_some dc_l_some pm_l_some an_l_some cd_l_some ct_l_some), sl_l_some⟩)
    (c_l_some : PySem.W.codeIn K cd_l_some "_law_some" = true)
    (k_l_some : PySem.W.keepIn K (.ref f_l_some) = true)
    (a_l_groups : PySem.W.nsIn K mainGlobals "_law_groups" = some (some (.ref f_l_groups)))
    (l_l_groups : K.lookup f_l_groups = some ⟨oc_l_groups, od_l_groups, .func (PySem.W.fnOf "_law_groups" "_law_groups" (defArgs S_l_groups) (defBody S_l_groups) (defScope S_l_groups) .none kV_l_groups dc_l_groups pm_l_groups an_l_groups cd_l_groups ct_l_groups), sl_l_groups⟩)
    (c_l_groups : PySem.W.codeIn K cd_l_groups "_law_groups" = true)
    (k_l_groups : PySem.W.keepIn K (.ref f_l_groups) = true)
    (a_l_bytes : PySem.W.nsIn K mainGlobals "_law_bytes" = some (some (.ref f_l_bytes)))
    (l_l_bytes : K.lookup f_l_bytes = some ⟨oc_l_bytes, od_l_bytes, .func (PySem.W.fnOf "_law_bytes" "_law_bytes" (defArgs S_l_bytes) (defBody S_l_bytes) (defScope S_l_bytes) .none kV_l_bytes dc_l_bytes pm_l_bytes an_l_bytes cd_l_bytes ct_l_bytes), sl_l_bytes⟩)
    (c_l_bytes : PySem.W.codeIn K cd_l_bytes "_law_bytes" = true)
    (k_l_bytes : PySem.W.keepIn K (.ref f_l_bytes) = true)
    (a_l_shape : PySem.W.nsIn K mainGlobals "_law_shape" = some (some (.ref f_l_shape)))
    (l_l_shape : K.lookup f_l_shape = some ⟨oc_l_shape, od_l_shape, .func (PySem.W.fnOf "_law_shape" "_law_shape" (defArgs S_l_shape) (defBody S_l_shape) (defScope S_l_shape) .none kV_l_shape dc_l_shape pm_l_shape an_l_shape cd_l_shape ct_l_shape), sl_l_shape⟩)
    (c_l_shape : PySem.W.codeIn K cd_l_shape "_law_shape" = true)
    (k_l_shape : PySem.W.keepIn K (.ref f_l_shape) = true)
    (a_l_film : PySem.W.nsIn K mainGlobals "_law_film" = some (some (.ref f_l_film)))
    (l_l_film : K.lookup f_l_film = some ⟨oc_l_film, od_l_film, .func (PySem.W.fnOf "_law_film" "_law_film" (defArgs S_l_film) (defBody S_l_film) (defScope S_l_film) .none kV_l_film dc_l_film pm_l_film an_l_film cd_l_film ct_l_film), sl_l_film⟩)
    (c_l_film : PySem.W.codeIn K cd_l_film "_law_film" = true)
    (k_l_film : PySem.W.keepIn K (.ref f_l_film) = true)
    (a_l_lines : PySem.W.nsIn K mainGlobals "_law_lines" = some (some (.ref f_l_lines)))
    (l_l_lines : K.lookup f_l_lines = some ⟨oc_l_lines, od_l_lines, .func (PySem.W.fnOf "_law_lines" "_law_lines" (defArgs S_l_lines) (defBody S_l_lines) (defScope S_l_lines) .none kV_l_lines dc_l_lines pm_l_lines an_l_lines cd_l_lines ct_l_lines), sl_l_lines⟩)
    (c_l_lines : PySem.W.codeIn K cd_l_lines "_law_lines" = true)
    (k_l_lines : PySem.W.keepIn K (.ref f_l_lines) = true)
    (a_law : PySem.W.nsIn K mainGlobals "law" = some (some (.ref f_law)))
    (l_law : K.lookup f_law = some ⟨oc_law, od_law, .func (PySem.W.fnOf "law" "law" (defArgs S_law) (defBody S_law) (defScope S_law) .none kV_law dc_law pm_law an_law cd_law ct_law), sl_law⟩)
    (c_law : PySem.W.codeIn K cd_law "law" = true)
    (k_law : PySem.W.keepIn K (.ref f_law) = true)
    (z_all : PySem.W.nsIn K mainGlobals "all" = some none)
    (z_bool : PySem.W.nsIn K mainGlobals "bool" = some none)
    (z_enumerate : PySem.W.nsIn K mainGlobals "enumerate" = some none)
    (z_int : PySem.W.nsIn K mainGlobals "int" = some none)
    (z_isinstance : PySem.W.nsIn K mainGlobals "isinstance" = some none)
    (z_len : PySem.W.nsIn K mainGlobals "len" = some none)
    (z_list : PySem.W.nsIn K mainGlobals "list" = some none)
    (z_max : PySem.W.nsIn K mainGlobals "max" = some none)
    (z_min : PySem.W.nsIn K mainGlobals "min" = some none)
    (z_range : PySem.W.nsIn K mainGlobals "range" = some none)
    (z_repr : PySem.W.nsIn K mainGlobals "repr" = some none)
    (z_set : PySem.W.nsIn K mainGlobals "set" = some none)
    (z_sorted : PySem.W.nsIn K mainGlobals "sorted" = some none)
    (z_str : PySem.W.nsIn K mainGlobals "str" = some none)
    (z_sum : PySem.W.nsIn K mainGlobals "sum" = some none)
    (z_tuple : PySem.W.nsIn K mainGlobals "tuple" = some none)
    (g_FIGURES : PySem.W.nsIn K mainGlobals "FIGURES" = some (some (.str "0123456789" t_FIGURES)))
    (g_MAX_BYTE : PySem.W.nsIn K mainGlobals "MAX_BYTE" = some (some (.int 255 t_MAX_BYTE)))
    (g_MAX_PACKETS : PySem.W.nsIn K mainGlobals "MAX_PACKETS" = some (some (.int 24 t_MAX_PACKETS)))
    (g_MAX_SETS : PySem.W.nsIn K mainGlobals "MAX_SETS" = some (some (.int 16 t_MAX_SETS)))
    (g_MAX_SIZE : PySem.W.nsIn K mainGlobals "MAX_SIZE" = some (some (.int 8 t_MAX_SIZE)))
    (hnx : PySem.W.specialIn K (.builtin "object.__class__") "__get__" = some (some (.builtin "getset_descriptor.__get__")))
    (htx : PySem.W.takesIn K (.builtin "object.__class__") = some true)
    (s_NoneType_Cover : PySem.W.subIn K (.type "NoneType") (.ref C_Cover) = some false)
    (s_NoneType_Film : PySem.W.subIn K (.type "NoneType") (.ref C_Film) = some false)
    (s_bool_Cover : PySem.W.subIn K (.type "bool") (.ref C_Cover) = some false)
    (s_bool_Film : PySem.W.subIn K (.type "bool") (.ref C_Film) = some false)
    (s_int_Cover : PySem.W.subIn K (.type "int") (.ref C_Cover) = some false)
    (s_int_Film : PySem.W.subIn K (.type "int") (.ref C_Film) = some false)
    (s_str_Cover : PySem.W.subIn K (.type "str") (.ref C_Cover) = some false)
    (s_str_Film : PySem.W.subIn K (.type "str") (.ref C_Film) = some false)
    (s_list_Cover : PySem.W.subIn K (.type "list") (.ref C_Cover) = some false)
    (s_list_Film : PySem.W.subIn K (.type "list") (.ref C_Film) = some false)
    (s_tuple_Cover : PySem.W.subIn K (.type "tuple") (.ref C_Cover) = some false)
    (s_tuple_Film : PySem.W.subIn K (.type "tuple") (.ref C_Film) = some false)
    (s_dict_Cover : PySem.W.subIn K (.type "dict") (.ref C_Cover) = some false)
    (s_dict_Film : PySem.W.subIn K (.type "dict") (.ref C_Film) = some false)
    (s_Cover_Cover : PySem.W.subIn K (.ref C_Cover) (.ref C_Cover) = some true)
    (s_Cover_Film : PySem.W.subIn K (.ref C_Cover) (.ref C_Film) = some false)
    (s_Film_Film : PySem.W.subIn K (.ref C_Film) (.ref C_Film) = some true)
    (s_Film_Cover : PySem.W.subIn K (.ref C_Film) (.ref C_Cover) = some false)
    : ∃ fd : FuncData, (∀ (s : Shared) (u : Value), BindsTo s fd ⟨[u], []⟩ [("_law_script", u)]) ∧ ∀ base : Heap, K.In base → base.Ns mainGlobals mg → Gn (fun _ => none) l.prog w K mg base 8 fa fd ["_law_script"] sp_law := by
  have e := hfa.symm.trans (PySem.W.mg_of X G a_law)
  cases e
  have Cls_Cover := cls_mk nx_Cover cpg_Cover chd_Cover cpo_Cover csa_Cover
  have Cls_Film := cls_mk nx_Film cpg_Film chd_Film cpo_Film csa_Film
  have Cls_Reader := cls_mk nx_Reader cpg_Reader chd_Reader cpo_Reader csa_Reader
  have Io_Cover := ins_mk Cls_Cover nx_Cover cha_Cover hnx htx cmo_Cover
  have Io_Film := ins_mk Cls_Film nx_Film cha_Film hnx htx cmo_Film
  have Tx : Txt K mg := ⟨PySem.W.mg_none_of X G z_all, PySem.W.mg_none_of X G z_bool, PySem.W.mg_none_of X G z_enumerate, PySem.W.mg_none_of X G z_int, PySem.W.mg_none_of X G z_isinstance, PySem.W.mg_none_of X G z_len, PySem.W.mg_none_of X G z_list, PySem.W.mg_none_of X G z_max, PySem.W.mg_none_of X G z_min, PySem.W.mg_none_of X G z_range, PySem.W.mg_none_of X G z_repr, PySem.W.mg_none_of X G z_set, PySem.W.mg_none_of X G z_sorted, PySem.W.mg_none_of X G z_str, PySem.W.mg_none_of X G z_sum, PySem.W.mg_none_of X G z_tuple, _, PySem.W.mg_of X G g_FIGURES, _, PySem.W.mg_of X G g_MAX_BYTE, _, PySem.W.mg_of X G g_MAX_PACKETS, _, PySem.W.mg_of X G g_MAX_SETS, _, PySem.W.mg_of X G g_MAX_SIZE, ⟨tb_bo nx_Cover chd_Cover cty_Cover s_NoneType_Cover, tb_bo nx_Film chd_Film cty_Film s_NoneType_Film, tb_bo nx_Cover chd_Cover cty_Cover s_bool_Cover, tb_bo nx_Film chd_Film cty_Film s_bool_Film, tb_bo nx_Cover chd_Cover cty_Cover s_int_Cover, tb_bo nx_Film chd_Film cty_Film s_int_Film, tb_bo nx_Cover chd_Cover cty_Cover s_str_Cover, tb_bo nx_Film chd_Film cty_Film s_str_Film, tb_bo nx_Cover chd_Cover cty_Cover s_list_Cover, tb_bo nx_Film chd_Film cty_Film s_list_Film, tb_bo nx_Cover chd_Cover cty_Cover s_tuple_Cover, tb_bo nx_Film chd_Film cty_Film s_tuple_Film, tb_bo nx_Cover chd_Cover cty_Cover s_dict_Cover, tb_bo nx_Film chd_Film cty_Film s_dict_Film, tb_oo nx_Cover nx_Cover Io_Cover chd_Cover cty_Cover s_Cover_Cover s_Cover_Cover, tb_oo nx_Cover nx_Film Io_Cover chd_Film cty_Film s_Cover_Cover s_Cover_Film, tb_oo nx_Film nx_Cover Io_Film chd_Cover cty_Cover s_Film_Film s_Film_Cover, tb_oo nx_Film nx_Film Io_Film chd_Film cty_Film s_Film_Film s_Film_Film, trivial⟩, g_mk nx_Cover (PySem.W.mg_of X G nx_Cover), g_mk nx_Film (PySem.W.mg_of X G nx_Film), fld_mk Cls_Cover nx_Cover cf_Cover_known, fld_mk Cls_Cover nx_Cover cf_Cover_mixtures, fld_mk Cls_Cover nx_Cover cf_Cover_vectors, fld_mk Cls_Film nx_Film cf_Film_flat, fld_mk Cls_Film nx_Film cf_Film_mixtures, fld_mk Cls_Film nx_Film cf_Film_owners, fld_mk Cls_Film nx_Film cf_Film_rows, fld_mk Cls_Film nx_Film cf_Film_width, fld_mk Cls_Reader nx_Reader cf_Reader_groups, fld_mk Cls_Reader nx_Reader cf_Reader_rows, fld_mk Cls_Reader nx_Reader cf_Reader_wide, ne_mk nx_Film cne_Film cmo_Film⟩
  let D_is_integer : Df K mg "is_integer" "is_integer" S_is_integer ["thing"] := df_mk X G a_is_integer l_is_integer c_is_integer k_is_integer bd_is_integer
  let D_is_set : Df K mg "is_set" "is_set" S_is_set ["thing", "count"] := df_mk X G a_is_set l_is_set c_is_set k_is_set bd_is_set
  let D_Cover_init : Dn K mg "Cover" "Cover.__init__" S_Cover_init ["self", "count", "sets"] := dn_mk X G nx_Cover mk_Cover kc_Cover a_Cover_init i_Cover_init l_Cover_init c_Cover_init k_Cover_init bd_Cover_init
  let D_Cover_sets : Dp K "Cover" "sets" "Cover.sets" S_Cover_sets ["self"] := dp_mk Cls_Cover nx_Cover a_Cover_sets pg_Cover_sets pt_Cover_sets pr_Cover_sets l_Cover_sets c_Cover_sets k_Cover_sets bd_Cover_sets
  let D_Cover_eq : Dm K "Cover" "__eq__" "Cover.__eq__" S_Cover_eq ["self", "other"] := dm_mk Cls_Cover nx_Cover a_Cover_eq i_Cover_eq l_Cover_eq c_Cover_eq k_Cover_eq bd_Cover_eq
  let D_is_size : Df K mg "is_size" "is_size" S_is_size ["thing"] := df_mk X G a_is_size l_is_size c_is_size k_is_size bd_is_size
  let D_is_byte : Df K mg "is_byte" "is_byte" S_is_byte ["thing"] := df_mk X G a_is_byte l_is_byte c_is_byte k_is_byte bd_is_byte
  let D_is_packet : Df K mg "is_packet" "is_packet" S_is_packet ["thing", "size"] := df_mk X G a_is_packet l_is_packet c_is_packet k_is_packet bd_is_packet
  let D_is_frame : Df K mg "is_frame" "is_frame" S_is_frame ["thing", "size", "number"] := df_mk X G a_is_frame l_is_frame c_is_frame k_is_frame bd_is_frame
  let D_Film_init : Dn K mg "Film" "Film.__init__" S_Film_init ["self", "size", "frames", "sets"] := dn_mk X G nx_Film mk_Film kc_Film a_Film_init i_Film_init l_Film_init c_Film_init k_Film_init bd_Film_init
  let D_Film_size : Dp K "Film" "size" "Film.size" S_Film_size ["self"] := dp_mk Cls_Film nx_Film a_Film_size pg_Film_size pt_Film_size pr_Film_size l_Film_size c_Film_size k_Film_size bd_Film_size
  let D_Film_frames : Dp K "Film" "frames" "Film.frames" S_Film_frames ["self"] := dp_mk Cls_Film nx_Film a_Film_frames pg_Film_frames pt_Film_frames pr_Film_frames l_Film_frames c_Film_frames k_Film_frames bd_Film_frames
  let D_Film_cover : Dp K "Film" "cover" "Film.cover" S_Film_cover ["self"] := dp_mk Cls_Film nx_Film a_Film_cover pg_Film_cover pt_Film_cover pr_Film_cover l_Film_cover c_Film_cover k_Film_cover bd_Film_cover
  let D_Film_eq : Dm K "Film" "__eq__" "Film.__eq__" S_Film_eq ["self", "other"] := dm_mk Cls_Film nx_Film a_Film_eq i_Film_eq l_Film_eq c_Film_eq k_Film_eq bd_Film_eq
  let D_Reader_init : Dn K mg "Reader" "Reader.__init__" S_Reader_init ["self", "size"] := dn_mk X G nx_Reader mk_Reader kc_Reader a_Reader_init i_Reader_init l_Reader_init c_Reader_init k_Reader_init bd_Reader_init
  let D_Reader_tally : Dm K "Reader" "tally" "Reader.tally" S_Reader_tally ["self"] := dm_mk Cls_Reader nx_Reader a_Reader_tally i_Reader_tally l_Reader_tally c_Reader_tally k_Reader_tally bd_Reader_tally
  let D_Reader_is_open : Dm K "Reader" "is_open" "Reader.is_open" S_Reader_is_open ["self"] := dm_mk Cls_Reader nx_Reader a_Reader_is_open i_Reader_is_open l_Reader_is_open c_Reader_is_open k_Reader_is_open bd_Reader_is_open
  let D_is_setA : Df K mg "is_set" "is_set" S_is_setA ["thing", "count"] := df_mk X G a_is_setA l_is_setA c_is_setA k_is_setA bd_is_setA
  let D_Reader_take_frame : Dm K "Reader" "take_frame" "Reader.take_frame" S_Reader_take_frame ["self", "numbers"] := dm_mk Cls_Reader nx_Reader a_Reader_take_frame i_Reader_take_frame l_Reader_take_frame c_Reader_take_frame k_Reader_take_frame bd_Reader_take_frame
  let D_Reader_take_packet : Dm K "Reader" "take_packet" "Reader.take_packet" S_Reader_take_packet ["self", "numbers"] := dm_mk Cls_Reader nx_Reader a_Reader_take_packet i_Reader_take_packet l_Reader_take_packet c_Reader_take_packet k_Reader_take_packet bd_Reader_take_packet
  let D_Reader_take_set : Dm K "Reader" "take_set" "Reader.take_set" S_Reader_take_set ["self", "numbers"] := dm_mk Cls_Reader nx_Reader a_Reader_take_set i_Reader_take_set l_Reader_take_set c_Reader_take_set k_Reader_take_set bd_Reader_take_set
  let D_integer_of : Df K mg "integer_of" "integer_of" S_integer_of ["word"] := df_mk X G a_integer_of l_integer_of c_integer_of k_integer_of bd_integer_of
  let D_Reader_read : Dm K "Reader" "read" "Reader.read" S_Reader_read ["self", "line"] := dm_mk Cls_Reader nx_Reader a_Reader_read i_Reader_read l_Reader_read c_Reader_read k_Reader_read bd_Reader_read
  let D_line_of : Df K mg "line_of" "line_of" S_line_of ["word", "numbers"] := df_mk X G a_line_of l_line_of c_line_of k_line_of bd_line_of
  let D_format_film : Df K mg "format_film" "format_film" S_format_film ["film"] := df_mk X G a_format_film l_format_film c_format_film k_format_film bd_format_film
  let D_parse_film : Df K mg "parse_film" "parse_film" S_parse_film ["text"] := df_mk X G a_parse_film l_parse_film c_parse_film k_parse_film bd_parse_film
  let D_l_pen : Df K mg "_law_pen" "_law_pen" S_l_pen ["_law_script"] := df_mk X G a_l_pen l_l_pen c_l_pen k_l_pen bd_l_pen
  let D_l_next : Df K mg "_law_next" "_law_next" S_l_next ["_law_pen_here"] := df_mk X G a_l_next l_l_next c_l_next k_l_next bd_l_next
  let D_l_draw : Df K mg "_law_draw" "_law_draw" S_l_draw ["_law_pen_here", "_law_under"] := df_mk X G a_l_draw l_l_draw c_l_draw k_l_draw bd_l_draw
  let D_l_some : Df K mg "_law_some" "_law_some" S_l_some ["_law_pen_here", "_law_pool", "_law_most"] := df_mk X G a_l_some l_l_some c_l_some k_l_some bd_l_some
  let D_l_groups : Df K mg "_law_groups" "_law_groups" S_l_groups ["_law_pen_here", "_law_many", "_law_most"] := df_mk X G a_l_groups l_l_groups c_l_groups k_l_groups bd_l_groups
  let D_l_bytes : Df K mg "_law_bytes" "_law_bytes" S_l_bytes ["_law_pen_here", "_law_wide"] := df_mk X G a_l_bytes l_l_bytes c_l_bytes k_l_bytes bd_l_bytes
  let D_l_shape : Df K mg "_law_shape" "_law_shape" S_l_shape ["_law_pen_here", "_law_most", "_law_most_sets"] := df_mk X G a_l_shape l_l_shape c_l_shape k_l_shape bd_l_shape
  let D_l_film : Df K mg "_law_film" "_law_film" S_l_film ["_law_shape_here"] := df_mk X G a_l_film l_l_film c_l_film k_l_film bd_l_film
  let D_l_lines : Df K mg "_law_lines" "_law_lines" S_l_lines ["_law_shape_here"] := df_mk X G a_l_lines l_l_lines c_l_lines k_l_lines bd_l_lines
  let D_law : Df K mg "law" "law" S_law ["_law_script"] := df_mk X G a_law l_law c_law k_law bd_law
  exact ⟨D_law.fd, fun s u => .of_eq rfl, fun base _ _ => all_fn Tx D_is_integer D_is_set D_Cover_init D_Cover_sets D_Cover_eq D_is_size D_is_byte D_is_packet D_is_frame D_Film_init D_Film_size D_Film_frames D_Film_cover D_Film_eq D_Reader_init D_Reader_tally D_Reader_is_open D_is_setA D_Reader_take_frame D_Reader_take_packet D_Reader_take_set D_integer_of D_Reader_read D_line_of D_format_film D_parse_film D_l_pen D_l_next D_l_draw D_l_some D_l_groups D_l_bytes D_l_shape D_l_film D_l_lines D_law⟩
end Dl
open PySem PySem.W PyProof.Rows in
set_option maxRecDepth 100000 in
set_option maxHeartbeats 0 in
theorem PySem.Challenge.cw_evenplay_k13_films_formatted_holds : PySem.Challenge.rw_evenplay_k13_films_formatted.Holds := by
  refine Hd.top ?_
  k_fill
  refine Dl.end_of (l := PySem.Challenge.rw_evenplay_k13_films_formatted) (n := 63) (k := 8) (x := "_law_script") (sp := Dl.sp_law) rfl (by decide) rfl ⟨rfl, by decide, by decide⟩ (fun w h Y => PySem.W.kIn_of Y) ?F Dl.sp_law_in
  case F =>
    intro w mg fa h KX G hmg
    refine' Dl.all_mk KX G hmg ?a_is_integer ?l_is_integer ?c_is_integer ?k_is_integer ?a_is_set ?l_is_set ?c_is_set ?k_is_set ?nx_Cover ?cpg_Cover ?chd_Cover ?cpo_Cover ?csa_Cover ?cha_Cover ?cty_Cover ?cmo_Cover ?cf_Cover_known ?cf_Cover_mixtures ?cf_Cover_vectors ?a_Cover_init ?i_Cover_init ?mk_Cover ?kc_Cover ?l_Cover_init ?c_Cover_init ?k_Cover_init ?a_Cover_sets ?pr_Cover_sets ?pg_Cover_sets ?pt_Cover_sets ?l_Cover_sets ?c_Cover_sets ?k_Cover_sets ?a_Cover_eq ?i_Cover_eq ?l_Cover_eq ?c_Cover_eq ?k_Cover_eq ?a_is_size ?l_is_size ?c_is_size ?k_is_size ?a_is_byte ?l_is_byte ?c_is_byte ?k_is_byte ?a_is_packet ?l_is_packet ?c_is_packet ?k_is_packet ?a_is_frame ?l_is_frame ?c_is_frame ?k_is_frame ?nx_Film ?cpg_Film ?chd_Film ?cpo_Film ?csa_Film ?cha_Film ?cty_Film ?cne_Film ?cmo_Film ?cf_Film_flat ?cf_Film_mixtures ?cf_Film_owners ?cf_Film_rows ?cf_Film_width ?a_Film_init ?i_Film_init ?mk_Film ?kc_Film ?l_Film_init ?c_Film_init ?k_Film_init ?a_Film_size ?pr_Film_size ?pg_Film_size ?pt_Film_size ?l_Film_size ?c_Film_size ?k_Film_size ?a_Film_frames ?pr_Film_frames ?pg_Film_frames ?pt_Film_frames ?l_Film_frames ?c_Film_frames ?k_Film_frames ?a_Film_cover ?pr_Film_cover ?pg_Film_cover ?pt_Film_cover ?l_Film_cover ?c_Film_cover ?k_Film_cover ?a_Film_eq ?i_Film_eq ?l_Film_eq ?c_Film_eq ?k_Film_eq ?nx_Reader ?cpg_Reader ?chd_Reader ?cpo_Reader ?csa_Reader ?cf_Reader_groups ?cf_Reader_rows ?cf_Reader_wide ?a_Reader_init ?i_Reader_init ?mk_Reader ?kc_Reader ?l_Reader_init ?c_Reader_init ?k_Reader_init ?a_Reader_tally ?i_Reader_tally ?l_Reader_tally ?c_Reader_tally ?k_Reader_tally ?a_Reader_is_open ?i_Reader_is_open ?l_Reader_is_open ?c_Reader_is_open ?k_Reader_is_open ?a_is_setA ?l_is_setA ?c_is_setA ?k_is_setA ?a_Reader_take_frame ?i_Reader_take_frame ?l_Reader_take_frame ?c_Reader_take_frame ?k_Reader_take_frame ?a_Reader_take_packet ?i_Reader_take_packet ?l_Reader_take_packet ?c_Reader_take_packet ?k_Reader_take_packet ?a_Reader_take_set ?i_Reader_take_set ?l_Reader_take_set ?c_Reader_take_set ?k_Reader_take_set ?a_integer_of ?l_integer_of ?c_integer_of ?k_integer_of ?a_Reader_read ?i_Reader_read ?l_Reader_read ?c_Reader_read ?k_Reader_read ?a_line_of ?l_line_of ?c_line_of ?k_line_of ?a_format_film ?l_format_film ?c_format_film ?k_format_film ?a_parse_film ?l_parse_film ?c_parse_film ?k_parse_film ?a_l_pen ?l_l_pen ?c_l_pen ?k_l_pen ?a_l_next ?l_l_next ?c_l_next ?k_l_next ?a_l_draw ?l_l_draw ?c_l_draw ?k_l_draw ?a_l_some ?l_l_some ?c_l_some ?k_l_some ?a_l_groups ?l_l_groups ?c_l_groups ?k_l_groups ?a_l_bytes ?l_l_bytes ?c_l_bytes ?k_l_bytes ?a_l_shape ?l_l_shape ?c_l_shape ?k_l_shape ?a_l_film ?l_l_film ?c_l_film ?k_l_film ?a_l_lines ?l_l_lines ?c_l_lines ?k_l_lines ?a_law ?l_law ?c_law ?k_law ?z_all ?z_bool ?z_enumerate ?z_int ?z_isinstance ?z_len ?z_list ?z_max ?z_min ?z_range ?z_repr ?z_set ?z_sorted ?z_str ?z_sum ?z_tuple ?g_FIGURES ?g_MAX_BYTE ?g_MAX_PACKETS ?g_MAX_SETS ?g_MAX_SIZE ?hnx ?htx ?s_NoneType_Cover ?s_NoneType_Film ?s_bool_Cover ?s_bool_Film ?s_int_Cover ?s_int_Film ?s_str_Cover ?s_str_Film ?s_list_Cover ?s_list_Film ?s_tuple_Cover ?s_tuple_Film ?s_dict_Cover ?s_dict_Film ?s_Cover_Cover ?s_Cover_Film ?s_Film_Film ?s_Film_Cover
    (case a_is_integer => k_is)
    (case l_is_integer => k_is)
    (case c_is_integer => k_is)
    (case k_is_integer => k_is)
    (case a_is_set => k_is)
    (case l_is_set => k_is)
    (case c_is_set => k_is)
    (case k_is_set => k_is)
    (case nx_Cover => k_is)
    (case cpg_Cover => k_is)
    (case chd_Cover => k_is)
    (case cpo_Cover => k_is)
    (case csa_Cover => k_is)
    (case cha_Cover => k_is)
    (case cty_Cover => k_is)
    (case cmo_Cover => k_is)
    (case cf_Cover_known => k_is)
    (case cf_Cover_mixtures => k_is)
    (case cf_Cover_vectors => k_is)
    (case a_Cover_init => k_is)
    (case i_Cover_init => k_is)
    (case mk_Cover => k_is)
    (case kc_Cover => k_is)
    (case l_Cover_init => k_is)
    (case c_Cover_init => k_is)
    (case k_Cover_init => k_is)
    (case a_Cover_sets => k_is)
    (case pr_Cover_sets => k_is)
    (case pg_Cover_sets => k_is)
    (case pt_Cover_sets => k_is)
    (case l_Cover_sets => k_is)
    (case c_Cover_sets => k_is)
    (case k_Cover_sets => k_is)
    (case a_Cover_eq => k_is)
    (case i_Cover_eq => k_is)
    (case l_Cover_eq => k_is)
    (case c_Cover_eq => k_is)
    (case k_Cover_eq => k_is)
    (case a_is_size => k_is)
    (case l_is_size => k_is)
    (case c_is_size => k_is)
    (case k_is_size => k_is)
    (case a_is_byte => k_is)
    (case l_is_byte => k_is)
    (case c_is_byte => k_is)
    (case k_is_byte => k_is)
    (case a_is_packet => k_is)
    (case l_is_packet => k_is)
    (case c_is_packet => k_is)
    (case k_is_packet => k_is)
    (case a_is_frame => k_is)
    (case l_is_frame => k_is)
    (case c_is_frame => k_is)
    (case k_is_frame => k_is)
    (case nx_Film => k_is)
    (case cpg_Film => k_is)
    (case chd_Film => k_is)
    (case cpo_Film => k_is)
    (case csa_Film => k_is)
    (case cha_Film => k_is)
    (case cty_Film => k_is)
    (case cne_Film => k_is)
    (case cmo_Film => k_is)
    (case cf_Film_flat => k_is)
    (case cf_Film_mixtures => k_is)
    (case cf_Film_owners => k_is)
    (case cf_Film_rows => k_is)
    (case cf_Film_width => k_is)
    (case a_Film_init => k_is)
    (case i_Film_init => k_is)
    (case mk_Film => k_is)
    (case kc_Film => k_is)
    (case l_Film_init => k_is)
    (case c_Film_init => k_is)
    (case k_Film_init => k_is)
    (case a_Film_size => k_is)
    (case pr_Film_size => k_is)
    (case pg_Film_size => k_is)
    (case pt_Film_size => k_is)
    (case l_Film_size => k_is)
    (case c_Film_size => k_is)
    (case k_Film_size => k_is)
    (case a_Film_frames => k_is)
    (case pr_Film_frames => k_is)
    (case pg_Film_frames => k_is)
    (case pt_Film_frames => k_is)
    (case l_Film_frames => k_is)
    (case c_Film_frames => k_is)
    (case k_Film_frames => k_is)
    (case a_Film_cover => k_is)
    (case pr_Film_cover => k_is)
    (case pg_Film_cover => k_is)
    (case pt_Film_cover => k_is)
    (case l_Film_cover => k_is)
    (case c_Film_cover => k_is)
    (case k_Film_cover => k_is)
    (case a_Film_eq => k_is)
    (case i_Film_eq => k_is)
    (case l_Film_eq => k_is)
    (case c_Film_eq => k_is)
    (case k_Film_eq => k_is)
    (case nx_Reader => k_is)
    (case cpg_Reader => k_is)
    (case chd_Reader => k_is)
    (case cpo_Reader => k_is)
    (case csa_Reader => k_is)
    (case cf_Reader_groups => k_is)
    (case cf_Reader_rows => k_is)
    (case cf_Reader_wide => k_is)
    (case a_Reader_init => k_is)
    (case i_Reader_init => k_is)
    (case mk_Reader => k_is)
    (case kc_Reader => k_is)
    (case l_Reader_init => k_is)
    (case c_Reader_init => k_is)
    (case k_Reader_init => k_is)
    (case a_Reader_tally => k_is)
    (case i_Reader_tally => k_is)
    (case l_Reader_tally => k_is)
    (case c_Reader_tally => k_is)
    (case k_Reader_tally => k_is)
    (case a_Reader_is_open => k_is)
    (case i_Reader_is_open => k_is)
    (case l_Reader_is_open => k_is)
    (case c_Reader_is_open => k_is)
    (case k_Reader_is_open => k_is)
    (case a_is_setA => k_is)
    (case l_is_setA => k_is)
    (case c_is_setA => k_is)
    (case k_is_setA => k_is)
    (case a_Reader_take_frame => k_is)
    (case i_Reader_take_frame => k_is)
    (case l_Reader_take_frame => k_is)
    (case c_Reader_take_frame => k_is)
    (case k_Reader_take_frame => k_is)
    (case a_Reader_take_packet => k_is)
    (case i_Reader_take_packet => k_is)
    (case l_Reader_take_packet => k_is)
    (case c_Reader_take_packet => k_is)
    (case k_Reader_take_packet => k_is)
    (case a_Reader_take_set => k_is)
    (case i_Reader_take_set => k_is)
    (case l_Reader_take_set => k_is)
    (case c_Reader_take_set => k_is)
    (case k_Reader_take_set => k_is)
    (case a_integer_of => k_is)
    (case l_integer_of => k_is)
    (case c_integer_of => k_is)
    (case k_integer_of => k_is)
    (case a_Reader_read => k_is)
    (case i_Reader_read => k_is)
    (case l_Reader_read => k_is)
    (case c_Reader_read => k_is)
    (case k_Reader_read => k_is)
    (case a_line_of => k_is)
    (case l_line_of => k_is)
    (case c_line_of => k_is)
    (case k_line_of => k_is)
    (case a_format_film => k_is)
    (case l_format_film => k_is)
    (case c_format_film => k_is)
    (case k_format_film => k_is)
    (case a_parse_film => k_is)
    (case l_parse_film => k_is)
    (case c_parse_film => k_is)
    (case k_parse_film => k_is)
    (case a_l_pen => k_is)
    (case l_l_pen => k_is)
    (case c_l_pen => k_is)
    (case k_l_pen => k_is)
    (case a_l_next => k_is)
    (case l_l_next => k_is)
    (case c_l_next => k_is)
    (case k_l_next => k_is)
    (case a_l_draw => k_is)
    (case l_l_draw => k_is)
    (case c_l_draw => k_is)
    (case k_l_draw => k_is)
    (case a_l_some => k_is)
    (case l_l_some => k_is)
    (case c_l_some => k_is)
    (case k_l_some => k_is)
    (case a_l_groups => k_is)
    (case l_l_groups => k_is)
    (case c_l_groups => k_is)
    (case k_l_groups => k_is)
    (case a_l_bytes => k_is)
    (case l_l_bytes => k_is)
    (case c_l_bytes => k_is)
    (case k_l_bytes => k_is)
    (case a_l_shape => k_is)
    (case l_l_shape => k_is)
    (case c_l_shape => k_is)
    (case k_l_shape => k_is)
    (case a_l_film => k_is)
    (case l_l_film => k_is)
    (case c_l_film => k_is)
    (case k_l_film => k_is)
    (case a_l_lines => k_is)
    (case l_l_lines => k_is)
    (case c_l_lines => k_is)
    (case k_l_lines => k_is)
    (case a_law => k_is)
    (case l_law => k_is)
    (case c_law => k_is)
    (case k_law => k_is)
    (case z_all => k_is)
    (case z_bool => k_is)
    (case z_enumerate => k_is)
    (case z_int => k_is)
    (case z_isinstance => k_is)
    (case z_len => k_is)
    (case z_list => k_is)
    (case z_max => k_is)
    (case z_min => k_is)
    (case z_range => k_is)
    (case z_repr => k_is)
    (case z_set => k_is)
    (case z_sorted => k_is)
    (case z_str => k_is)
    (case z_sum => k_is)
    (case z_tuple => k_is)
    (case g_FIGURES => k_is)
    (case g_MAX_BYTE => k_is)
    (case g_MAX_PACKETS => k_is)
    (case g_MAX_SETS => k_is)
    (case g_MAX_SIZE => k_is)
    (case hnx => k_is)
    (case htx => k_is)
    (case s_NoneType_Cover => k_is)
    (case s_NoneType_Film => k_is)
    (case s_bool_Cover => k_is)
    (case s_bool_Film => k_is)
    (case s_int_Cover => k_is)
    (case s_int_Film => k_is)
    (case s_str_Cover => k_is)
    (case s_str_Film => k_is)
    (case s_list_Cover => k_is)
    (case s_list_Film => k_is)
    (case s_tuple_Cover => k_is)
    (case s_tuple_Film => k_is)
    (case s_dict_Cover => k_is)
    (case s_dict_Film => k_is)
    (case s_Cover_Cover => k_is)
    (case s_Cover_Film => k_is)
    (case s_Film_Film => k_is)
    (case s_Film_Cover => k_is)
