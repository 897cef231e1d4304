import PyProof.Rows.All
import Wide.All
import OpenK.AllK
import Wide.FinOn
import PySem.Challenge.RW_nn0065_01
open PySem PySem.W PyProof.Rows PyProof.V PySem.Spec PySem.Calls
set_option Elab.async false
namespace Mine
set_option maxRecDepth 100000
set_option maxHeartbeats 4000000
set_option rowWalk.seconds 0
set_option linter.all false
local macro_rules | `(tactic| walk_at $s:str) => `(tactic| k_extra $s)
theorem sf : PySem.Manifest.find? = PySem.Manifest.find? := rfl
name_quick tw10007627690174824804 for Manifest.find? by sf
name_quick tw10010936943081839664 for Manifest.find? by sf
name_quick tw10015664371746657536 for Manifest.find? by sf
name_quick tw10028428298569065181 for Manifest.find? by sf
name_quick tw10040787053062605231 for Manifest.find? by sf
name_quick tw10042830170769951172 for Manifest.find? by sf
name_quick tw10045867985992453528 for Manifest.find? by sf
name_quick tw10073347824450446311 for Manifest.find? by sf
name_quick tw10093032338203421213 for Manifest.find? by sf
name_quick tw10138199336372458610 for Manifest.find? by sf
name_quick tw10181792811725400092 for Manifest.find? by sf
name_quick tw10190238754879171395 for Manifest.find? by sf
name_quick tw10205541121877940668 for Manifest.find? by sf
name_quick tw10308316962582663543 for Manifest.find? by sf
name_quick tw10314498396905981064 for Manifest.find? by sf
name_quick tw10317580896714288900 for Manifest.find? by sf
name_quick tw10352308551163946355 for Manifest.find? by sf
name_quick tw10379131730601215995 for Manifest.find? by sf
name_quick tw1041845030581493396 for Manifest.find? by sf
name_quick tw10424941004445345732 for Manifest.find? by sf
name_quick tw10455430044892516648 for Manifest.find? by sf
name_quick tw10460931487171540145 for Manifest.find? by sf
name_quick tw10487160056961263569 for Manifest.find? by sf
name_quick tw10500077913531017323 for Manifest.find? by sf
name_quick tw10508251915553800215 for Manifest.find? by sf
name_quick tw10528696920762540405 for Manifest.find? by sf
name_quick tw10589684114461592954 for Manifest.find? by sf
name_quick tw10650810973499830745 for Manifest.find? by sf
name_quick tw10670733350059645105 for Manifest.find? by sf
name_quick tw10695241705296601692 for Manifest.find? by sf
name_quick tw10718892041063643863 for Manifest.find? by sf
name_quick tw10719484529398299949 for Manifest.find? by sf
name_quick tw10727534119236929211 for Manifest.find? by sf
name_quick tw10758392820592806131 for Manifest.find? by sf
name_quick tw10819683100428557426 for Manifest.find? by sf
name_quick tw10822648306257323946 for Manifest.find? by sf
name_quick tw10833955939284561965 for Manifest.find? by sf
name_quick tw1085346719588807367 for Manifest.find? by sf
name_quick tw10885399304501877467 for Manifest.find? by sf
name_quick tw10887116778572429059 for Manifest.find? by sf
name_quick tw10919533547850550483 for Manifest.find? by sf
name_quick tw1092655722715705105 for Manifest.find? by sf
name_quick tw10938465397075749097 for Manifest.find? by sf
name_quick tw10939839348159177617 for Manifest.find? by sf
name_quick tw10942035263794033107 for Manifest.find? by sf
name_quick tw10948738476641704880 for Manifest.find? by sf
name_quick tw10955440031540916060 for Manifest.find? by sf
name_quick tw10964334890339321822 for Manifest.find? by sf
name_quick tw10970087489707964778 for Manifest.find? by sf
name_quick tw10996506086634736982 for Manifest.find? by sf
name_quick tw11013792430000457035 for Manifest.find? by sf
name_quick tw1102190903223815498 for Manifest.find? by sf
name_quick tw11036193050239951465 for Manifest.find? by sf
name_quick tw1107438419126420414 for Manifest.find? by sf
name_quick tw11108263761283441063 for Manifest.find? by sf
name_quick tw11130039905162102590 for Manifest.find? by sf
name_quick tw11161088081135249708 for Manifest.find? by sf
name_quick tw11166942722945506595 for Manifest.find? by sf
name_quick tw11186114360453789277 for Manifest.find? by sf
name_quick tw11277413387252134812 for Manifest.find? by sf
name_quick tw11277716924127702174 for Manifest.find? by sf
name_quick tw11317593695737139937 for Manifest.find? by sf
name_quick tw11328821685186248670 for Manifest.find? by sf
name_quick tw11333186260410459676 for Manifest.find? by sf
name_quick tw1139862187096482527 for Manifest.find? by sf
name_quick tw11420187438672877268 for Manifest.find? by sf
name_quick tw11452132507678324671 for Manifest.find? by sf
name_quick tw11462045893675790159 for Manifest.find? by sf
name_quick tw11495947367809530248 for Manifest.find? by sf
name_quick tw11553025229960221969 for Manifest.find? by sf
name_quick tw1156252341971683116 for Manifest.find? by sf
name_quick tw11566699232636054958 for Manifest.find? by sf
name_quick tw11588390666370768167 for Manifest.find? by sf
name_quick tw11625766737575182897 for Manifest.find? by sf
name_quick tw11636919720809706868 for Manifest.find? by sf
name_quick tw11707371222683016368 for Manifest.find? by sf
name_quick tw11707433790658880453 for Manifest.find? by sf
name_quick tw117213463901210413 for Manifest.find? by sf
name_quick tw11740888236361828772 for Manifest.find? by sf
name_quick tw11767421526060770920 for Manifest.find? by sf
name_quick tw11788150170368784547 for Manifest.find? by sf
name_quick tw11790162104776037713 for Manifest.find? by sf
name_quick tw11796506867022685745 for Manifest.find? by sf
name_quick tw11817470609975844035 for Manifest.find? by sf
name_quick tw11825729669827539873 for Manifest.find? by sf
name_quick tw11838138170533393997 for Manifest.find? by sf
name_quick tw1184552218554016812 for Manifest.find? by sf
name_quick tw11853533878840232495 for Manifest.find? by sf
name_quick tw11863081143760314161 for Manifest.find? by sf
name_quick tw11891824955294080559 for Manifest.find? by sf
name_quick tw11892598404827812706 for Manifest.find? by sf
name_quick tw1189734492583310 for Manifest.find? by sf
name_quick tw11939915149646268982 for Manifest.find? by sf
name_quick tw11957962974430299695 for Manifest.find? by sf
name_quick tw12022618010286034681 for Manifest.find? by sf
name_quick tw12025208970609079342 for Manifest.find? by sf
name_quick tw1204117194425446250 for Manifest.find? by sf
name_quick tw12095823642532355627 for Manifest.find? by sf
name_quick tw1210750091971509897 for Manifest.find? by sf
name_quick tw12114495157272644582 for Manifest.find? by sf
name_quick tw12128325577817847261 for Manifest.find? by sf
name_quick tw12170303376835216750 for Manifest.find? by sf
name_quick tw12172078356533094185 for Manifest.find? by sf
name_quick tw12177649209318274912 for Manifest.find? by sf
name_quick tw1218959903707654005 for Manifest.find? by sf
name_quick tw12224578244612797663 for Manifest.find? by sf
name_quick tw12233582284571471492 for Manifest.find? by sf
name_quick tw12237943961548833269 for Manifest.find? by sf
name_quick tw12290603225136948437 for Manifest.find? by sf
name_quick tw12329403913580668285 for Manifest.find? by sf
name_quick tw12359285113459375979 for Manifest.find? by sf
name_quick tw12371321757623732685 for Manifest.find? by sf
name_quick tw12392613427281201732 for Manifest.find? by sf
name_quick tw12393455550290869266 for Manifest.find? by sf
name_quick tw12450158673883907302 for Manifest.find? by sf
name_quick tw12456492676567594705 for Manifest.find? by sf
name_quick tw12488000419048109807 for Manifest.find? by sf
name_quick tw12494133203773749484 for Manifest.find? by sf
name_quick tw12526863579885937616 for Manifest.find? by sf
name_quick tw12540713548012372134 for Manifest.find? by sf
name_quick tw1258299570235058372 for Manifest.find? by sf
name_quick tw1258717718454355964 for Manifest.find? by sf
name_quick tw12635297910168745909 for Manifest.find? by sf
name_quick tw12635813782599140982 for Manifest.find? by sf
name_quick tw12659028871203227004 for Manifest.find? by sf
name_quick tw12660628722211587041 for Manifest.find? by sf
name_quick tw1267870562809915468 for Manifest.find? by sf
name_quick tw12679591844961189642 for Manifest.find? by sf
name_quick tw12726346659333912481 for Manifest.find? by sf
name_quick tw12734952128020822468 for Manifest.find? by sf
name_quick tw127480219056107784 for Manifest.find? by sf
name_quick tw12809422525583811893 for Manifest.find? by sf
name_quick tw12821735335276811757 for Manifest.find? by sf
name_quick tw12825359941727978080 for Manifest.find? by sf
name_quick tw12827948138979301278 for Manifest.find? by sf
name_quick tw12832477231654346042 for Manifest.find? by sf
name_quick tw12835720964997663042 for Manifest.find? by sf
name_quick tw12850107946570832962 for Manifest.find? by sf
name_quick tw12898947447245864913 for Manifest.find? by sf
name_quick tw1291980286583624508 for Manifest.find? by sf
name_quick tw12945451867199242903 for Manifest.find? by sf
name_quick tw12945968074294007009 for Manifest.find? by sf
name_quick tw12973657651903071711 for Manifest.find? by sf
name_quick tw12981051755390344553 for Manifest.find? by sf
name_quick tw12989987162080215863 for Manifest.find? by sf
name_quick tw13002492023102617099 for Manifest.find? by sf
name_quick tw13016732220969518872 for Manifest.find? by sf
name_quick tw13036272033356848781 for Manifest.find? by sf
name_quick tw1305609685974793870 for Manifest.find? by sf
name_quick tw13102660428377437172 for Manifest.find? by sf
name_quick tw13141144453892091621 for Manifest.find? by sf
name_quick tw13145125596335152023 for Manifest.find? by sf
name_quick tw13156168479132978002 for Manifest.find? by sf
name_quick tw13160144027095335755 for Manifest.find? by sf
name_quick tw13180171748994924942 for Manifest.find? by sf
name_quick tw1320183511955256522 for Manifest.find? by sf
name_quick tw13215998728584607739 for Manifest.find? by sf
name_quick tw13254397897704925713 for Manifest.find? by sf
name_quick tw13314330512976039754 for Manifest.find? by sf
name_quick tw13317431791736044220 for Manifest.find? by sf
name_quick tw1333364371103165705 for Manifest.find? by sf
name_quick tw13335737130258781183 for Manifest.find? by sf
name_quick tw13342090788815261615 for Manifest.find? by sf
name_quick tw13427988762788590312 for Manifest.find? by sf
name_quick tw13471316229770301743 for Manifest.find? by sf
name_quick tw13505292571300825877 for Manifest.find? by sf
name_quick tw13512673800721320934 for Manifest.find? by sf
name_quick tw13526986893379352335 for Manifest.find? by sf
name_quick tw13551572312386263098 for Manifest.find? by sf
name_quick tw1355338860687761863 for Manifest.find? by sf
name_quick tw13559156169165276386 for Manifest.find? by sf
name_quick tw13580328829973926956 for Manifest.find? by sf
name_quick tw13581749221687468397 for Manifest.find? by sf
name_quick tw13607416678640721797 for Manifest.find? by sf
name_quick tw13615603153576403970 for Manifest.find? by sf
name_quick tw13640514254501968386 for Manifest.find? by sf
name_quick tw13642483538084851733 for Manifest.find? by sf
name_quick tw136631920214876835 for Manifest.find? by sf
name_quick tw13678640442995254988 for Manifest.find? by sf
name_quick tw13721567128424951087 for Manifest.find? by sf
name_quick tw13725850141900786883 for Manifest.find? by sf
name_quick tw13746126617404028095 for Manifest.find? by sf
name_quick tw13759679279233594173 for Manifest.find? by sf
name_quick tw1377046205977697930 for Manifest.find? by sf
name_quick tw13776390136698705113 for Manifest.find? by sf
name_quick tw13789449189825218787 for Manifest.find? by sf
name_quick tw13809362725867891129 for Manifest.find? by sf
name_quick tw13871001218405608335 for Manifest.find? by sf
name_quick tw13900631225919944168 for Manifest.find? by sf
name_quick tw13902233598862641821 for Manifest.find? by sf
name_quick tw13903129631018457399 for Manifest.find? by sf
name_quick tw13912434898499826684 for Manifest.find? by sf
name_quick tw13915792640404377917 for Manifest.find? by sf
name_quick tw13925586954763233925 for Manifest.find? by sf
name_quick tw13951202360752479828 for Manifest.find? by sf
name_quick tw13951257522405164796 for Manifest.find? by sf
name_quick tw139799656371268569 for Manifest.find? by sf
name_quick tw13981391230805400906 for Manifest.find? by sf
name_quick tw13987355940573415152 for Manifest.find? by sf
name_quick tw1401972060568974870 for Manifest.find? by sf
name_quick tw14023627001141898710 for Manifest.find? by sf
name_quick tw1402947280878808549 for Manifest.find? by sf
name_quick tw14043711374191979534 for Manifest.find? by sf
name_quick tw14073706353221006472 for Manifest.find? by sf
name_quick tw14096952598973939363 for Manifest.find? by sf
name_quick tw14097648870716263351 for Manifest.find? by sf
name_quick tw14108194823987119177 for Manifest.find? by sf
name_quick tw14112274594779413971 for Manifest.find? by sf
name_quick tw14126943448341045398 for Manifest.find? by sf
name_quick tw1414301608579184545 for Manifest.find? by sf
name_quick tw14168537005229113720 for Manifest.find? by sf
name_quick tw14185684948912167051 for Manifest.find? by sf
name_quick tw1419416864934026935 for Manifest.find? by sf
name_quick tw14209830616999942402 for Manifest.find? by sf
name_quick tw14210447440969649564 for Manifest.find? by sf
name_quick tw14214133299417103183 for Manifest.find? by sf
name_quick tw14223099787259518943 for Manifest.find? by sf
name_quick tw14224011070414065920 for Manifest.find? by sf
name_quick tw1423138165483278961 for Manifest.find? by sf
name_quick tw14285029430470858289 for Manifest.find? by sf
name_quick tw14311459727803291754 for Manifest.find? by sf
name_quick tw14326252917377295143 for Manifest.find? by sf
name_quick tw14333388528381170442 for Manifest.find? by sf
name_quick tw14364280277409689854 for Manifest.find? by sf
name_quick tw14386061602966655976 for Manifest.find? by sf
name_quick tw14420389602138693270 for Manifest.find? by sf
name_quick tw14427280190107063356 for Manifest.find? by sf
name_quick tw14433975572909055671 for Manifest.find? by sf
name_quick tw14489655085307688843 for Manifest.find? by sf
name_quick tw14530364306720264245 for Manifest.find? by sf
name_quick tw14537914154153760125 for Manifest.find? by sf
name_quick tw14544052848187043789 for Manifest.find? by sf
name_quick tw14553827428707814869 for Manifest.find? by sf
name_quick tw14714103240675001986 for Manifest.find? by sf
name_quick tw14763704009068828915 for Manifest.find? by sf
name_quick tw14766643958189025262 for Manifest.find? by sf
name_quick tw14778209649434054790 for Manifest.find? by sf
name_quick tw14821650378409806113 for Manifest.find? by sf
name_quick tw148260917463534702 for Manifest.find? by sf
name_quick tw14837249469386935497 for Manifest.find? by sf
name_quick tw14874922208557711187 for Manifest.find? by sf
name_quick tw14884601019740666482 for Manifest.find? by sf
name_quick tw14896874001708588922 for Manifest.find? by sf
name_quick tw14907048974825807369 for Manifest.find? by sf
name_quick tw14909702598903578594 for Manifest.find? by sf
name_quick tw14934708107589980039 for Manifest.find? by sf
name_quick tw14952990662201256454 for Manifest.find? by sf
name_quick tw1495452243305574823 for Manifest.find? by sf
name_quick tw14971970265804392439 for Manifest.find? by sf
name_quick tw14973007898608030118 for Manifest.find? by sf
name_quick tw14974422364763868477 for Manifest.find? by sf
name_quick tw14979626087600564940 for Manifest.find? by sf
name_quick tw14981143343336467331 for Manifest.find? by sf
name_quick tw15007238320947547705 for Manifest.find? by sf
name_quick tw15020028541594565831 for Manifest.find? by sf
name_quick tw1503297043503765363 for Manifest.find? by sf
name_quick tw15034313371233782410 for Manifest.find? by sf
name_quick tw15039117976438264115 for Manifest.find? by sf
name_quick tw15059462757989803610 for Manifest.find? by sf
name_quick tw15066959818950650227 for Manifest.find? by sf
name_quick tw15079194523842364033 for Manifest.find? by sf
name_quick tw15112985482279097393 for Manifest.find? by sf
name_quick tw15157221202141545114 for Manifest.find? by sf
name_quick tw15168306246750427876 for Manifest.find? by sf
name_quick tw15194748194917737719 for Manifest.find? by sf
name_quick tw151948405760981731 for Manifest.find? by sf
name_quick tw15199281503961881116 for Manifest.find? by sf
name_quick tw15202239659555905331 for Manifest.find? by sf
name_quick tw15207642765257501584 for Manifest.find? by sf
name_quick tw15263041282635125899 for Manifest.find? by sf
name_quick tw15278061642289888581 for Manifest.find? by sf
name_quick tw15293694290771056936 for Manifest.find? by sf
name_quick tw15315713394281565010 for Manifest.find? by sf
name_quick tw15323854079317868165 for Manifest.find? by sf
name_quick tw1536587703002861866 for Manifest.find? by sf
name_quick tw15423634916342008072 for Manifest.find? by sf
name_quick tw1544652992362985085 for Manifest.find? by sf
name_quick tw15468230090516036684 for Manifest.find? by sf
name_quick tw15475462885187679331 for Manifest.find? by sf
name_quick tw15480198773659482676 for Manifest.find? by sf
name_quick tw15490439104401381959 for Manifest.find? by sf
name_quick tw15542503528162795033 for Manifest.find? by sf
name_quick tw15542691292777871779 for Manifest.find? by sf
name_quick tw15560500314895047343 for Manifest.find? by sf
name_quick tw15560853006256673968 for Manifest.find? by sf
name_quick tw15562837088269578035 for Manifest.find? by sf
name_quick tw15663404670287596823 for Manifest.find? by sf
name_quick tw15736541856241217950 for Manifest.find? by sf
name_quick tw15742981410569661332 for Manifest.find? by sf
name_quick tw1574873078441994576 for Manifest.find? by sf
name_quick tw15766043655864335149 for Manifest.find? by sf
name_quick tw15781324953245214433 for Manifest.find? by sf
name_quick tw15806122291839087668 for Manifest.find? by sf
name_quick tw15808557625122938864 for Manifest.find? by sf
name_quick tw15823609455315575823 for Manifest.find? by sf
name_quick tw15879502402284234768 for Manifest.find? by sf
name_quick tw15880737140895825463 for Manifest.find? by sf
name_quick tw15894407043143930727 for Manifest.find? by sf
name_quick tw15900120412870309639 for Manifest.find? by sf
name_quick tw15902184279288820625 for Manifest.find? by sf
name_quick tw15919542637913265678 for Manifest.find? by sf
name_quick tw15965015591981942514 for Manifest.find? by sf
name_quick tw15980859228951719591 for Manifest.find? by sf
name_quick tw16018607276475445134 for Manifest.find? by sf
name_quick tw16039550372008468697 for Manifest.find? by sf
name_quick tw16049961110935095269 for Manifest.find? by sf
name_quick tw16060751757519763396 for Manifest.find? by sf
name_quick tw16127339712140622707 for Manifest.find? by sf
name_quick tw16145008321745377990 for Manifest.find? by sf
name_quick tw1615719349143574890 for Manifest.find? by sf
name_quick tw16169079960738659147 for Manifest.find? by sf
name_quick tw16172117957621229858 for Manifest.find? by sf
name_quick tw16176465441171805009 for Manifest.find? by sf
name_quick tw1617757218408452269 for Manifest.find? by sf
name_quick tw16180483070735683940 for Manifest.find? by sf
name_quick tw16180582048198870337 for Manifest.find? by sf
name_quick tw16189536214700107852 for Manifest.find? by sf
name_quick tw1620339239838986703 for Manifest.find? by sf
name_quick tw16223305294053301992 for Manifest.find? by sf
name_quick tw16241802466949684156 for Manifest.find? by sf
name_quick tw16280195873916505411 for Manifest.find? by sf
name_quick tw16289391198768371057 for Manifest.find? by sf
name_quick tw16296994325663420285 for Manifest.find? by sf
name_quick tw1631149150583789468 for Manifest.find? by sf
name_quick tw16326889199254633757 for Manifest.find? by sf
name_quick tw16328912562034613984 for Manifest.find? by sf
name_quick tw16339471991904476338 for Manifest.find? by sf
name_quick tw16349216596472256690 for Manifest.find? by sf
name_quick tw16349804527192203551 for Manifest.find? by sf
name_quick tw16350708796919097252 for Manifest.find? by sf
name_quick tw16366562015402752707 for Manifest.find? by sf
name_quick tw16374537267813192141 for Manifest.find? by sf
name_quick tw1638017585896720355 for Manifest.find? by sf
name_quick tw16406328271908756883 for Manifest.find? by sf
name_quick tw16413264400604254196 for Manifest.find? by sf
name_quick tw16413963553889246368 for Manifest.find? by sf
name_quick tw16414604833108395602 for Manifest.find? by sf
name_quick tw16417370028952169744 for Manifest.find? by sf
name_quick tw16437185098154296904 for Manifest.find? by sf
name_quick tw16439824349840649037 for Manifest.find? by sf
name_quick tw16451151925259046446 for Manifest.find? by sf
name_quick tw16474492168511960337 for Manifest.find? by sf
name_quick tw16494616584097029746 for Manifest.find? by sf
name_quick tw16538838601580470566 for Manifest.find? by sf
name_quick tw16548257151911338427 for Manifest.find? by sf
name_quick tw16593013826814733010 for Manifest.find? by sf
name_quick tw1662865533458754262 for Manifest.find? by sf
name_quick tw16643379632663270332 for Manifest.find? by sf
name_quick tw16643706677886111943 for Manifest.find? by sf
name_quick tw16644606511662114574 for Manifest.find? by sf
name_quick tw16645262185327669138 for Manifest.find? by sf
name_quick tw16648231224745350325 for Manifest.find? by sf
name_quick tw16655555454665732581 for Manifest.find? by sf
name_quick tw1667231139898017245 for Manifest.find? by sf
name_quick tw16697116713213952808 for Manifest.find? by sf
name_quick tw16741492637210864865 for Manifest.find? by sf
name_quick tw16752143609539240740 for Manifest.find? by sf
name_quick tw16758808235637498351 for Manifest.find? by sf
name_quick tw16792545251062261874 for Manifest.find? by sf
name_quick tw16846860572762119324 for Manifest.find? by sf
name_quick tw16869277618539721502 for Manifest.find? by sf
name_quick tw16873187988247708562 for Manifest.find? by sf
name_quick tw16874561944515371726 for Manifest.find? by sf
name_quick tw16916688483869632129 for Manifest.find? by sf
name_quick tw16942194440817826258 for Manifest.find? by sf
name_quick tw16942504070071679284 for Manifest.find? by sf
name_quick tw16947794391021106201 for Manifest.find? by sf
name_quick tw16950312913027304927 for Manifest.find? by sf
name_quick tw16966814322356759819 for Manifest.find? by sf
name_quick tw16979880578912567463 for Manifest.find? by sf
name_quick tw17000458434675057986 for Manifest.find? by sf
name_quick tw17001327861769816259 for Manifest.find? by sf
name_quick tw17015423121036801654 for Manifest.find? by sf
name_quick tw17018628822417861297 for Manifest.find? by sf
name_quick tw17020146562604978829 for Manifest.find? by sf
name_quick tw17020626225693228618 for Manifest.find? by sf
name_quick tw17024950926791866790 for Manifest.find? by sf
name_quick tw1702518465993881591 for Manifest.find? by sf
name_quick tw17045043414572947948 for Manifest.find? by sf
name_quick tw17057272898397164401 for Manifest.find? by sf
name_quick tw1706496860858754268 for Manifest.find? by sf
name_quick tw17068924515734577466 for Manifest.find? by sf
name_quick tw17069979004554194336 for Manifest.find? by sf
name_quick tw17071476683966804577 for Manifest.find? by sf
name_quick tw1708024556718086227 for Manifest.find? by sf
name_quick tw17101871299007795629 for Manifest.find? by sf
name_quick tw17111948838632640456 for Manifest.find? by sf
name_quick tw17138261911001417010 for Manifest.find? by sf
name_quick tw17139780236743587250 for Manifest.find? by sf
name_quick tw17172517015917474193 for Manifest.find? by sf
name_quick tw17183712847048597117 for Manifest.find? by sf
name_quick tw17244072584429378644 for Manifest.find? by sf
name_quick tw17274371674624000324 for Manifest.find? by sf
name_quick tw17279654841073493023 for Manifest.find? by sf
name_quick tw17280976486791472633 for Manifest.find? by sf
name_quick tw17300597898927385350 for Manifest.find? by sf
name_quick tw17318589155259679147 for Manifest.find? by sf
name_quick tw17325535178939296128 for Manifest.find? by sf
name_quick tw17341736924252097559 for Manifest.find? by sf
name_quick tw17344680358763864322 for Manifest.find? by sf
name_quick tw17352973434858128600 for Manifest.find? by sf
name_quick tw1735497430108182060 for Manifest.find? by sf
name_quick tw17394056326795013819 for Manifest.find? by sf
name_quick tw17429684086410527887 for Manifest.find? by sf
name_quick tw17434858337260393937 for Manifest.find? by sf
name_quick tw17471792292518334328 for Manifest.find? by sf
name_quick tw17475289236778735526 for Manifest.find? by sf
name_quick tw17476080006546285661 for Manifest.find? by sf
name_quick tw17497748084772794779 for Manifest.find? by sf
name_quick tw17503288770812694035 for Manifest.find? by sf
name_quick tw17517737089405305841 for Manifest.find? by sf
name_quick tw17520869792638436183 for Manifest.find? by sf
name_quick tw17532440430192770315 for Manifest.find? by sf
name_quick tw17532718790514356516 for Manifest.find? by sf
name_quick tw17537794083376710389 for Manifest.find? by sf
name_quick tw17552769576498331613 for Manifest.find? by sf
name_quick tw17554001833073541016 for Manifest.find? by sf
name_quick tw17596809139577655471 for Manifest.find? by sf
name_quick tw17672482021469178181 for Manifest.find? by sf
name_quick tw17679261114430710190 for Manifest.find? by sf
name_quick tw1771862750571323454 for Manifest.find? by sf
name_quick tw17727738676932873817 for Manifest.find? by sf
name_quick tw17730428716208468724 for Manifest.find? by sf
name_quick tw17730448691065144110 for Manifest.find? by sf
name_quick tw17765544955259793912 for Manifest.find? by sf
name_quick tw17768419659990539469 for Manifest.find? by sf
name_quick tw17774800907425398282 for Manifest.find? by sf
name_quick tw17803129079492736432 for Manifest.find? by sf
name_quick tw17804436615005485693 for Manifest.find? by sf
name_quick tw17814930658547583709 for Manifest.find? by sf
name_quick tw17815586953681464072 for Manifest.find? by sf
name_quick tw17827458813498177553 for Manifest.find? by sf
name_quick tw17828083071136270317 for Manifest.find? by sf
name_quick tw17842620306162639686 for Manifest.find? by sf
name_quick tw17846936440860909165 for Manifest.find? by sf
name_quick tw17853915177807527196 for Manifest.find? by sf
name_quick tw17863021456227041891 for Manifest.find? by sf
name_quick tw17888162413812561239 for Manifest.find? by sf
name_quick tw17899373020297197333 for Manifest.find? by sf
name_quick tw17913803186225011329 for Manifest.find? by sf
name_quick tw17919728810627054236 for Manifest.find? by sf
name_quick tw17943406268862710625 for Manifest.find? by sf
name_quick tw17945601986348317505 for Manifest.find? by sf
name_quick tw17954471519018878134 for Manifest.find? by sf
name_quick tw17964007177503468958 for Manifest.find? by sf
name_quick tw17975652961387846372 for Manifest.find? by sf
name_quick tw17988542015724977305 for Manifest.find? by sf
name_quick tw17993156020533580102 for Manifest.find? by sf
name_quick tw18011898689540126615 for Manifest.find? by sf
name_quick tw18034167525097398909 for Manifest.find? by sf
name_quick tw18056578402003937789 for Manifest.find? by sf
name_quick tw18101931140130867144 for Manifest.find? by sf
name_quick tw18123110421147349612 for Manifest.find? by sf
name_quick tw18126140380344562322 for Manifest.find? by sf
name_quick tw18163462532019968843 for Manifest.find? by sf
name_quick tw18163708392712065173 for Manifest.find? by sf
name_quick tw18188234029961486008 for Manifest.find? by sf
name_quick tw18204670186409712195 for Manifest.find? by sf
name_quick tw18211773271919218964 for Manifest.find? by sf
name_quick tw18220123701641295943 for Manifest.find? by sf
name_quick tw18263319221461684349 for Manifest.find? by sf
name_quick tw18273839248471157720 for Manifest.find? by sf
name_quick tw18283703058932287227 for Manifest.find? by sf
name_quick tw1829445100760108279 for Manifest.find? by sf
name_quick tw18310272354389090212 for Manifest.find? by sf
name_quick tw18340240734955500558 for Manifest.find? by sf
name_quick tw18345786424863182364 for Manifest.find? by sf
name_quick tw18350638575300117064 for Manifest.find? by sf
name_quick tw18371169792594650754 for Manifest.find? by sf
name_quick tw183835017167291270 for Manifest.find? by sf
name_quick tw18386054884457128365 for Manifest.find? by sf
name_quick tw18410474027866654770 for Manifest.find? by sf
name_quick tw18416463498863911781 for Manifest.find? by sf
name_quick tw18428756778242999024 for Manifest.find? by sf
name_quick tw1869930749605803152 for Manifest.find? by sf
name_quick tw1886563365779066154 for Manifest.find? by sf
name_quick tw189603312586018693 for Manifest.find? by sf
name_quick tw1916944219915559503 for Manifest.find? by sf
name_quick tw1962928258387122110 for Manifest.find? by sf
name_quick tw196644378293983589 for Manifest.find? by sf
name_quick tw2001226814458364393 for Manifest.find? by sf
name_quick tw2011108890870493169 for Manifest.find? by sf
name_quick tw2039238271031011813 for Manifest.find? by sf
name_quick tw2078703811421203504 for Manifest.find? by sf
name_quick tw2088544591296533915 for Manifest.find? by sf
name_quick tw2134368852220247820 for Manifest.find? by sf
name_quick tw2193789692954389824 for Manifest.find? by sf
name_quick tw219737044198020058 for Manifest.find? by sf
name_quick tw2283851925072248500 for Manifest.find? by sf
name_quick tw2302674139485633275 for Manifest.find? by sf
name_quick tw2315820567201803617 for Manifest.find? by sf
name_quick tw2334299552400917057 for Manifest.find? by sf
name_quick tw2354101950205528012 for Manifest.find? by sf
name_quick tw2364824441312284604 for Manifest.find? by sf
name_quick tw2370070277545300124 for Manifest.find? by sf
name_quick tw2378363196638174374 for Manifest.find? by sf
name_quick tw2387720566874501970 for Manifest.find? by sf
name_quick tw2401699919119007470 for Manifest.find? by sf
name_quick tw2422670821966735624 for Manifest.find? by sf
name_quick tw2447775223705975068 for Manifest.find? by sf
name_quick tw2460228577881660442 for Manifest.find? by sf
name_quick tw2478078296215019888 for Manifest.find? by sf
name_quick tw2504098582860672743 for Manifest.find? by sf
name_quick tw2506853364499732696 for Manifest.find? by sf
name_quick tw2569364866550412066 for Manifest.find? by sf
name_quick tw2594094664786655113 for Manifest.find? by sf
name_quick tw2599325451414397859 for Manifest.find? by sf
name_quick tw2611137233208623240 for Manifest.find? by sf
name_quick tw2627984346626558326 for Manifest.find? by sf
name_quick tw2630636929177951898 for Manifest.find? by sf
name_quick tw2660918139993853925 for Manifest.find? by sf
name_quick tw2664551874359636763 for Manifest.find? by sf
name_quick tw2670528217467546775 for Manifest.find? by sf
name_quick tw2674190319118857908 for Manifest.find? by sf
name_quick tw2719445374943340272 for Manifest.find? by sf
name_quick tw2735471455948067141 for Manifest.find? by sf
name_quick tw2736616831223182526 for Manifest.find? by sf
name_quick tw2759451637364818457 for Manifest.find? by sf
name_quick tw282004115355043989 for Manifest.find? by sf
name_quick tw2862820112641550484 for Manifest.find? by sf
name_quick tw2863104935802047882 for Manifest.find? by sf
name_quick tw2902314222560053993 for Manifest.find? by sf
name_quick tw2905824091091238844 for Manifest.find? by sf
name_quick tw2922074901204462755 for Manifest.find? by sf
name_quick tw293829605474521371 for Manifest.find? by sf
name_quick tw2948108419219029167 for Manifest.find? by sf
name_quick tw2951486255847992690 for Manifest.find? by sf
name_quick tw2958062672499776758 for Manifest.find? by sf
name_quick tw2968979199505139716 for Manifest.find? by sf
name_quick tw3039592710220408265 for Manifest.find? by sf
name_quick tw3094477031063562474 for Manifest.find? by sf
name_quick tw3118938333895590913 for Manifest.find? by sf
name_quick tw3131671291697673992 for Manifest.find? by sf
name_quick tw313226197891681235 for Manifest.find? by sf
name_quick tw3142773779024712118 for Manifest.find? by sf
name_quick tw3148276903521382524 for Manifest.find? by sf
name_quick tw3149940706203789266 for Manifest.find? by sf
name_quick tw3152983702415266003 for Manifest.find? by sf
name_quick tw3209381107111851631 for Manifest.find? by sf
name_quick tw3256587380925597060 for Manifest.find? by sf
name_quick tw3267979357774110234 for Manifest.find? by sf
name_quick tw3282434896037501709 for Manifest.find? by sf
name_quick tw3302314484089059179 for Manifest.find? by sf
name_quick tw3315324234476444515 for Manifest.find? by sf
name_quick tw3325841961599345399 for Manifest.find? by sf
name_quick tw3327986453032591115 for Manifest.find? by sf
name_quick tw3345107109950449737 for Manifest.find? by sf
name_quick tw3355348695024010778 for Manifest.find? by sf
name_quick tw3362959441861295915 for Manifest.find? by sf
name_quick tw3365093317950918147 for Manifest.find? by sf
name_quick tw3386650904741475044 for Manifest.find? by sf
name_quick tw3424931102881643321 for Manifest.find? by sf
name_quick tw3436264866546951355 for Manifest.find? by sf
name_quick tw3442601649717412197 for Manifest.find? by sf
name_quick tw3460871413274159568 for Manifest.find? by sf
name_quick tw347637069881736656 for Manifest.find? by sf
name_quick tw3504847659760329788 for Manifest.find? by sf
name_quick tw3545756843259802059 for Manifest.find? by sf
name_quick tw3560238982266916124 for Manifest.find? by sf
name_quick tw3577408171920636059 for Manifest.find? by sf
name_quick tw3619232141914619222 for Manifest.find? by sf
name_quick tw3633577522364906407 for Manifest.find? by sf
name_quick tw3636048126100218174 for Manifest.find? by sf
name_quick tw3695515675974049574 for Manifest.find? by sf
name_quick tw3740020263889925745 for Manifest.find? by sf
name_quick tw3764465048917985505 for Manifest.find? by sf
name_quick tw3766158894648301139 for Manifest.find? by sf
name_quick tw3768068617246420682 for Manifest.find? by sf
name_quick tw3797612339304411714 for Manifest.find? by sf
name_quick tw3825061337978711158 for Manifest.find? by sf
name_quick tw3826639566459466600 for Manifest.find? by sf
name_quick tw383695940523520267 for Manifest.find? by sf
name_quick tw3856783459128436802 for Manifest.find? by sf
name_quick tw387338674003428930 for Manifest.find? by sf
name_quick tw3880421473898291048 for Manifest.find? by sf
name_quick tw3889259530307233657 for Manifest.find? by sf
name_quick tw3891137856419664920 for Manifest.find? by sf
name_quick tw389472881494512206 for Manifest.find? by sf
name_quick tw39160002569200845 for Manifest.find? by sf
name_quick tw392140993173905013 for Manifest.find? by sf
name_quick tw3952652319720093869 for Manifest.find? by sf
name_quick tw3953757239420563355 for Manifest.find? by sf
name_quick tw396607853666888187 for Manifest.find? by sf
name_quick tw3972328310683599613 for Manifest.find? by sf
name_quick tw4011157648589011858 for Manifest.find? by sf
name_quick tw4039474712603431140 for Manifest.find? by sf
name_quick tw4042386549635913901 for Manifest.find? by sf
name_quick tw4071324889030633612 for Manifest.find? by sf
name_quick tw4090926877573551719 for Manifest.find? by sf
name_quick tw4109823476700235019 for Manifest.find? by sf
name_quick tw4111355340424721971 for Manifest.find? by sf
name_quick tw4224760802259116069 for Manifest.find? by sf
name_quick tw4275521005467322725 for Manifest.find? by sf
name_quick tw4278798014809849964 for Manifest.find? by sf
name_quick tw4287028408620065468 for Manifest.find? by sf
name_quick tw4299136966843209011 for Manifest.find? by sf
name_quick tw4302124980754421698 for Manifest.find? by sf
name_quick tw4318056027017086478 for Manifest.find? by sf
name_quick tw43969757491396457 for Manifest.find? by sf
name_quick tw4407734736301137906 for Manifest.find? by sf
name_quick tw441327347791068078 for Manifest.find? by sf
name_quick tw4434333111790514575 for Manifest.find? by sf
name_quick tw4461812800195623881 for Manifest.find? by sf
name_quick tw447715330943862342 for Manifest.find? by sf
name_quick tw4515677705193469861 for Manifest.find? by sf
name_quick tw4525517667737911620 for Manifest.find? by sf
name_quick tw4527066259768149269 for Manifest.find? by sf
name_quick tw4552823106982906706 for Manifest.find? by sf
name_quick tw4558998842232669794 for Manifest.find? by sf
name_quick tw4575980220486274672 for Manifest.find? by sf
name_quick tw4613930686462287906 for Manifest.find? by sf
name_quick tw4636218855388986860 for Manifest.find? by sf
name_quick tw4658958612460137192 for Manifest.find? by sf
name_quick tw4679858250743294509 for Manifest.find? by sf
name_quick tw4681523508651956083 for Manifest.find? by sf
name_quick tw470574548607681690 for Manifest.find? by sf
name_quick tw4748654258956052638 for Manifest.find? by sf
name_quick tw4772358819061665856 for Manifest.find? by sf
name_quick tw4775785305629353868 for Manifest.find? by sf
name_quick tw4800724452203346748 for Manifest.find? by sf
name_quick tw482417222145425773 for Manifest.find? by sf
name_quick tw4824431525194463578 for Manifest.find? by sf
name_quick tw4858009861420398278 for Manifest.find? by sf
name_quick tw487364732245791922 for Manifest.find? by sf
name_quick tw4888971946704870899 for Manifest.find? by sf
name_quick tw4904739604578439355 for Manifest.find? by sf
name_quick tw4921902886906138986 for Manifest.find? by sf
name_quick tw4933834842325187142 for Manifest.find? by sf
name_quick tw4936483359421988267 for Manifest.find? by sf
name_quick tw4949472239710415697 for Manifest.find? by sf
name_quick tw4966893808263662355 for Manifest.find? by sf
name_quick tw4978915544186085027 for Manifest.find? by sf
name_quick tw4980102563643897964 for Manifest.find? by sf
name_quick tw5032809538720368765 for Manifest.find? by sf
name_quick tw505943868828395459 for Manifest.find? by sf
name_quick tw5068434257544371817 for Manifest.find? by sf
name_quick tw5076957145309523181 for Manifest.find? by sf
name_quick tw5082074563857973206 for Manifest.find? by sf
name_quick tw5111356299099525756 for Manifest.find? by sf
name_quick tw5135500740108067664 for Manifest.find? by sf
name_quick tw5144633987255907666 for Manifest.find? by sf
name_quick tw5149714755402479525 for Manifest.find? by sf
name_quick tw5152784196030571298 for Manifest.find? by sf
name_quick tw5189142188285759775 for Manifest.find? by sf
name_quick tw5221553953786025915 for Manifest.find? by sf
name_quick tw5228443966233409354 for Manifest.find? by sf
name_quick tw5247225353297040015 for Manifest.find? by sf
name_quick tw5248340912204065574 for Manifest.find? by sf
name_quick tw5268983451555188008 for Manifest.find? by sf
name_quick tw5289962621202845349 for Manifest.find? by sf
name_quick tw5303519439607764402 for Manifest.find? by sf
name_quick tw5310036984924271277 for Manifest.find? by sf
name_quick tw5315457868209417068 for Manifest.find? by sf
name_quick tw5345256250457102556 for Manifest.find? by sf
name_quick tw5349121933718820234 for Manifest.find? by sf
name_quick tw535072334866317008 for Manifest.find? by sf
name_quick tw5357591511691535388 for Manifest.find? by sf
name_quick tw5386766301290243201 for Manifest.find? by sf
name_quick tw5396446701170858492 for Manifest.find? by sf
name_quick tw5423003317807263696 for Manifest.find? by sf
name_quick tw5450187663091677483 for Manifest.find? by sf
name_quick tw5512085447785999860 for Manifest.find? by sf
name_quick tw5529568453561195837 for Manifest.find? by sf
name_quick tw5555313912996828296 for Manifest.find? by sf
name_quick tw5565278806992967083 for Manifest.find? by sf
name_quick tw558745408833754511 for Manifest.find? by sf
name_quick tw563124612126607214 for Manifest.find? by sf
name_quick tw5646442142991981755 for Manifest.find? by sf
name_quick tw5701610774189311196 for Manifest.find? by sf
name_quick tw5706481520468235054 for Manifest.find? by sf
name_quick tw5721027456603625697 for Manifest.find? by sf
name_quick tw5732905514179830355 for Manifest.find? by sf
name_quick tw5758256569797452207 for Manifest.find? by sf
name_quick tw5770868932273138760 for Manifest.find? by sf
name_quick tw5823794197072137003 for Manifest.find? by sf
name_quick tw5832503352825792928 for Manifest.find? by sf
name_quick tw5854881644878751223 for Manifest.find? by sf
name_quick tw5862295025349918931 for Manifest.find? by sf
name_quick tw5889167727604068794 for Manifest.find? by sf
name_quick tw5923252988546675246 for Manifest.find? by sf
name_quick tw5925582254088234700 for Manifest.find? by sf
name_quick tw5936146933674214641 for Manifest.find? by sf
name_quick tw5950129339639070837 for Manifest.find? by sf
name_quick tw5952267759425050802 for Manifest.find? by sf
name_quick tw5964786160019209400 for Manifest.find? by sf
name_quick tw5971964048767367048 for Manifest.find? by sf
name_quick tw5976474108018559520 for Manifest.find? by sf
name_quick tw6004533443673955352 for Manifest.find? by sf
name_quick tw6012508502120743258 for Manifest.find? by sf
name_quick tw6019396324639902685 for Manifest.find? by sf
name_quick tw6059929106960060952 for Manifest.find? by sf
name_quick tw6067969926502872990 for Manifest.find? by sf
name_quick tw607167704815816724 for Manifest.find? by sf
name_quick tw608726401823008365 for Manifest.find? by sf
name_quick tw6090905460779295987 for Manifest.find? by sf
name_quick tw6122645084068987007 for Manifest.find? by sf
name_quick tw6123655918767846522 for Manifest.find? by sf
name_quick tw6125931036764729998 for Manifest.find? by sf
name_quick tw6127375697748050860 for Manifest.find? by sf
name_quick tw6132934438814934913 for Manifest.find? by sf
name_quick tw6135381517318000843 for Manifest.find? by sf
name_quick tw6144853644547557980 for Manifest.find? by sf
name_quick tw6148621092414575339 for Manifest.find? by sf
name_quick tw618205885557783147 for Manifest.find? by sf
name_quick tw6213141578215901147 for Manifest.find? by sf
name_quick tw6214688769961185500 for Manifest.find? by sf
name_quick tw6245536207120538393 for Manifest.find? by sf
name_quick tw6250672158363226905 for Manifest.find? by sf
name_quick tw6363645014702824404 for Manifest.find? by sf
name_quick tw6380047634161181297 for Manifest.find? by sf
name_quick tw6380782515089751550 for Manifest.find? by sf
name_quick tw6413352556884856545 for Manifest.find? by sf
name_quick tw6426273055680023932 for Manifest.find? by sf
name_quick tw6434138532213402376 for Manifest.find? by sf
name_quick tw6434265647005701932 for Manifest.find? by sf
name_quick tw6448080314894763839 for Manifest.find? by sf
name_quick tw6519424955469430661 for Manifest.find? by sf
name_quick tw6550987210724342151 for Manifest.find? by sf
name_quick tw6580340599500149305 for Manifest.find? by sf
name_quick tw6587116730350146372 for Manifest.find? by sf
name_quick tw6589095468515690095 for Manifest.find? by sf
name_quick tw6607189417530752870 for Manifest.find? by sf
name_quick tw662354867322794072 for Manifest.find? by sf
name_quick tw6654550962395885724 for Manifest.find? by sf
name_quick tw6662432510661729299 for Manifest.find? by sf
name_quick tw667198328695590252 for Manifest.find? by sf
name_quick tw6679490504615227074 for Manifest.find? by sf
name_quick tw6683783046931543321 for Manifest.find? by sf
name_quick tw6711915476519705758 for Manifest.find? by sf
name_quick tw6714822604882049554 for Manifest.find? by sf
name_quick tw6785545609137376427 for Manifest.find? by sf
name_quick tw6789855027759293466 for Manifest.find? by sf
name_quick tw6792406925840432001 for Manifest.find? by sf
name_quick tw6813294653679155843 for Manifest.find? by sf
name_quick tw6817277305950994716 for Manifest.find? by sf
name_quick tw682011567655089306 for Manifest.find? by sf
name_quick tw6832808476680081064 for Manifest.find? by sf
name_quick tw6834602518627153040 for Manifest.find? by sf
name_quick tw686183698351167624 for Manifest.find? by sf
name_quick tw6891000109920058784 for Manifest.find? by sf
name_quick tw6909570525239066004 for Manifest.find? by sf
name_quick tw6917869754434977982 for Manifest.find? by sf
name_quick tw6929956602132211858 for Manifest.find? by sf
name_quick tw6944952908185719654 for Manifest.find? by sf
name_quick tw6967401301877209104 for Manifest.find? by sf
name_quick tw6980910045739468074 for Manifest.find? by sf
name_quick tw6990963922061375149 for Manifest.find? by sf
name_quick tw6993175162768986339 for Manifest.find? by sf
name_quick tw7009043117176579089 for Manifest.find? by sf
name_quick tw7035115661146626270 for Manifest.find? by sf
name_quick tw704327219915372674 for Manifest.find? by sf
name_quick tw7057405563618977329 for Manifest.find? by sf
name_quick tw7074795694173733578 for Manifest.find? by sf
name_quick tw7082770336023389322 for Manifest.find? by sf
name_quick tw7098571738820278039 for Manifest.find? by sf
name_quick tw7112787868492120936 for Manifest.find? by sf
name_quick tw7140130562030077042 for Manifest.find? by sf
name_quick tw716658179208862652 for Manifest.find? by sf
name_quick tw7191607858210974391 for Manifest.find? by sf
name_quick tw7198390536060210744 for Manifest.find? by sf
name_quick tw721709456127091705 for Manifest.find? by sf
name_quick tw7229665172594901996 for Manifest.find? by sf
name_quick tw7231524377534056507 for Manifest.find? by sf
name_quick tw7232422423428716515 for Manifest.find? by sf
name_quick tw724751600484774222 for Manifest.find? by sf
name_quick tw725871291056497461 for Manifest.find? by sf
name_quick tw7269565832213808900 for Manifest.find? by sf
name_quick tw7275051467321613617 for Manifest.find? by sf
name_quick tw7276740287692124622 for Manifest.find? by sf
name_quick tw727755081109462179 for Manifest.find? by sf
name_quick tw7286323032743288035 for Manifest.find? by sf
name_quick tw7299303143086499733 for Manifest.find? by sf
name_quick tw7299951869573292228 for Manifest.find? by sf
name_quick tw7323676302269181137 for Manifest.find? by sf
name_quick tw7344376507651311505 for Manifest.find? by sf
name_quick tw7365555872484859036 for Manifest.find? by sf
name_quick tw7370013457144220937 for Manifest.find? by sf
name_quick tw7392212959928792091 for Manifest.find? by sf
name_quick tw7397068168572129948 for Manifest.find? by sf
name_quick tw7401281599722004195 for Manifest.find? by sf
name_quick tw7405434945208526273 for Manifest.find? by sf
name_quick tw7499937903120025604 for Manifest.find? by sf
name_quick tw7503421922109321716 for Manifest.find? by sf
name_quick tw7504490480230193789 for Manifest.find? by sf
name_quick tw7543195961347049332 for Manifest.find? by sf
name_quick tw7543618554067911206 for Manifest.find? by sf
name_quick tw7561037823649445926 for Manifest.find? by sf
name_quick tw757081541053455785 for Manifest.find? by sf
name_quick tw7573151900890175926 for Manifest.find? by sf
name_quick tw7574553109774388169 for Manifest.find? by sf
name_quick tw7581352650102555174 for Manifest.find? by sf
name_quick tw7618406622816332465 for Manifest.find? by sf
name_quick tw7619357645376055252 for Manifest.find? by sf
name_quick tw7641510929779896126 for Manifest.find? by sf
name_quick tw764782834095389478 for Manifest.find? by sf
name_quick tw7650934615059315214 for Manifest.find? by sf
name_quick tw7670514497116975361 for Manifest.find? by sf
name_quick tw774047393022817027 for Manifest.find? by sf
name_quick tw7745614565497352828 for Manifest.find? by sf
name_quick tw7783732958741208154 for Manifest.find? by sf
name_quick tw7788680626742099145 for Manifest.find? by sf
name_quick tw7892128664451923741 for Manifest.find? by sf
name_quick tw7987952416473584550 for Manifest.find? by sf
name_quick tw8017206721242287953 for Manifest.find? by sf
name_quick tw8032284361305108907 for Manifest.find? by sf
name_quick tw8075568018651887793 for Manifest.find? by sf
name_quick tw8098380416015320538 for Manifest.find? by sf
name_quick tw8119918657739134586 for Manifest.find? by sf
name_quick tw8123005709971320403 for Manifest.find? by sf
name_quick tw8125055898148337911 for Manifest.find? by sf
name_quick tw8162909057868654942 for Manifest.find? by sf
name_quick tw8180830640274347804 for Manifest.find? by sf
name_quick tw8206430501311747189 for Manifest.find? by sf
name_quick tw8224813933742928703 for Manifest.find? by sf
name_quick tw8253183596043897158 for Manifest.find? by sf
name_quick tw8283515000281207119 for Manifest.find? by sf
name_quick tw8376441433122354887 for Manifest.find? by sf
name_quick tw8385612375773290118 for Manifest.find? by sf
name_quick tw8400853705098224536 for Manifest.find? by sf
name_quick tw8424611434330503625 for Manifest.find? by sf
name_quick tw8430678208038309684 for Manifest.find? by sf
name_quick tw8450942572126056277 for Manifest.find? by sf
name_quick tw8473563963867554017 for Manifest.find? by sf
name_quick tw8488268690174267210 for Manifest.find? by sf
name_quick tw8540232549379673566 for Manifest.find? by sf
name_quick tw856264945809894966 for Manifest.find? by sf
name_quick tw8579058602437062094 for Manifest.find? by sf
name_quick tw8588708647495961459 for Manifest.find? by sf
name_quick tw8595292554425487202 for Manifest.find? by sf
name_quick tw8603108125212654177 for Manifest.find? by sf
name_quick tw8610040677353227653 for Manifest.find? by sf
name_quick tw8620020772036689432 for Manifest.find? by sf
name_quick tw8621552478659558853 for Manifest.find? by sf
name_quick tw8642067239939848140 for Manifest.find? by sf
name_quick tw8649964590619651473 for Manifest.find? by sf
name_quick tw8656719876789144132 for Manifest.find? by sf
name_quick tw8686407601681055034 for Manifest.find? by sf
name_quick tw8693227569615203950 for Manifest.find? by sf
name_quick tw8708707556590381134 for Manifest.find? by sf
name_quick tw8727135674562949291 for Manifest.find? by sf
name_quick tw8732485361984058174 for Manifest.find? by sf
name_quick tw8753696776887207221 for Manifest.find? by sf
name_quick tw8754896712405093172 for Manifest.find? by sf
name_quick tw8777329075199875621 for Manifest.find? by sf
name_quick tw8795123598061512290 for Manifest.find? by sf
name_quick tw8796240567053077481 for Manifest.find? by sf
name_quick tw8800560270773162519 for Manifest.find? by sf
name_quick tw8802822988693486460 for Manifest.find? by sf
name_quick tw8860024209350480642 for Manifest.find? by sf
name_quick tw8881496252177385917 for Manifest.find? by sf
name_quick tw8902219603052485911 for Manifest.find? by sf
name_quick tw8946543629884556368 for Manifest.find? by sf
name_quick tw8989982439271903415 for Manifest.find? by sf
name_quick tw8999186272805695465 for Manifest.find? by sf
name_quick tw900395245841561262 for Manifest.find? by sf
name_quick tw9011979029575296479 for Manifest.find? by sf
name_quick tw9047900276149940361 for Manifest.find? by sf
name_quick tw9078168654384971755 for Manifest.find? by sf
name_quick tw9082586571710850966 for Manifest.find? by sf
name_quick tw9131251417149488404 for Manifest.find? by sf
name_quick tw9136488742655976645 for Manifest.find? by sf
name_quick tw9193924416348642270 for Manifest.find? by sf
name_quick tw9206804518496725263 for Manifest.find? by sf
name_quick tw921073385446354868 for Manifest.find? by sf
name_quick tw9219426015542480343 for Manifest.find? by sf
name_quick tw9236875199018929784 for Manifest.find? by sf
name_quick tw9281714027785469542 for Manifest.find? by sf
name_quick tw9285146279643344392 for Manifest.find? by sf
name_quick tw9300948228871686676 for Manifest.find? by sf
name_quick tw930746551332336609 for Manifest.find? by sf
name_quick tw932993149863042379 for Manifest.find? by sf
name_quick tw9376109419431680627 for Manifest.find? by sf
name_quick tw9396933662098498411 for Manifest.find? by sf
name_quick tw9407582987413476825 for Manifest.find? by sf
name_quick tw9413167413068371254 for Manifest.find? by sf
name_quick tw9440516321747867399 for Manifest.find? by sf
name_quick tw9458956999447867950 for Manifest.find? by sf
name_quick tw9467589175468403638 for Manifest.find? by sf
name_quick tw9492235034089005946 for Manifest.find? by sf
name_quick tw9501820088010722379 for Manifest.find? by sf
name_quick tw9504726810853072989 for Manifest.find? by sf
name_quick tw950723637873067451 for Manifest.find? by sf
name_quick tw9515652053505349548 for Manifest.find? by sf
name_quick tw951843321253372498 for Manifest.find? by sf
name_quick tw9529234661008812162 for Manifest.find? by sf
name_quick tw9537544019596298400 for Manifest.find? by sf
name_quick tw9564595351457756722 for Manifest.find? by sf
name_quick tw9575731206691268911 for Manifest.find? by sf
name_quick tw9575948337506731703 for Manifest.find? by sf
name_quick tw9577309144901391297 for Manifest.find? by sf
name_quick tw9626621113073979434 for Manifest.find? by sf
name_quick tw9673203406766833760 for Manifest.find? by sf
name_quick tw9674257727999782656 for Manifest.find? by sf
name_quick tw9676229304581654039 for Manifest.find? by sf
name_quick tw9691624938235723451 for Manifest.find? by sf
name_quick tw9720828393056574044 for Manifest.find? by sf
name_quick tw973662469405803806 for Manifest.find? by sf
name_quick tw9736788993784561348 for Manifest.find? by sf
name_quick tw9759809726879904816 for Manifest.find? by sf
name_quick tw9763268239775435451 for Manifest.find? by sf
name_quick tw9764882154061713095 for Manifest.find? by sf
name_quick tw9787396351842916947 for Manifest.find? by sf
name_quick tw9787463984185863102 for Manifest.find? by sf
name_quick tw9794667896261083176 for Manifest.find? by sf
name_quick tw9808419591919987785 for Manifest.find? by sf
name_quick tw9821368406582625841 for Manifest.find? by sf
name_quick tw9862997608875712007 for Manifest.find? by sf
name_quick tw9893030918988833448 for Manifest.find? by sf
name_quick tw9908251947323293946 for Manifest.find? by sf
name_quick tw9931943479562821362 for Manifest.find? by sf
name_quick tw9948023125614773506 for Manifest.find? by sf
name_quick tw9951705424602377420 for Manifest.find? by sf
name_quick tw9979284746773624096 for Manifest.find? by sf
open_top hd for PySem.Challenge.rw_nn0065_01
example : True := by
  w_top off
  trivial
theorem fill0 (w : World) (h : Heap) : ((hd.heap_39 w.params).In h → True) → PySem.Challenge.rw_nn0065_01 = PySem.Challenge.rw_nn0065_01 := by
  k_fill
  intro _; rfl
def Stop (P : Prop) : Prop := P
theorem stop_intro {P : Prop} (h : Stop P) : P := h
theorem stop_out {P : Prop} (h : P) : Stop P := h
structure LoopMark : Prop where
def BelowA (I : Addr) (l : List (Addr × Obj)) : Prop := ∀ p ∈ l, p.1 < I
theorem room0 {d a n : Nat} (h : d + a < n) : d < n := Nat.lt_of_le_of_lt (Nat.le_add_right d a) h
theorem room1 {d a b n : Nat} (h : d + a < n) (e : b ≤ a) : d + b < n := Nat.lt_of_le_of_lt (Nat.add_le_add_left e d) h
theorem room2 {d a b c n : Nat} (h : d + a < n) (e : b + c ≤ a) : d + b + c < n := by rw [Nat.add_assoc]; exact room1 h e
theorem room3 {d a b c f n : Nat} (h : d + a < n) (e : b + c + f ≤ a) : d + b + c + f < n := by rw [Nat.add_assoc, Nat.add_assoc, ← Nat.add_assoc b]; exact room1 h e
theorem room4 {d a b c f g n : Nat} (h : d + a < n) (e : b + c + f + g ≤ a) : d + b + c + f + g < n := by rw [show d + b + c + f + g = d + (b + c + f + g) by simp only [Nat.add_assoc]]; exact room1 h e
theorem il_le {x a b : Int} (h : x ≤ a) (e : a ≤ b) : x ≤ b := Int.le_trans h e
theorem il_lt {x a b : Int} (h : x ≤ a) (e : a < b) : x < b := Int.lt_of_le_of_lt h e
theorem il_tt {x a b : Int} (h : x < a) (e : a ≤ b) : x < b := Int.lt_of_lt_of_le h e
theorem il_tl {x a b : Int} (h : x < a) (e : a ≤ b) : x ≤ b := Int.le_of_lt (Int.lt_of_lt_of_le h e)
theorem ig_le {x a b : Int} (h : a ≤ x) (e : b ≤ a) : b ≤ x := Int.le_trans e h
theorem ig_lt {x a b : Int} (h : a ≤ x) (e : b < a) : b < x := Int.lt_of_lt_of_le e h
theorem len_lt {α : Type} {l : List α} {n : Nat} {i : Int} (h : l.length = n) (e : i < (n : Int)) : i < (l.length : Int) := h ▸ e
theorem ne_at {a b : Nat} (h : a ≠ b) (e : b = a) : False := h e.symm
theorem an1 {p0 q : Prop} (h : p0 ∧ q) : p0 := h.1
theorem an2 {p0 p1 q : Prop} (h : p0 ∧ p1 ∧ q) : p1 := h.2.1
theorem an3 {p0 p1 p2 q : Prop} (h : p0 ∧ p1 ∧ p2 ∧ q) : p2 := h.2.2.1
theorem an4 {p0 p1 p2 p3 q : Prop} (h : p0 ∧ p1 ∧ p2 ∧ p3 ∧ q) : p3 := h.2.2.2.1
theorem an5 {p0 p1 p2 p3 p4 q : Prop} (h : p0 ∧ p1 ∧ p2 ∧ p3 ∧ p4 ∧ q) : p4 := h.2.2.2.2.1
theorem an6 {p0 p1 p2 p3 p4 p5 q : Prop} (h : p0 ∧ p1 ∧ p2 ∧ p3 ∧ p4 ∧ p5 ∧ q) : p5 := h.2.2.2.2.2.1
theorem an7 {p0 p1 p2 p3 p4 p5 p6 q : Prop} (h : p0 ∧ p1 ∧ p2 ∧ p3 ∧ p4 ∧ p5 ∧ p6 ∧ q) : p6 := h.2.2.2.2.2.2.1
theorem an8 {p0 p1 p2 p3 p4 p5 p6 p7 q : Prop} (h : p0 ∧ p1 ∧ p2 ∧ p3 ∧ p4 ∧ p5 ∧ p6 ∧ p7 ∧ q) : p7 := h.2.2.2.2.2.2.2.1
theorem an9 {p0 p1 p2 p3 p4 p5 p6 p7 p8 q : Prop} (h : p0 ∧ p1 ∧ p2 ∧ p3 ∧ p4 ∧ p5 ∧ p6 ∧ p7 ∧ p8 ∧ q) : p8 := h.2.2.2.2.2.2.2.2.1
theorem an10 {p0 p1 p2 p3 p4 p5 p6 p7 p8 p9 q : Prop} (h : p0 ∧ p1 ∧ p2 ∧ p3 ∧ p4 ∧ p5 ∧ p6 ∧ p7 ∧ p8 ∧ p9 ∧ q) : p9 := h.2.2.2.2.2.2.2.2.2.1
theorem an11 {p0 p1 p2 p3 p4 p5 p6 p7 p8 p9 p10 q : Prop} (h : p0 ∧ p1 ∧ p2 ∧ p3 ∧ p4 ∧ p5 ∧ p6 ∧ p7 ∧ p8 ∧ p9 ∧ p10 ∧ q) : p10 := h.2.2.2.2.2.2.2.2.2.2.1
theorem an12 {p0 p1 p2 p3 p4 p5 p6 p7 p8 p9 p10 p11 q : Prop} (h : p0 ∧ p1 ∧ p2 ∧ p3 ∧ p4 ∧ p5 ∧ p6 ∧ p7 ∧ p8 ∧ p9 ∧ p10 ∧ p11 ∧ q) : p11 := h.2.2.2.2.2.2.2.2.2.2.2.1
theorem an13 {p0 p1 p2 p3 p4 p5 p6 p7 p8 p9 p10 p11 p12 q : Prop} (h : p0 ∧ p1 ∧ p2 ∧ p3 ∧ p4 ∧ p5 ∧ p6 ∧ p7 ∧ p8 ∧ p9 ∧ p10 ∧ p11 ∧ p12 ∧ q) : p12 := h.2.2.2.2.2.2.2.2.2.2.2.2.1
theorem an14 {p0 p1 p2 p3 p4 p5 p6 p7 p8 p9 p10 p11 p12 p13 q : Prop} (h : p0 ∧ p1 ∧ p2 ∧ p3 ∧ p4 ∧ p5 ∧ p6 ∧ p7 ∧ p8 ∧ p9 ∧ p10 ∧ p11 ∧ p12 ∧ p13 ∧ q) : p13 := h.2.2.2.2.2.2.2.2.2.2.2.2.2.1
theorem an15 {p0 p1 p2 p3 p4 p5 p6 p7 p8 p9 p10 p11 p12 p13 p14 q : Prop} (h : p0 ∧ p1 ∧ p2 ∧ p3 ∧ p4 ∧ p5 ∧ p6 ∧ p7 ∧ p8 ∧ p9 ∧ p10 ∧ p11 ∧ p12 ∧ p13 ∧ p14 ∧ q) : p14 := h.2.2.2.2.2.2.2.2.2.2.2.2.2.2.1
theorem al2 {p0 p1 : Prop} (h : p0 ∧ p1) : p1 := h.2
theorem al3 {p0 p1 p2 : Prop} (h : p0 ∧ p1 ∧ p2) : p2 := h.2.2
theorem al4 {p0 p1 p2 p3 : Prop} (h : p0 ∧ p1 ∧ p2 ∧ p3) : p3 := h.2.2.2
theorem al5 {p0 p1 p2 p3 p4 : Prop} (h : p0 ∧ p1 ∧ p2 ∧ p3 ∧ p4) : p4 := h.2.2.2.2
theorem al6 {p0 p1 p2 p3 p4 p5 : Prop} (h : p0 ∧ p1 ∧ p2 ∧ p3 ∧ p4 ∧ p5) : p5 := h.2.2.2.2.2
theorem al7 {p0 p1 p2 p3 p4 p5 p6 : Prop} (h : p0 ∧ p1 ∧ p2 ∧ p3 ∧ p4 ∧ p5 ∧ p6) : p6 := h.2.2.2.2.2.2
theorem al8 {p0 p1 p2 p3 p4 p5 p6 p7 : Prop} (h : p0 ∧ p1 ∧ p2 ∧ p3 ∧ p4 ∧ p5 ∧ p6 ∧ p7) : p7 := h.2.2.2.2.2.2.2
theorem al9 {p0 p1 p2 p3 p4 p5 p6 p7 p8 : Prop} (h : p0 ∧ p1 ∧ p2 ∧ p3 ∧ p4 ∧ p5 ∧ p6 ∧ p7 ∧ p8) : p8 := h.2.2.2.2.2.2.2.2
theorem al10 {p0 p1 p2 p3 p4 p5 p6 p7 p8 p9 : Prop} (h : p0 ∧ p1 ∧ p2 ∧ p3 ∧ p4 ∧ p5 ∧ p6 ∧ p7 ∧ p8 ∧ p9) : p9 := h.2.2.2.2.2.2.2.2.2
theorem al11 {p0 p1 p2 p3 p4 p5 p6 p7 p8 p9 p10 : Prop} (h : p0 ∧ p1 ∧ p2 ∧ p3 ∧ p4 ∧ p5 ∧ p6 ∧ p7 ∧ p8 ∧ p9 ∧ p10) : p10 := h.2.2.2.2.2.2.2.2.2.2
theorem al12 {p0 p1 p2 p3 p4 p5 p6 p7 p8 p9 p10 p11 : Prop} (h : p0 ∧ p1 ∧ p2 ∧ p3 ∧ p4 ∧ p5 ∧ p6 ∧ p7 ∧ p8 ∧ p9 ∧ p10 ∧ p11) : p11 := h.2.2.2.2.2.2.2.2.2.2.2
theorem al13 {p0 p1 p2 p3 p4 p5 p6 p7 p8 p9 p10 p11 p12 : Prop} (h : p0 ∧ p1 ∧ p2 ∧ p3 ∧ p4 ∧ p5 ∧ p6 ∧ p7 ∧ p8 ∧ p9 ∧ p10 ∧ p11 ∧ p12) : p12 := h.2.2.2.2.2.2.2.2.2.2.2.2
theorem al14 {p0 p1 p2 p3 p4 p5 p6 p7 p8 p9 p10 p11 p12 p13 : Prop} (h : p0 ∧ p1 ∧ p2 ∧ p3 ∧ p4 ∧ p5 ∧ p6 ∧ p7 ∧ p8 ∧ p9 ∧ p10 ∧ p11 ∧ p12 ∧ p13) : p13 := h.2.2.2.2.2.2.2.2.2.2.2.2.2
theorem al15 {p0 p1 p2 p3 p4 p5 p6 p7 p8 p9 p10 p11 p12 p13 p14 : Prop} (h : p0 ∧ p1 ∧ p2 ∧ p3 ∧ p4 ∧ p5 ∧ p6 ∧ p7 ∧ p8 ∧ p9 ∧ p10 ∧ p11 ∧ p12 ∧ p13 ∧ p14) : p14 := h.2.2.2.2.2.2.2.2.2.2.2.2.2.2
example : True := by
  k_with "lt" => with_reducible (first | with_reducible assumption | exact an1 (by assumption) | exact an2 (by assumption) | exact an3 (by assumption) | exact an4 (by assumption) | exact an5 (by assumption) | exact an6 (by assumption) | exact an7 (by assumption) | exact an8 (by assumption) | exact an9 (by assumption) | exact an10 (by assumption) | exact an11 (by assumption) | exact an12 (by assumption) | exact an13 (by assumption) | exact an14 (by assumption) | exact an15 (by assumption) | exact al2 (by assumption) | exact al3 (by assumption) | exact al4 (by assumption) | exact al5 (by assumption) | exact al6 (by assumption) | exact al7 (by assumption) | exact al8 (by assumption) | exact al9 (by assumption) | exact al10 (by assumption) | exact al11 (by assumption) | exact al12 (by assumption) | exact al13 (by assumption) | exact al14 (by assumption) | exact al15 (by assumption))
  k_with "room" => (first | with_reducible exact room0 (by assumption) | with_reducible exact room1 (by assumption) (by decide) | with_reducible exact room2 (by assumption) (by decide) | with_reducible exact room3 (by assumption) (by decide) | with_reducible exact room4 (by assumption) (by decide))
  k_with "ibnd" => (first | with_reducible exact il_le (by assumption) (by decide) | with_reducible exact il_lt (by assumption) (by decide) | with_reducible exact il_tt (by assumption) (by decide) | with_reducible exact il_tl (by assumption) (by decide) | with_reducible exact ig_le (by assumption) (by decide) | with_reducible exact ig_lt (by assumption) (by decide) | with_reducible exact len_lt (by assumption) (by decide))
  k_with "light" => (first | (with_reducible refine Nat.ne_of_lt ?_; k_extra "lt") | (with_reducible refine Nat.ne_of_gt ?_; k_extra "lt") | (with_reducible refine Ne.symm ?_; with_reducible assumption) | ((with_reducible show @LT.lt Nat _ _ _); (first | k_extra "lt" | k_extra "room")) | ((with_reducible show @LE.le Nat _ _ _); (first | (with_reducible refine Nat.le_of_lt ?_; k_extra "lt"))) | k_extra "ibnd")
  trivial
local macro_rules | `(tactic| omega) => `(tactic| first | with_reducible assumption | decide | ((fail_if_success (fail_if_success omega (config := {}))); first | k_extra "light" | lia | omega (config := {})))
local macro_rules | `(tactic| k_unfold) => do
  let a := Lean.mkIdent `Mine.seq_next
  let b := Lean.mkIdent `Mine.seq_ret
  let c := Lean.mkIdent `Mine.seq_brk
  let d := Lean.mkIdent `Mine.seq_cont
  `(tactic| with_reducible (first | refine $a:ident ?_ | refine $b:ident ?_ | refine $c:ident ?_ | refine $d:ident ?_))
example : True := by
  k_with "en" => (((case kA => exact rfl); (case kF => exact rfl); (case kK => assumption); (case k1 => k_asm); (case k2 => k_asm); (case k3 => k_asm); (case k4 => k_asm); (case k5 => k_asm); (case k6 => k_is); (case k7 => k_is); (case k8 => ktr_room); (case k9 => exact BindsTo.of_eq rfl); (case c5 => decide); (case kB => exact locs rfl); (case c2 => exact rfl); (case c3 => exact rfl); (case c4 => exact rfl); k_whole; intro g' L' h' tk' FG' F' N' B' X' T'; (dsimp only [Mine.mapL, List.reverse_cons, List.reverse_nil, List.reverse, List.reverseAux, List.nil_append, List.cons_append] at F'); (try dsimp only); (try k_fold)))
  k_with "call builtin:dict.get" => (((with_reducible show wpAny _ _ (PySem.call (Value.builtin _) (_ ++ _)) _ _ _); dsimp only [List.cons_append, List.nil_append]))
  k_with "ev" => ((k_dflt (first | exact Mine.Ev.name rfl (Eq.refl true) | exact Mine.Ev.int | exact Mine.Ev.str | exact Mine.Ev.none | ((with_reducible show Mine.Ev _ _ _ _ _ (PySem.Expr.Attribute (PySem.Expr.Name _ _) _ _) _ _); exact Mine.Ev.attr (by k_extra "ev") (by k_mem) (by k_mem) (by k_extra "ao") (by k_get) (by exact Eq.refl true)) | ((with_reducible show Mine.Ev _ _ _ _ _ (PySem.Expr.Attribute (PySem.Expr.Attribute _ _ _) _ _) _ _); exact Mine.Ev.attrA (by k_extra "ev") (by k_mem) (by k_mem) (by k_extra "ao") (by k_get) (by exact Eq.refl true)) | ((with_reducible show Mine.Ev _ _ _ _ _ (PySem.Expr.Attribute (PySem.Expr.Subscript _ _ _) _ _) _ _); exact Mine.Ev.attrS (by k_extra "ev") (by k_mem) (by k_mem) (by k_extra "ao") (by k_get) (by exact Eq.refl true)) | ((with_reducible show Mine.Ev _ _ _ _ _ (PySem.Expr.Subscript _ (PySem.Expr.Constant (PySem.Const.int _) _ _) _) _ _); exact Mine.Ev.subT (by k_extra "ev") (by k_mem) (by exact rfl) (by exact rfl) (by exact Eq.refl true)) | ((with_reducible show Mine.Ev _ _ _ _ _ (PySem.Expr.Subscript _ _ _) _ _); exact Mine.Ev.sub (by k_extra "ev") (by k_extra "ev") (by k_mem) (by with_reducible assumption) (by ksa_idx) (by ksa_idx) (by ksa_idx) (by intro _ _; with_unfolding_all rfl)) | exact Mine.Ev.glob (by k_is) (Eq.refl true))))
  k_with "evs" => ((first | exact Mine.EvL.nil | ((with_reducible show Mine.EvL _ _ _ _ _ (List.cons _ _) _ _); exact Mine.EvL.cons (by k_extra "ev") (by k_extra "evs"))))
  k_with "ao" => ((first | with_reducible (first | exact Mine.ao546_iset _ | exact Mine.ao546_regs _ | exact Mine.ao546_xmm _ | exact Mine.ao546_flags _ | exact Mine.ao546_memory _ | exact Mine.ao546_rip _ | exact Mine.ao546_segments _ | exact Mine.ao429_held _ | exact Mine.ao174_cf _ | exact Mine.ao174_pf _ | exact Mine.ao174_af _ | exact Mine.ao174_zf _ | exact Mine.ao174_sf _ | exact Mine.ao174_of _ | exact Mine.ao174_df _ | exact Mine.ao314_name _ | exact Mine.ao314_kind _ | exact Mine.ao314_number _ | exact Mine.ao314_size _ | exact Mine.ao623_kind _ | exact Mine.ao623_register _ | exact Mine.ao657_kind _ | exact Mine.ao657_worth _ | exact Mine.ao657_name _ | exact Mine.ao698_kind _ | exact Mine.ao698_worth _ | exact Mine.ao698_name _ | exact Mine.ao751_kind _ | exact Mine.ao751_base _ | exact Mine.ao751_index _ | exact Mine.ao751_scale _ | exact Mine.ao751_worth _ | exact Mine.ao751_size _ | exact Mine.ao751_segment _ | exact Mine.ao751_name _ | exact Mine.ao804_name _ | exact Mine.ao804_operands _ | exact Mine.ao804_prefix _) | exact ⟨by k_is, by k_is, _, by k_is, by k_is⟩))
  k_with "mo" => ((first | with_reducible (first | exact Mine.mo546_get _ | exact Mine.mo546_put _ | exact Mine.mo546_put_low _ | exact Mine.mo546_offset _ | exact Mine.mo546_place _ | exact Mine.mo546_size_of _ | exact Mine.mo546_read _ | exact Mine.mo546_write _ | exact Mine.mo546_push _ | exact Mine.mo546_pop _ | exact Mine.mo429_octet _ | exact Mine.mo429_set_octet _ | exact Mine.mo429_read _ | exact Mine.mo429_write _ | exact Mine.mo174_told _ | exact Mine.mo174_pack _ | exact Mine.mo174_unpack _) | exact ⟨by k_is, by k_is, by k_is, by k_is⟩))
  k_with "eval Attribute" => ((k_here; k_dflt (refine' Mine.ev_use ?F ?X ?N ?T ?K ?h ?_; (case F => k_asm); (case X => k_asm); (case N => k_asm); (case T => k_asm); (case K => first | exact rfl | assumption); (case h => k_extra "ev"); k_whole)))
  k_with "eval Attribute Name" => ((k_here; k_dflt (refine' Mine.ev_use ?F ?X ?N ?T ?K ?h ?_; (case F => k_asm); (case X => k_asm); (case N => k_asm); (case T => k_asm); (case K => first | exact rfl | assumption); (case h => k_extra "ev"); k_whole)))
  k_with "eval Attribute Attribute" => ((k_here; k_dflt (refine' Mine.ev_use ?F ?X ?N ?T ?K ?h ?_; (case F => k_asm); (case X => k_asm); (case N => k_asm); (case T => k_asm); (case K => first | exact rfl | assumption); (case h => k_extra "ev"); k_whole)))
  k_with "eval Attribute Subscript" => ((k_here; k_dflt (refine' Mine.ev_use ?F ?X ?N ?T ?K ?h ?_; (case F => k_asm); (case X => k_asm); (case N => k_asm); (case T => k_asm); (case K => first | exact rfl | assumption); (case h => k_extra "ev"); k_whole)))
  k_with "eval Subscript" => ((k_here; (with_reducible show wpAny _ _ (PySem.eval (PySem.Expr.Subscript _ _ _) _) _ _ _); k_dflt (refine' Mine.sub_ev ?F ?X ?N ?T ?K ?h ?i ?_; (case F => k_asm); (case X => k_asm); (case N => k_asm); (case T => k_asm); (case K => first | exact rfl | assumption); (case h => k_extra "ev"); (case i => k_extra "ev"); k_whole)))
  k_with "eval Subscript" => ((k_here; (with_reducible show wpAny _ _ (PySem.eval (PySem.Expr.Subscript _ _ _) _) _ _ _); k_dflt (refine' Mine.ev_use ?F ?X ?N ?T ?K ?h ?_; (case F => k_asm); (case X => k_asm); (case N => k_asm); (case T => k_asm); (case K => first | exact rfl | assumption); (case h => k_extra "ev"); k_whole)))
  k_with "eval BinOp" => ((k_here; (with_reducible show wpAny _ _ (PySem.eval (PySem.Expr.BinOp _ _ _ _) _) _ _ _); k_dflt (refine' Mine.bin_ev ?F ?X ?N ?T ?K ?h ?i ?_; (case F => k_asm); (case X => k_asm); (case N => k_asm); (case T => k_asm); (case K => first | exact rfl | assumption); (case h => k_extra "ev"); (case i => k_extra "ev"); k_whole)))
  k_with "spliced" => ((k_here; (with_reducible show wpAny _ _ (PySem.spliced (PySem.backTo _ (PySem.starEach _ _))) _ _ _); k_dflt (refine' Mine.ev_all ?F ?X ?N ?T ?K ?h ?_; (case F => k_asm); (case X => k_asm); (case N => k_asm); (case T => k_asm); (case K => first | exact rfl | assumption); (case h => k_extra "evs"); k_whole)))
  k_with "eval Call" => ((k_here; (with_reducible show wpAny _ _ (PySem.eval (PySem.Expr.Call (PySem.Expr.Name _ _) _ List.nil _) _) _ _ _); k_dflt (refine' Mine.call_ev ?F ?X ?N ?T ?K ?h ?E ?P ?Y ?_; (case F => k_asm); (case X => k_asm); (case N => k_asm); (case T => k_asm); (case K => first | exact rfl | assumption); (case h => k_extra "evs"); (case E => k_is); (case P => k_is); (case Y => exact Eq.refl true); k_whole)))
  k_with "eval Call Name" => ((k_here; (with_reducible show wpAny _ _ (PySem.eval (PySem.Expr.Call (PySem.Expr.Name _ _) _ List.nil _) _) _ _ _); k_dflt (refine' Mine.call_ev ?F ?X ?N ?T ?K ?h ?E ?P ?Y ?_; (case F => k_asm); (case X => k_asm); (case N => k_asm); (case T => k_asm); (case K => first | exact rfl | assumption); (case h => k_extra "evs"); (case E => k_is); (case P => k_is); (case Y => exact Eq.refl true); k_whole)))
  k_with "eval Call" => ((k_here; (with_reducible show wpAny _ _ (PySem.eval (PySem.Expr.Call (PySem.Expr.Attribute _ _ _) _ List.nil _) _) _ _ _); k_dflt (refine' Mine.meth_ev ?F ?X ?N ?T ?K ?h ?i ?m ?d ?f ?l ?e ?_; (case F => k_asm); (case X => k_asm); (case N => k_asm); (case T => k_asm); (case K => first | exact rfl | assumption); (case h => k_extra "ev"); (case i => k_extra "evs"); (case m => k_mem); (case d => k_mem); (case f => k_extra "mo"); (case l => k_get); (case e => exact rfl); k_whole)))
  k_with "eval Call Attribute" => ((k_here; (with_reducible show wpAny _ _ (PySem.eval (PySem.Expr.Call (PySem.Expr.Attribute _ _ _) _ List.nil _) _) _ _ _); k_dflt (refine' Mine.meth_ev ?F ?X ?N ?T ?K ?h ?i ?m ?d ?f ?l ?e ?_; (case F => k_asm); (case X => k_asm); (case N => k_asm); (case T => k_asm); (case K => first | exact rfl | assumption); (case h => k_extra "ev"); (case i => k_extra "evs"); (case m => k_mem); (case d => k_mem); (case f => k_extra "mo"); (case l => k_get); (case e => exact rfl); k_whole)))
  k_with "exec If" => ((k_here; (with_reducible show wpAny _ _ (PySem.exec (PySem.Stmt.If (PySem.Expr.Compare _ (List.cons PySem.CmpOp.Eq List.nil) (List.cons (PySem.Expr.Constant (PySem.Const.int _) _ _) List.nil) _) _ _ _) _) _ _ _); k_dflt (first | (refine' Mine.if_int_no ?F ?X ?N ?T ?K ?h ?e ?_; (case F => k_asm); (case X => k_asm); (case N => k_asm); (case T => k_asm); (case K => first | exact rfl | assumption); (case h => k_extra "ev"); (case e => exact rfl); k_whole) | (refine' Mine.if_int_yes ?F ?X ?N ?T ?K ?h ?e ?_; (case F => k_asm); (case X => k_asm); (case N => k_asm); (case T => k_asm); (case K => first | exact rfl | assumption); (case h => k_extra "ev"); (case e => exact rfl); k_whole))))
  k_with "exec If" => ((k_here; (with_reducible show wpAny _ _ (PySem.exec (PySem.Stmt.If (PySem.Expr.Compare _ (List.cons PySem.CmpOp.Eq List.nil) (List.cons (PySem.Expr.Constant (PySem.Const.str _) _ _) List.nil) _) _ _ _) _) _ _ _); k_dflt (first | (refine' Mine.if_str_no ?F ?X ?N ?T ?K ?h ?e ?_; (case F => k_asm); (case X => k_asm); (case N => k_asm); (case T => k_asm); (case K => first | exact rfl | assumption); (case h => k_extra "ev"); (case e => decide +kernel); k_whole) | (refine' Mine.if_str_yes ?F ?X ?N ?T ?K ?h ?e ?_; (case F => k_asm); (case X => k_asm); (case N => k_asm); (case T => k_asm); (case K => first | exact rfl | assumption); (case h => k_extra "ev"); (case e => decide +kernel); k_whole))))
  k_with "execs cons" => ((k_here; (try k_gentoks); first | (with_reducible refine Mine.seq_one ?_) | (with_reducible refine Mine.seq_cons ?_)))
  k_with "execs cons Return" => ((k_here; (try k_gentoks); (with_reducible refine Mine.ret_cons ?_)))
  k_with "execs cons Return" => ((k_here; k_dflt (refine' Mine.ret_ev ?F ?X ?N ?T ?K ?h ?_; (case F => k_asm); (case X => k_asm); (case N => k_asm); (case T => k_asm); (case K => first | exact rfl | assumption); (case h => k_extra "ev"); k_whole)))
  k_with "execs cons Assign" => ((k_here; (with_reducible show wpAny _ _ (PySem.execs (List.cons (PySem.Stmt.Assign (List.cons (PySem.Expr.Name _ _) List.nil) _ _) _) _) _ _ _); (fail_if_success (with_reducible show wpAny _ _ (PySem.execs (List.cons (PySem.Stmt.Assign _ (PySem.Expr.ListComp _ _ _) _) _) _) _ _ _)); (with_reducible refine' Mine.asg_cons ?hs ?_; (case hs => k_dflt exact rfl))))
  k_with "execs cons Assign" => ((k_here; (with_reducible show wpAny _ _ (PySem.execs (List.cons (PySem.Stmt.Assign (List.cons (PySem.Expr.Name _ _) List.nil) _ _) _) _) _ _ _); (fail_if_success (with_reducible show wpAny _ _ (PySem.execs (List.cons (PySem.Stmt.Assign _ (PySem.Expr.ListComp _ _ _) _) _) _) _ _ _)); k_dflt (refine' Mine.asg_ev ?F ?X ?N ?T ?K ?h ?hs ?hx ?_; (case F => k_asm); (case X => k_asm); (case N => k_asm); (case T => k_asm); (case K => first | exact rfl | assumption); (case h => k_extra "ev"); (case hs => exact rfl); (case hx => exact rfl); k_whole); intro h' tk' F' N'; (try k_sweep)))
  k_with "storeName" => ((k_here; k_dflt (refine' Mine.asg_store ?F ?N ?a ?b ?_; (case F => k_asm); (case N => k_asm); (case a => rfl); (case b => rfl); k_whole; intro h' tk' F' N'; (try k_sweep))))
  trivial
noncomputable def locIn (env : Env) (x : Str) : Bool := match env.kindOf x with | some .local => !(x == ("__debug__" : Str)) | _ => false
noncomputable def globIn (env : Env) (x : Str) : Bool := match env.kindOf x with | some .globalImplicit => !(x == ("__debug__" : Str)) | _ => false
theorem locIn_of {env : Env} {x : Str} (h : locIn env x = true) : env.kindOf x = some .local ∧ (x == ("__debug__" : Str)) = false := by
  unfold locIn at h
  split at h
  · rename_i e; exact ⟨e, by simpa using h⟩
  · cases h
theorem globIn_of {env : Env} {x : Str} (h : globIn env x = true) : env.kindOf x = some .globalImplicit ∧ (x == ("__debug__" : Str)) = false := by
  unfold globIn at h
  split at h
  · rename_i e; exact ⟨e, by simpa using h⟩
  · cases h
structure AttrOK (K : Frag) (C : Addr) (a : Str) : Prop where
  hg : plainGet K C a = true
  hh : hasDictIn K C = true
  ha : ∃ r, findIn K (.ref C) a = some r ∧ noGet K r = true
structure MethOK (K : Frag) (C : Addr) (a : Str) (f : Addr) : Prop where
  hg : plainGet K C a = true
  hf : findIn K (.ref C) a = some (some (.ref f))
  ht : isFn K (.ref f) = true
  hk : keepIn K (.ref f) = true
noncomputable def tokAt (vs : List Value) (j : Nat) : Tok := match vs.getD j .none with | .int _ t => t | _ => 0
theorem ints_at {vs : List Value} {ws : List Int} (h : IntsAre vs ws) {j : Nat} (hj : j < ws.length) : vs[j]? = some (.int (ws.getD j 0) (tokAt vs j)) := by
  obtain ⟨t, e⟩ := h.get j ws[j] (by simp [hj])
  have e2 : vs.getD j .none = .int ws[j] t := by simp [List.getD, e]
  rw [e, tokAt, e2, show ws.getD j 0 = ws[j] by simp [List.getD, hj]]
/-- what an expression that only reads has for a value: names, literals, attributes of made instances, items -/
inductive Ev (K : Frag) (m : Str → Option Value) (news : List (Addr × Obj)) (env : Env) : Nat → Expr → Value → Nat → Prop where
  | name {k : Nat} {x : Str} {p : Pos} {v : Value} (hv : m x = some v) (hx : locIn env x = true) : Ev K m news env k (.Name x p) v k
  | glob {k : Nat} {x : Str} {p : Pos} {v : Value} (hv : nsIn K mainGlobals x = some (some v)) (hx : globIn env x = true) : Ev K m news env k (.Name x p) v k
  | int {k : Nat} {i : Int} {q : Nat} {p : Pos} : Ev K m news env k (.Constant (.int i) q p) (.int i k) (k + 1)
  | str {k : Nat} {x : Str} {q : Nat} {p : Pos} : Ev K m news env k (.Constant (.str x) q p) (.str x k) (k + 1)
  | none {k : Nat} {q : Nat} {p : Pos} : Ev K m news env k (.Constant .none q p) .none k
  | attr {k k1 : Nat} {x : Str} {xp : Pos} {at_ : Str} {p : Pos} {o C d : Addr} {es : List DictEntry} {n : Nat} {v : Value} (h : Ev K m news env k (.Name x xp) (.ref o) k1) (hm : (o, instObj C d) ∈ news) (hd : (d, dictOf es n) ∈ news) (f : AttrOK K C at_) (hl : getL at_ es = some (some v)) (hv : handedIn v = true) : Ev K m news env k (.Attribute (.Name x xp) at_ p) v (k1 + 1)
  | attrA {k k1 : Nat} {b : Expr} {x : Str} {xp : Pos} {at_ : Str} {p : Pos} {o C d : Addr} {es : List DictEntry} {n : Nat} {v : Value} (h : Ev K m news env k (.Attribute b x xp) (.ref o) k1) (hm : (o, instObj C d) ∈ news) (hd : (d, dictOf es n) ∈ news) (f : AttrOK K C at_) (hl : getL at_ es = some (some v)) (hv : handedIn v = true) : Ev K m news env k (.Attribute (.Attribute b x xp) at_ p) v (k1 + 1)
  | attrS {k k1 : Nat} {b i : Expr} {xp : Pos} {at_ : Str} {p : Pos} {o C d : Addr} {es : List DictEntry} {n : Nat} {v : Value} (h : Ev K m news env k (.Subscript b i xp) (.ref o) k1) (hm : (o, instObj C d) ∈ news) (hd : (d, dictOf es n) ∈ news) (f : AttrOK K C at_) (hl : getL at_ es = some (some v)) (hv : handedIn v = true) : Ev K m news env k (.Attribute (.Subscript b i xp) at_ p) v (k1 + 1)
  | subT {k k1 : Nat} {e : Expr} {i : Nat} {q : Nat} {p p2 : Pos} {l : Addr} {vs : List Value} {n : Nat} {v : Value} (h : Ev K m news env k e (.ref l) k1) (hm : (l, { cls := .type "tuple", data := .seq (List.toArray vs) n }) ∈ news) {j : Int} (hj : j = Int.ofNat i) (hx : vs[i]? = some v) (hi : decide (i < 1000) = true) : Ev K m news env k (.Subscript e (.Constant (.int j) q p2) p) v (k1 + 1)
  | sub {k k1 k2 : Nat} {e i : Expr} {p : Pos} {l : Addr} {vs : List Value} {n : Nat} {ws : List Int} {j : Int} {u : Tok} (h1 : Ev K m news env k e (.ref l) k1) (h2 : Ev K m news env k1 i (.int j u) k2) (hm : (l, listOf vs.toArray n) ∈ news) (hi : IntsAre vs ws) (z0 : 0 ≤ j) (z1 : j < ws.length) (z2 : j < 2 ^ 63) (hs : ∀ o i', subscripted i false o i' = operate [o, i'] (getItem o i')) : Ev K m news env k (.Subscript e i p) (.int (ws.getD j.toNat 0) (tokAt vs j.toNat)) k2
inductive EvL (K : Frag) (m : Str → Option Value) (news : List (Addr × Obj)) (env : Env) : Nat → List Expr → List Value → Nat → Prop where
  | nil {k : Nat} : EvL K m news env k [] [] k
  | cons {k k1 k2 : Nat} {e : Expr} {es : List Expr} {v : Value} {vs : List Value} (h : Ev K m news env k e v k1) (r : EvL K m news env k1 es vs k2) : EvL K m news env k (e :: es) (v :: vs) k2
section
variable {prog : Program} {w : World} {A : Around} {E : Value → Shared → Prop} {h₀ hp : Heap} {L a : Addr} {m mg mb : Str → Option Value} {cn : Str} {cs : Scope} {ccd : Value} {cl : List (Str × Addr)} {K : Frag} {p : Program} {loose : List Str} {news : List (Addr × Obj)} {tk k' : Nat} {ge : Array GenState} {dr : Drawn} {os : OsState}
theorem tup_at {value : Expr} {q : Nat} {p2 : Pos} {t : Addr} {vs : List Value} {n i : Nat} {u : Tok} {v : Value} {s : Shared} {Q : Value → Shared → Prop} (N : News h₀ L s.heap news) (hm : (t, { cls := .type "tuple", data := .seq (List.toArray vs) n }) ∈ news) (hx : vs[i]? = some v) (hi : i < 1000) (h : Q v s) :
    wpAny (model prog w) A (subscriptTail value (.Constant (.int (Int.ofNat i)) q p2) (.ref t) (.int (Int.ofNat i) u)) Q E s := by
  have hl : i < vs.length := by
    rcases Nat.lt_or_ge i vs.length with h | h
    · exact h
    · rw [List.getElem?_eq_none h] at hx; cases hx
  have e : Int.ofNat i = (i : Int) := rfl
  refine item_tupleT (j := i) (News.isTup N hm) (by rw [e]; omega) (by rw [e]; omega) ?_ hx h
  rw [e]
  unfold seqIndex?
  rw [if_neg (Int.not_lt.mpr (Int.natCast_nonneg i))]
  simp [hl]
theorem list_at {value slice : Expr} {l : Addr} {vs : List Value} {n : Nat} {j : Int} {u : Tok} {v : Value} {s : Shared} {Q : Value → Shared → Prop} (N : News h₀ L s.heap news) (hm : (l, listOf vs.toArray n) ∈ news) (hx : vs[j.toNat]? = some v) (h0 : 0 ≤ j) (h2 : j < 2 ^ 63) (hs : subscripted slice false (.ref l) (.int j u) = operate [.ref l, .int j u] (getItem (.ref l) (.int j u))) (h : Q v s) :
    wpAny (model prog w) A (subscriptTail value slice (.ref l) (.int j u)) Q E s :=
  have hl := News.isList N hm
  tail_any hl.typeIs slot_list_getitem.lookup (wpAny_getItem_list hl h0 h2 (by simpa using hx) h) hs
end
section
variable {prog : Program} {w : World} {A : Around} {E : Value → Shared → Prop} {h₀ hp : Heap} {L a : Addr} {m mg mb : Str → Option Value} {cn : Str} {cs : Scope} {ccd : Value} {cl : List (Str × Addr)} {K : Frag} {p : Program} {loose : List Str} {news : List (Addr × Obj)} {tk k' : Nat} {ge : Array GenState} {dr : Drawn} {os : OsState}
theorem ev_go (X : K.In h₀) (T : TopRead p loose mg mb h₀) (hk : cs.kind = .function) {e : Expr} {v : Value} (H : Ev K m news (envX cn cs L a ccd cl) tk e v k') : ∀ {s : Shared} {E Q : Value → Shared → Prop}, s.toks = tk → Fr h₀ L s.heap m → News h₀ L s.heap news → Q v { s with toks := k' } → wpAny (model prog w) A (eval e (envX cn cs L a ccd cl)) Q E s := by
  induction H with
  | name hv hx => intro s E Q e F N h; subst e; exact nameX_L F hv h hk (locIn_of hx).1 (locIn_of hx).2
  | glob hv hx => intro s E Q e F N h; subst e; exact nameX_K F X T hv h hk (globIn_of hx).1 (globIn_of hx).2
  | int => intro s E Q e F N h; subst e; exact wpAny_Constant_int h
  | str => intro s E Q e F N h; subst e; exact Constant_str h
  | none => intro s E Q e F N h; subst e; exact wpAny_Constant_none h
  | attr _ hm hd f hl hv ih => intro s E Q e F N h; exact Attribute_Name_ (ih e F N (let ⟨_, ha, hn⟩ := f.ha; get_own F X (InstAt.of_news N hm hd) f.hg f.hh ha hn hl hv h))
  | attrA _ hm hd f hl hv ih => intro s E Q e F N h; exact Attribute_any_ (ih e F N (let ⟨_, ha, hn⟩ := f.ha; get_own F X (InstAt.of_news N hm hd) f.hg f.hh ha hn hl hv h))
  | attrS _ hm hd f hl hv ih => intro s E Q e F N h; exact Attribute_any_ (ih e F N (let ⟨_, ha, hn⟩ := f.ha; get_own F X (InstAt.of_news N hm hd) f.hg f.hh ha hn hl hv h))
  | subT _ hm hj hx hi ih => intro s E Q e F N h; subst hj; exact Subscript_ (ih e F N (wpAny_Constant_int (tup_at N hm hx (of_decide_eq_true hi) h)))
  | sub _ _ hm hi z0 z1 z2 hs ih1 ih2 => intro s E Q e F N h; exact Subscript_ (ih1 e F N (ih2 rfl F N (list_at N hm (ints_at hi (by omega)) z0 z2 (hs _ _) h)))
theorem ev_use {e : Expr} {v : Value} {Q : Value → Shared → Prop} (F : Fr h₀ L hp m) (X : K.In h₀) (N : News h₀ L hp news) (T : TopRead p loose mg mb h₀) (hk : cs.kind = .function) (H : Ev K m news (envX cn cs L a ccd cl) tk e v k') (h : Q v ⟨hp, ge, dr, k', os⟩) : wpAny (model prog w) A (eval e (envX cn cs L a ccd cl)) Q E ⟨hp, ge, dr, tk, os⟩ := ev_go X T hk H rfl F N h
theorem ev_star {es : List Expr} {e : Expr} {env : Env} {v : Value} (H : Ev K m news env tk e v k') : starEach (e :: es) env = (false, eval e env) :: starEach es env := by cases H <;> rfl
theorem evs_go (X : K.In h₀) (T : TopRead p loose mg mb h₀) (hk : cs.kind = .function) {es : List Expr} {vs : List Value} (H : EvL K m news (envX cn cs L a ccd cl) tk es vs k') : ∀ {s : Shared} {Q : List Value → Shared → Prop} {pos : Pos}, s.toks = tk → Fr h₀ L s.heap m → News h₀ L s.heap news → Q vs { s with toks := k' } → wpAny (model prog w) A (spliced (backTo pos (starEach es (envX cn cs L a ccd cl)))) Q E s := by
  induction H with
  | nil => intro s Q pos e F N h; subst e; exact args_nil h
  | cons h1 r ih => intro s Q pos e F N h; exact args_cons (ev_go X T hk h1 e F N (ih (Q := fun vs s' => Q (_ :: vs) s') rfl F N h)) (ev_star h1)
theorem ev_all {es : List Expr} {vs : List Value} {pos : Pos} {Q : List Value → Shared → Prop} (F : Fr h₀ L hp m) (X : K.In h₀) (N : News h₀ L hp news) (T : TopRead p loose mg mb h₀) (hk : cs.kind = .function) (H : EvL K m news (envX cn cs L a ccd cl) tk es vs k') (h : Q vs ⟨hp, ge, dr, k', os⟩) : wpAny (model prog w) A (spliced (backTo pos (starEach es (envX cn cs L a ccd cl)))) Q E ⟨hp, ge, dr, tk, os⟩ := evs_go X T hk H rfl F N h
theorem evs_plain {env : Env} {pos : Pos} {es : List Expr} {vs : List Value} (H : EvL K m news env tk es vs k') : (backTo pos (starEach es env)).any (·.1) = false := by
  induction H with
  | nil => rfl
  | cons h1 r ih => rw [ev_star h1]; exact ih
theorem ev_with {f : Value} {first : List Value} {es : List Expr} {vs : List Value} {pos : Pos} {Q : Value → Shared → Prop} (F : Fr h₀ L hp m) (X : K.In h₀) (N : News h₀ L hp news) (T : TopRead p loose mg mb h₀) (hk : cs.kind = .function) (hf : keepIn K f = true) (H : EvL K m news (envX cn cs L a ccd cl) tk es vs k') (h : wpAny (model prog w) A (call f (first ++ vs)) Q E ⟨hp, ge, dr, k', os⟩) : wpAny (model prog w) A (callWith pos f first (backTo pos (starEach es (envX cn cs L a ccd cl))) []) Q E ⟨hp, ge, dr, tk, os⟩ := by
  cases H with
  | nil => exact callWith_K0 (X.keeps F.keep) hf h
  | cons h1 r => exact callWith_K X hf (ev_all (Q := fun vs s₁ => K.In s₁.heap ∧ wpAny (model prog w) A (call f (first ++ vs)) Q E s₁) F X N T hk (.cons h1 r) ⟨X.keeps F.keep, h⟩) (ev_star h1) (evs_plain r)
theorem call_ev {f : Str} {p1 pos : Pos} {v : Value} {es : List Expr} {vs : List Value} {Q : Value → Shared → Prop} (F : Fr h₀ L hp m) (X : K.In h₀) (N : News h₀ L hp news) (T : TopRead p loose mg mb h₀) (hk : cs.kind = .function) (H : EvL K m news (envX cn cs L a ccd cl) tk es vs k') (hf : nsIn K mainGlobals f = some (some v)) (hp1 : keepIn K v = true) (hx : globIn (envX cn cs L a ccd cl) f = true) (h : wpAny (model prog w) A (call v vs) Q E ⟨hp, ge, dr, k', os⟩) :
    wpAny (model prog w) A (eval (.Call (.Name f p1) es [] pos) (envX cn cs L a ccd cl)) Q E ⟨hp, ge, dr, tk, os⟩ :=
  Call_ (nameX_K F X T hf (ev_with (first := []) F X N T hk hp1 H h) hk (globIn_of hx).1 (globIn_of hx).2)
theorem meth_ev {o : Expr} {nm : Str} {apos pos : Pos} {x C d f : Addr} {es : List DictEntry} {n k1 : Nat} {as : List Expr} {vs : List Value} {Q : Value → Shared → Prop} (F : Fr h₀ L hp m) (X : K.In h₀) (N : News h₀ L hp news) (T : TopRead p loose mg mb h₀) (hk : cs.kind = .function) (H : Ev K m news (envX cn cs L a ccd cl) tk o (.ref x) k1) (HL : EvL K m news (envX cn cs L a ccd cl) k1 as vs k') (hm : (x, instObj C d) ∈ news) (hd : (d, dictOf es n) ∈ news) (f1 : MethOK K C nm f) (hl : getL nm es = some none) {pl : Sem Bool} (he : eval (.Call (.Attribute o nm apos) as [] pos) (envX cn cs L a ccd cl) = (do
      let ov ← eval o (envX cn cs L a ccd cl)
      standAt apos.atName
      let (f, first) ← holding [ov] (getMethod ov nm pl)
      callWith pos f first (backTo pos (starEach as (envX cn cs L a ccd cl))) [])) (h : wpAny (model prog w) A (call (.ref f) (.ref x :: vs)) Q E ⟨hp, ge, dr, k', os⟩) :
    wpAny (model prog w) A (eval (.Call (.Attribute o nm apos) as [] pos) (envX cn cs L a ccd cl)) Q E ⟨hp, ge, dr, tk, os⟩ :=
  MethodCall_ (ev_go X T hk H rfl F N (method_inst F X (InstAt.of_news N hm hd) f1.hg f1.hf f1.ht hl (ev_with (first := [.ref x]) F X N T hk f1.hk HL h))) he
theorem bin_ev {l r : Expr} {op : Operator} {u v : Value} {k1 : Nat} {pos : Pos} {Q : Value → Shared → Prop} (F : Fr h₀ L hp m) (X : K.In h₀) (N : News h₀ L hp news) (T : TopRead p loose mg mb h₀) (hk : cs.kind = .function) (H1 : Ev K m news (envX cn cs L a ccd cl) tk l u k1) (H2 : Ev K m news (envX cn cs L a ccd cl) k1 r v k') (h : wpAny (model prog w) A (binaryOp op u v) Q E ⟨hp, ge, dr, k', os⟩) :
    wpAny (model prog w) A (eval (.BinOp l op r pos) (envX cn cs L a ccd cl)) Q E ⟨hp, ge, dr, tk, os⟩ := wpAny_BinOp (ev_go X T hk H1 rfl F N (ev_go X T hk H2 rfl F N h))
theorem sub_ev {l r : Expr} {u v : Value} {k1 : Nat} {pos : Pos} {Q : Value → Shared → Prop} (F : Fr h₀ L hp m) (X : K.In h₀) (N : News h₀ L hp news) (T : TopRead p loose mg mb h₀) (hk : cs.kind = .function) (H1 : Ev K m news (envX cn cs L a ccd cl) tk l u k1) (H2 : Ev K m news (envX cn cs L a ccd cl) k1 r v k') (h : wpAny (model prog w) A (subscriptTail l r u v) Q E ⟨hp, ge, dr, k', os⟩) :
    wpAny (model prog w) A (eval (.Subscript l r pos) (envX cn cs L a ccd cl)) Q E ⟨hp, ge, dr, tk, os⟩ := Subscript_ (ev_go X T hk H1 rfl F N (ev_go X T hk H2 rfl F N h))
theorem if_int_no {e : Expr} {a0 i : Int} {t0 : Tok} {p2 pos pos3 : Pos} {q : Nat} {body orelse : List Stmt} {Q : Flow → Shared → Prop} (F : Fr h₀ L hp m) (X : K.In h₀) (N : News h₀ L hp news) (T : TopRead p loose mg mb h₀) (hk : cs.kind = .function) (H : Ev K m news (envX cn cs L a ccd cl) tk e (.int a0 t0) k') (he : (a0 == i) = false) (h : wpAny (model prog w) A (execs orelse (envX cn cs L a ccd cl)) Q E ⟨hp, ge, dr, k' + 1, os⟩) :
    wpAny (model prog w) A (exec (.If (.Compare e [.Eq] [.Constant (.int i) q p2] pos) body orelse pos3) (envX cn cs L a ccd cl)) Q E ⟨hp, ge, dr, tk, os⟩ :=
  wpAny_If (wpAny_isTrue_Compare1 (ev_go X T hk H rfl F N (wpAny_Constant_int (PyProof.Rows.eq_int (wpAny_truthy_bool (by rw [he]; exact h))))) rfl)
theorem if_int_yes {e : Expr} {a0 i : Int} {t0 : Tok} {p2 pos pos3 : Pos} {q : Nat} {body orelse : List Stmt} {Q : Flow → Shared → Prop} (F : Fr h₀ L hp m) (X : K.In h₀) (N : News h₀ L hp news) (T : TopRead p loose mg mb h₀) (hk : cs.kind = .function) (H : Ev K m news (envX cn cs L a ccd cl) tk e (.int a0 t0) k') (he : (a0 == i) = true) (h : wpAny (model prog w) A (execs body (envX cn cs L a ccd cl)) Q E ⟨hp, ge, dr, k' + 1, os⟩) :
    wpAny (model prog w) A (exec (.If (.Compare e [.Eq] [.Constant (.int i) q p2] pos) body orelse pos3) (envX cn cs L a ccd cl)) Q E ⟨hp, ge, dr, tk, os⟩ :=
  wpAny_If (wpAny_isTrue_Compare1 (ev_go X T hk H rfl F N (wpAny_Constant_int (PyProof.Rows.eq_int (wpAny_truthy_bool (by rw [he]; exact h))))) rfl)
theorem if_str_no {e : Expr} {a0 i : Str} {t0 : Tok} {p2 pos pos3 : Pos} {q : Nat} {body orelse : List Stmt} {Q : Flow → Shared → Prop} (F : Fr h₀ L hp m) (X : K.In h₀) (N : News h₀ L hp news) (T : TopRead p loose mg mb h₀) (hk : cs.kind = .function) (H : Ev K m news (envX cn cs L a ccd cl) tk e (.str a0 t0) k') (he : (a0 == i) = false) (h : wpAny (model prog w) A (execs orelse (envX cn cs L a ccd cl)) Q E ⟨hp, ge, dr, k' + 1, os⟩) :
    wpAny (model prog w) A (exec (.If (.Compare e [.Eq] [.Constant (.str i) q p2] pos) body orelse pos3) (envX cn cs L a ccd cl)) Q E ⟨hp, ge, dr, tk, os⟩ :=
  wpAny_If (wpAny_isTrue_Compare1 (ev_go X T hk H rfl F N (Constant_str (PyProof.Rows.eq_str (wpAny_truthy_bool (by rw [he]; exact h))))) rfl)
theorem if_str_yes {e : Expr} {a0 i : Str} {t0 : Tok} {p2 pos pos3 : Pos} {q : Nat} {body orelse : List Stmt} {Q : Flow → Shared → Prop} (F : Fr h₀ L hp m) (X : K.In h₀) (N : News h₀ L hp news) (T : TopRead p loose mg mb h₀) (hk : cs.kind = .function) (H : Ev K m news (envX cn cs L a ccd cl) tk e (.str a0 t0) k') (he : (a0 == i) = true) (h : wpAny (model prog w) A (execs body (envX cn cs L a ccd cl)) Q E ⟨hp, ge, dr, k' + 1, os⟩) :
    wpAny (model prog w) A (exec (.If (.Compare e [.Eq] [.Constant (.str i) q p2] pos) body orelse pos3) (envX cn cs L a ccd cl)) Q E ⟨hp, ge, dr, tk, os⟩ :=
  wpAny_If (wpAny_isTrue_Compare1 (ev_go X T hk H rfl F N (Constant_str (PyProof.Rows.eq_str (wpAny_truthy_bool (by rw [he]; exact h))))) rfl)
end
section
variable {M : Model} {A : Around} {E : Value → Shared → Prop} {env : Env} {rest : List Stmt} {Q : Flow → Shared → Prop} {s : Shared}
/-- what is to hold behind a statement: the statements behind it are walked -/
noncomputable def SeqQ (M : Model) (A : Around) (rest : List Stmt) (env : Env) (Q : Flow → Shared → Prop) (E : Value → Shared → Prop) : Flow → Shared → Prop := fun f s' => match f with | .next => wpAny M A (execs rest env) Q E s' | f => Q f s'
abbrev AsgQ (M : Model) (A : Around) (x : Str) (rest : List Stmt) (env : Env) (Q : Flow → Shared → Prop) (E : Value → Shared → Prop) : Value → Shared → Prop := fun v s' => wpAny M A (storeName env x v) (fun _ s'' => wpAny M A (execs rest env) Q E s'') E s'
theorem seq_cons {st : Stmt} (h : wpAny M A (exec st env) (SeqQ M A rest env Q E) E s) : wpAny M A (execs (st :: rest) env) Q E s := wpAny_execs_cons h
theorem seq_next (h : wpAny M A (execs rest env) Q E s) : SeqQ M A rest env Q E .next s := h
theorem seq_ret {v : Value} (h : Q (.ret v) s) : SeqQ M A rest env Q E (.ret v) s := h
theorem seq_brk (h : Q .brk s) : SeqQ M A rest env Q E .brk s := h
theorem seq_cont (h : Q .cont s) : SeqQ M A rest env Q E .cont s := h
theorem seq_one {st : Stmt} (h : wpAny M A (exec st env) Q E s) : wpAny M A (execs [st] env) Q E s :=
  wpAny_execs_cons (wpAny_mono h (fun f s' q => by cases f <;> first | exact wpAny_execs_nil q | exact q) fun _ _ e => e)
theorem ret_cons {e : Expr} {pos : Pos} (h : wpAny M A (eval e env) (fun v s' => Q (.ret v) s') E s) : wpAny M A (execs (.Return (some e) pos :: rest) env) Q E s := wpAny_execs_cons (wpAny_Return_some h)
theorem asg_cons {x : Str} {e : Expr} {pos p : Pos} (hs : swapsWith e (some (.Name x p)) pos.line env = pure false) (h : wpAny M A (eval e env) (AsgQ M A x rest env Q E) E s) : wpAny M A (execs (.Assign [.Name x p] e pos :: rest) env) Q E s := wpAny_execs_cons (wpAny_Assign_Name h hs)
theorem asg_store {cn : Str} {cs : Scope} {L a : Addr} {ccd : Value} {cl : List (Str × Addr)} {h₀ hp : Heap} {ge : Array GenState} {dr : Drawn} {tk : Nat} {os : OsState} {m : Str → Option Value} {news : List (Addr × Obj)} {x : Str} {v : Value} (F : Fr h₀ L hp m) (N : News h₀ L hp news) (hk : cs.kind = .function) (hx : (envX cn cs L a ccd cl).kindOf x = some .local)
    (h : ∀ h' tk', Fr h₀ L h' (fun y => if y = x then some v else m y) → News h₀ L h' news → wpAny M A (execs rest (envX cn cs L a ccd cl)) Q E ⟨h', ge, dr, tk', os⟩) :
    AsgQ M A x rest (envX cn cs L a ccd cl) Q E v ⟨hp, ge, dr, tk, os⟩ := storeX_L F N (fun h' F' N' => h h' _ F' N') hk hx
end
section
variable {prog : Program} {w : World} {A : Around} {E : Value → Shared → Prop} {h₀ hp : Heap} {L a : Addr} {m mg mb : Str → Option Value} {cn : Str} {cs : Scope} {ccd : Value} {cl : List (Str × Addr)} {K : Frag} {p : Program} {loose : List Str} {news : List (Addr × Obj)} {tk k' : Nat} {ge : Array GenState} {dr : Drawn} {os : OsState}
theorem ret_ev {e : Expr} {v : Value} {rest : List Stmt} {pos : Pos} {Q : Flow → Shared → Prop} (F : Fr h₀ L hp m) (X : K.In h₀) (N : News h₀ L hp news) (T : TopRead p loose mg mb h₀) (hk : cs.kind = .function) (H : Ev K m news (envX cn cs L a ccd cl) tk e v k') (h : Q (.ret v) ⟨hp, ge, dr, k', os⟩) : wpAny (model prog w) A (execs (.Return (some e) pos :: rest) (envX cn cs L a ccd cl)) Q E ⟨hp, ge, dr, tk, os⟩ := ret_cons (ev_go X T hk H rfl F N h)
theorem asg_ev {x : Str} {e : Expr} {pos pn : Pos} {v : Value} {rest : List Stmt} {Q : Flow → Shared → Prop} (F : Fr h₀ L hp m) (X : K.In h₀) (N : News h₀ L hp news) (T : TopRead p loose mg mb h₀) (hk : cs.kind = .function) (H : Ev K m news (envX cn cs L a ccd cl) tk e v k') (hs : swapsWith e (some (.Name x pn)) pos.line (envX cn cs L a ccd cl) = pure false) (hx : (envX cn cs L a ccd cl).kindOf x = some .local)
    (h : ∀ h' tk', Fr h₀ L h' (fun y => if y = x then some v else m y) → News h₀ L h' news → wpAny (model prog w) A (execs rest (envX cn cs L a ccd cl)) Q E ⟨h', ge, dr, tk', os⟩) : wpAny (model prog w) A (execs (.Assign [.Name x pn] e pos :: rest) (envX cn cs L a ccd cl)) Q E ⟨hp, ge, dr, tk, os⟩ :=
  asg_cons hs (ev_go X T hk H rfl F N (asg_store F N hk hx h))
end
theorem ao546_iset (w : World) : AttrOK (hd.heap_39 w.params) 546 (Str.ofString "iset") := ⟨by k_is, by k_is, _, by k_is, by k_is⟩
theorem ao546_regs (w : World) : AttrOK (hd.heap_39 w.params) 546 (Str.ofString "regs") := ⟨by k_is, by k_is, _, by k_is, by k_is⟩
theorem ao546_xmm (w : World) : AttrOK (hd.heap_39 w.params) 546 (Str.ofString "xmm") := ⟨by k_is, by k_is, _, by k_is, by k_is⟩
theorem ao546_flags (w : World) : AttrOK (hd.heap_39 w.params) 546 (Str.ofString "flags") := ⟨by k_is, by k_is, _, by k_is, by k_is⟩
theorem ao546_memory (w : World) : AttrOK (hd.heap_39 w.params) 546 (Str.ofString "memory") := ⟨by k_is, by k_is, _, by k_is, by k_is⟩
theorem ao546_rip (w : World) : AttrOK (hd.heap_39 w.params) 546 (Str.ofString "rip") := ⟨by k_is, by k_is, _, by k_is, by k_is⟩
theorem ao546_segments (w : World) : AttrOK (hd.heap_39 w.params) 546 (Str.ofString "segments") := ⟨by k_is, by k_is, _, by k_is, by k_is⟩
theorem ao429_held (w : World) : AttrOK (hd.heap_39 w.params) 429 (Str.ofString "held") := ⟨by k_is, by k_is, _, by k_is, by k_is⟩
theorem ao174_cf (w : World) : AttrOK (hd.heap_39 w.params) 174 (Str.ofString "cf") := ⟨by k_is, by k_is, _, by k_is, by k_is⟩
theorem ao174_pf (w : World) : AttrOK (hd.heap_39 w.params) 174 (Str.ofString "pf") := ⟨by k_is, by k_is, _, by k_is, by k_is⟩
theorem ao174_af (w : World) : AttrOK (hd.heap_39 w.params) 174 (Str.ofString "af") := ⟨by k_is, by k_is, _, by k_is, by k_is⟩
theorem ao174_zf (w : World) : AttrOK (hd.heap_39 w.params) 174 (Str.ofString "zf") := ⟨by k_is, by k_is, _, by k_is, by k_is⟩
theorem ao174_sf (w : World) : AttrOK (hd.heap_39 w.params) 174 (Str.ofString "sf") := ⟨by k_is, by k_is, _, by k_is, by k_is⟩
theorem ao174_of (w : World) : AttrOK (hd.heap_39 w.params) 174 (Str.ofString "of") := ⟨by k_is, by k_is, _, by k_is, by k_is⟩
theorem ao174_df (w : World) : AttrOK (hd.heap_39 w.params) 174 (Str.ofString "df") := ⟨by k_is, by k_is, _, by k_is, by k_is⟩
theorem ao314_name (w : World) : AttrOK (hd.heap_39 w.params) 314 (Str.ofString "name") := ⟨by k_is, by k_is, _, by k_is, by k_is⟩
theorem ao314_kind (w : World) : AttrOK (hd.heap_39 w.params) 314 (Str.ofString "kind") := ⟨by k_is, by k_is, _, by k_is, by k_is⟩
theorem ao314_number (w : World) : AttrOK (hd.heap_39 w.params) 314 (Str.ofString "number") := ⟨by k_is, by k_is, _, by k_is, by k_is⟩
theorem ao314_size (w : World) : AttrOK (hd.heap_39 w.params) 314 (Str.ofString "size") := ⟨by k_is, by k_is, _, by k_is, by k_is⟩
theorem ao623_kind (w : World) : AttrOK (hd.heap_39 w.params) 623 (Str.ofString "kind") := ⟨by k_is, by k_is, _, by k_is, by k_is⟩
theorem ao623_register (w : World) : AttrOK (hd.heap_39 w.params) 623 (Str.ofString "register") := ⟨by k_is, by k_is, _, by k_is, by k_is⟩
theorem ao657_kind (w : World) : AttrOK (hd.heap_39 w.params) 657 (Str.ofString "kind") := ⟨by k_is, by k_is, _, by k_is, by k_is⟩
theorem ao657_worth (w : World) : AttrOK (hd.heap_39 w.params) 657 (Str.ofString "worth") := ⟨by k_is, by k_is, _, by k_is, by k_is⟩
theorem ao657_name (w : World) : AttrOK (hd.heap_39 w.params) 657 (Str.ofString "name") := ⟨by k_is, by k_is, _, by k_is, by k_is⟩
theorem ao698_kind (w : World) : AttrOK (hd.heap_39 w.params) 698 (Str.ofString "kind") := ⟨by k_is, by k_is, _, by k_is, by k_is⟩
theorem ao698_worth (w : World) : AttrOK (hd.heap_39 w.params) 698 (Str.ofString "worth") := ⟨by k_is, by k_is, _, by k_is, by k_is⟩
theorem ao698_name (w : World) : AttrOK (hd.heap_39 w.params) 698 (Str.ofString "name") := ⟨by k_is, by k_is, _, by k_is, by k_is⟩
theorem ao751_kind (w : World) : AttrOK (hd.heap_39 w.params) 751 (Str.ofString "kind") := ⟨by k_is, by k_is, _, by k_is, by k_is⟩
theorem ao751_base (w : World) : AttrOK (hd.heap_39 w.params) 751 (Str.ofString "base") := ⟨by k_is, by k_is, _, by k_is, by k_is⟩
theorem ao751_index (w : World) : AttrOK (hd.heap_39 w.params) 751 (Str.ofString "index") := ⟨by k_is, by k_is, _, by k_is, by k_is⟩
theorem ao751_scale (w : World) : AttrOK (hd.heap_39 w.params) 751 (Str.ofString "scale") := ⟨by k_is, by k_is, _, by k_is, by k_is⟩
theorem ao751_worth (w : World) : AttrOK (hd.heap_39 w.params) 751 (Str.ofString "worth") := ⟨by k_is, by k_is, _, by k_is, by k_is⟩
theorem ao751_size (w : World) : AttrOK (hd.heap_39 w.params) 751 (Str.ofString "size") := ⟨by k_is, by k_is, _, by k_is, by k_is⟩
theorem ao751_segment (w : World) : AttrOK (hd.heap_39 w.params) 751 (Str.ofString "segment") := ⟨by k_is, by k_is, _, by k_is, by k_is⟩
theorem ao751_name (w : World) : AttrOK (hd.heap_39 w.params) 751 (Str.ofString "name") := ⟨by k_is, by k_is, _, by k_is, by k_is⟩
theorem ao804_name (w : World) : AttrOK (hd.heap_39 w.params) 804 (Str.ofString "name") := ⟨by k_is, by k_is, _, by k_is, by k_is⟩
theorem ao804_operands (w : World) : AttrOK (hd.heap_39 w.params) 804 (Str.ofString "operands") := ⟨by k_is, by k_is, _, by k_is, by k_is⟩
theorem ao804_prefix (w : World) : AttrOK (hd.heap_39 w.params) 804 (Str.ofString "prefix") := ⟨by k_is, by k_is, _, by k_is, by k_is⟩
theorem mo546_get (w : World) : MethOK (hd.heap_39 w.params) 546 (Str.ofString "get") 461 := ⟨by k_is, by k_is, by k_is, by k_is⟩
theorem mo546_put (w : World) : MethOK (hd.heap_39 w.params) 546 (Str.ofString "put") 468 := ⟨by k_is, by k_is, by k_is, by k_is⟩
theorem mo546_put_low (w : World) : MethOK (hd.heap_39 w.params) 546 (Str.ofString "put_low") 475 := ⟨by k_is, by k_is, by k_is, by k_is⟩
theorem mo546_offset (w : World) : MethOK (hd.heap_39 w.params) 546 (Str.ofString "offset") 487 := ⟨by k_is, by k_is, by k_is, by k_is⟩
theorem mo546_place (w : World) : MethOK (hd.heap_39 w.params) 546 (Str.ofString "place") 494 := ⟨by k_is, by k_is, by k_is, by k_is⟩
theorem mo546_size_of (w : World) : MethOK (hd.heap_39 w.params) 546 (Str.ofString "size_of") 501 := ⟨by k_is, by k_is, by k_is, by k_is⟩
theorem mo546_read (w : World) : MethOK (hd.heap_39 w.params) 546 (Str.ofString "read") 508 := ⟨by k_is, by k_is, by k_is, by k_is⟩
theorem mo546_write (w : World) : MethOK (hd.heap_39 w.params) 546 (Str.ofString "write") 515 := ⟨by k_is, by k_is, by k_is, by k_is⟩
theorem mo546_push (w : World) : MethOK (hd.heap_39 w.params) 546 (Str.ofString "push") 522 := ⟨by k_is, by k_is, by k_is, by k_is⟩
theorem mo546_pop (w : World) : MethOK (hd.heap_39 w.params) 546 (Str.ofString "pop") 529 := ⟨by k_is, by k_is, by k_is, by k_is⟩
theorem mo429_octet (w : World) : MethOK (hd.heap_39 w.params) 429 (Str.ofString "octet") 360 := ⟨by k_is, by k_is, by k_is, by k_is⟩
theorem mo429_set_octet (w : World) : MethOK (hd.heap_39 w.params) 429 (Str.ofString "set_octet") 367 := ⟨by k_is, by k_is, by k_is, by k_is⟩
theorem mo429_read (w : World) : MethOK (hd.heap_39 w.params) 429 (Str.ofString "read") 374 := ⟨by k_is, by k_is, by k_is, by k_is⟩
theorem mo429_write (w : World) : MethOK (hd.heap_39 w.params) 429 (Str.ofString "write") 381 := ⟨by k_is, by k_is, by k_is, by k_is⟩
theorem mo174_told (w : World) : MethOK (hd.heap_39 w.params) 174 (Str.ofString "told") 122 := ⟨by k_is, by k_is, by k_is, by k_is⟩
theorem mo174_pack (w : World) : MethOK (hd.heap_39 w.params) 174 (Str.ofString "pack") 129 := ⟨by k_is, by k_is, by k_is, by k_is⟩
theorem mo174_unpack (w : World) : MethOK (hd.heap_39 w.params) 174 (Str.ofString "unpack") 136 := ⟨by k_is, by k_is, by k_is, by k_is⟩

example : True := by
  k_with "call ref" => ((k_here; (with_reducible show wpAny _ _ (PySem.call (Value.ref 80) _ _) _ _ _); k_dflt (refine' Mine.c_mask ?B ?F ?X ?T ?k ?N ?a1 ?a2 ?d ?_; (case B => k_asm); (case F => k_asm); (case X => k_asm); (case T => k_asm); (case k => first | exact rfl | assumption); (case N => k_asm); (case a1 => omega); (case a2 => omega); (case d => ktr_room)); intro h' tk' t' F' N'; (try dsimp only at N'); (try k_sweep)))
  k_with "call ref" => ((k_here; (with_reducible show wpAny _ _ (PySem.call (Value.ref 87) _ _) _ _ _); k_dflt (refine' Mine.c_wrap ?B ?F ?X ?T ?k ?N ?a1 ?a2 ?d ?_; (case B => k_asm); (case F => k_asm); (case X => k_asm); (case T => k_asm); (case k => first | exact rfl | assumption); (case N => k_asm); (case a1 => omega); (case a2 => omega); (case d => ktr_room)); intro h' tk' t' F' N'; (try dsimp only at N'); (try k_sweep)))
  k_with "call ref" => ((k_here; (with_reducible show wpAny _ _ (PySem.call (Value.ref 94) _ _) _ _ _); k_dflt (refine' Mine.c_bit ?B ?F ?X ?T ?k ?N ?a1 ?a2 ?d ?_; (case B => k_asm); (case F => k_asm); (case X => k_asm); (case T => k_asm); (case k => first | exact rfl | assumption); (case N => k_asm); (case a1 => omega); (case a2 => omega); (case d => ktr_room)); intro h' tk' t' F' N'; (try dsimp only at N'); (try k_sweep)))
  trivial
noncomputable def mapL : List (Str × Value) → Str → Option Value
  | [] => fun _ => none
  | (x, v) :: r => fun y => if y = x then some v else mapL r y
theorem mapL_eq : ∀ (l : List (Str × Value)) (y : Str), l.lookup y = mapL l y
  | [], _ => rfl
  | (x, v) :: r, y => by
    rw [List.lookup_cons, mapL_eq r y]
    show _ = if y = x then some v else mapL r y
    by_cases h : y = x
    · simp [h]
    · rw [if_neg h, show (y == x) = false from by simp [h]]
theorem enter_def {prog : Program} {w : World} {A A₀ : Around} {E : Value → Shared → Prop} {stH : Heap} {stG : Array GenState} {stD : Drawn} {stT : Nat} {stO : OsState} {K : Frag} {L : Addr} {h₀ base : Heap} {m mg mb : Str → Option Value} {news : List (Addr × Obj)} {p : Program} {loose : List Str} {mean : ExcName → Option Value} {Q : Value → Shared → Prop}
    {env : Env} {outer : List Env} {name qual : Str} {params : Arguments} {body : List Stmt} {scope : Scope} {dV kV doc pm cdv ct oc : Value} {an od : Option Addr} {osl : Array (Option Value)} {f : Addr} {args : List Value} (binds : List (Str × Value))
    (B : Below A₀ base outer h₀) (F : Fr h₀ L stH m) (X₀ : K.In h₀) (N : News h₀ L stH news) (T : Top p loose mean mg mb h₀) (hA : A.frames = some (env :: outer)) (hf : env.frame = some L) (hke : env.scope.kind = .function)
    (ho : K.lookup f = some ⟨oc, od, .func (fnOf name qual params body scope dV kV doc pm an cdv ct), osl⟩) (hcd : codeIn K cdv qual = true) (hroom : A.depth < recursionLimit)
    (hbind : BindsTo ⟨stH, stG, stD, stT, stO⟩ (fnOf name qual params body scope dV kV doc pm an cdv ct) ⟨args, []⟩ binds) (hloc : ∀ y ∈ binds, scope.names.lookup y.1 = some .local)
    (h : ∀ g L' h₁ tk, Fr h₀ L g m → Fr g L' h₁ (mapL binds.reverse) → News g L' h₁ news → Below A base (env :: outer) g → K.In g → Top p loose mean mg mb g →
      wpAny (model prog w) (A.deeper (envOf qual scope L' f cdv)) (execs body (envOf qual scope L' f cdv))
        (fun fl s' => LeaveK h₀ L m g (fun r s' => match r with | .ok (.ret v) => Q v s' | .ok _ => False | .error e => E e s') (match fl with | .ret v => v | _ => .none) s')
        (fun e s' => wpAny (model prog w) (A.deeper (envOf qual scope L' f cdv)) (leaving (envOf qual scope L' f cdv) e) (fun _ s'' => E e s'') (fun e' s'' => E e' s'') s')
        ⟨h₁, stG, stD, tk, stO⟩)
    (hco : scope.isCoroutine = false) (hgen : scope.isGenerator = false) (hk : scope.kind = .function)
    (hcell : ∀ x ∈ scope.names, x.2 ≠ .cell) : wpAny (model prog w) A (call (.ref f) args) Q E ⟨stH, stG, stD, stT, stO⟩ :=
  wpAny_call (code_def B F X₀ N T hA hf hke ho hcd hroom hbind hloc (fun g L' h₁ FG F' N' B' X' T' => h g L' h₁ _ FG (by rw [show (fun y => binds.reverse.lookup y) = mapL binds.reverse from funext (mapL_eq _)] at F'; exact F') N' B' X' T') hco hgen hk hcell)
theorem enter_zip {prog : Program} {w : World} {A A₀ : Around} {E : Value → Shared → Prop} {stH : Heap} {stG : Array GenState} {stD : Drawn} {stT : Nat} {stO : OsState} {K : Frag} {L : Addr} {h₀ base : Heap} {m mg mb : Str → Option Value} {news : List (Addr × Obj)} {p : Program} {loose : List Str} {mean : ExcName → Option Value} {Q : Value → Shared → Prop}
    {env : Env} {outer : List Env} {name qual : Str} {params : Arguments} {body : List Stmt} {scope : Scope} {dV kV doc pm cdv ct oc : Value} {an od : Option Addr} {osl : Array (Option Value)} {f : Addr} {args : List Value} (names : List Str)
    (B : Below A₀ base outer h₀) (F : Fr h₀ L stH m) (X₀ : K.In h₀) (N : News h₀ L stH news) (T : Top p loose mean mg mb h₀) (hA : A.frames = some (env :: outer)) (hf : env.frame = some L) (hke : env.scope.kind = .function)
    (ho : K.lookup f = some ⟨oc, od, .func (fnOf name qual params body scope dV kV doc pm an cdv ct), osl⟩) (hcd : codeIn K cdv qual = true) (hroom : A.depth < recursionLimit)
    (hbind : BindsTo ⟨stH, stG, stD, stT, stO⟩ (fnOf name qual params body scope dV kV doc pm an cdv ct) ⟨args, []⟩ (names.zip args)) (hloc : ∀ y ∈ names.zip args, scope.names.lookup y.1 = some .local)
    (h : ∀ g L' h₁ tk, Fr h₀ L g m → Fr g L' h₁ (mapL (names.zip args).reverse) → News g L' h₁ news → Below A base (env :: outer) g → K.In g → Top p loose mean mg mb g →
      wpAny (model prog w) (A.deeper (envOf qual scope L' f cdv)) (execs body (envOf qual scope L' f cdv))
        (fun fl s' => LeaveK h₀ L m g (fun r s' => match r with | .ok (.ret v) => Q v s' | .ok _ => False | .error e => E e s') (match fl with | .ret v => v | _ => .none) s')
        (fun e s' => wpAny (model prog w) (A.deeper (envOf qual scope L' f cdv)) (leaving (envOf qual scope L' f cdv) e) (fun _ s'' => E e s'') (fun e' s'' => E e' s'') s')
        ⟨h₁, stG, stD, tk, stO⟩)
    (hco : scope.isCoroutine = false) (hgen : scope.isGenerator = false) (hk : scope.kind = .function)
    (hcell : ∀ x ∈ scope.names, x.2 ≠ .cell) : wpAny (model prog w) A (call (.ref f) args) Q E ⟨stH, stG, stD, stT, stO⟩ :=
  enter_def (names.zip args) B F X₀ N T hA hf hke ho hcd hroom hbind hloc h hco hgen hk hcell
theorem code_zip {prog : Program} {w : World} {A A₀ : Around} {stH : Heap} {stG : Array GenState} {stD : Drawn} {stT : Nat} {stO : OsState} {K : Frag} {L : Addr} {h₀ base : Heap} {m mg mb : Str → Option Value} {news : List (Addr × Obj)} {p : Program} {loose : List Str} {mean : ExcName → Option Value} {R : Result → Shared → Prop}
    {env : Env} {outer : List Env} {name qual : Str} {params : Arguments} {body : List Stmt} {scope : Scope} {dV kV doc pm cdv ct oc : Value} {an od : Option Addr} {osl : Array (Option Value)} {f : Addr} {args : List Value} (names : List Str)
    (B : Below A₀ base outer h₀) (F : Fr h₀ L stH m) (X₀ : K.In h₀) (N : News h₀ L stH news) (T : Top p loose mean mg mb h₀) (hA : A.frames = some (env :: outer)) (hf : env.frame = some L) (hke : env.scope.kind = .function)
    (ho : K.lookup f = some ⟨oc, od, .func (fnOf name qual params body scope dV kV doc pm an cdv ct), osl⟩) (hcd : codeIn K cdv qual = true) (hroom : A.depth < recursionLimit)
    (hbind : BindsTo ⟨stH, stG, stD, stT, stO⟩ (fnOf name qual params body scope dV kV doc pm an cdv ct) ⟨args, []⟩ (names.zip args)) (hloc : ∀ y ∈ names.zip args, scope.names.lookup y.1 = some .local)
    (h : ∀ g L' h₁ tk, Fr h₀ L g m → Fr g L' h₁ (mapL (names.zip args).reverse) → News g L' h₁ news → Below A base (env :: outer) g → K.In g → Top p loose mean mg mb g →
      wpAny (model prog w) (A.deeper (envOf qual scope L' f cdv)) (execs body (envOf qual scope L' f cdv))
        (fun fl s' => LeaveK h₀ L m g R (match fl with | .ret v => v | _ => .none) s')
        (fun e s' => wpAny (model prog w) (A.deeper (envOf qual scope L' f cdv)) (leaving (envOf qual scope L' f cdv) e) (fun _ s'' => R (.error e) s'') (fun e' s'' => R (.error e') s'') s')
        ⟨h₁, stG, stD, tk, stO⟩)
    (hco : scope.isCoroutine = false) (hgen : scope.isGenerator = false) (hk : scope.kind = .function)
    (hcell : ∀ x ∈ scope.names, x.2 ≠ .cell) : codeAny (model prog w) A (.call (.ref f) ⟨args, []⟩) R ⟨stH, stG, stD, stT, stO⟩ :=
  code_def B F X₀ N T hA hf hke ho hcd hroom hbind hloc (fun g L' h₁ FG F' N' B' X' T' => h g L' h₁ _ FG (by rw [show (fun y => (names.zip args).reverse.lookup y) = mapL (names.zip args).reverse from funext (mapL_eq _)] at F'; exact F') N' B' X' T') hco hgen hk hcell
theorem code_zipD {prog : Program} {w : World} {A A₀ : Around} {stH : Heap} {stG : Array GenState} {stD : Drawn} {stT : Nat} {stO : OsState} {K : Frag} {L : Addr} {h₀ base : Heap} {m mg mb : Str → Option Value} {news : List (Addr × Obj)} {p : Program} {loose : List Str} {mean : ExcName → Option Value} {R : Result → Shared → Prop}
    {env : Env} {outer : List Env} {name qual : Str} {params : Arguments} {body : List Stmt} {scope : Scope} {dV kV doc pm cdv ct oc : Value} {an od : Option Addr} {osl : Array (Option Value)} {f : Addr} {args : List Value} (names : List Str) (dfl : List Value)
    (B : Below A₀ base outer h₀) (F : Fr h₀ L stH m) (X₀ : K.In h₀) (N : News h₀ L stH news) (T : Top p loose mean mg mb h₀) (hA : A.frames = some (env :: outer)) (hf : env.frame = some L) (hke : env.scope.kind = .function)
    (ho : K.lookup f = some ⟨oc, od, .func (fnOf name qual params body scope dV kV doc pm an cdv ct), osl⟩) (hcd : codeIn K cdv qual = true) (hroom : A.depth < recursionLimit)
    (hbind : BindsTo ⟨stH, stG, stD, stT, stO⟩ (fnOf name qual params body scope dV kV doc pm an cdv ct) ⟨args, []⟩ (names.zip (args ++ dfl))) (hloc : ∀ y ∈ names.zip (args ++ dfl), scope.names.lookup y.1 = some .local)
    (h : ∀ g L' h₁ tk, Fr h₀ L g m → Fr g L' h₁ (mapL (names.zip (args ++ dfl)).reverse) → News g L' h₁ news → Below A base (env :: outer) g → K.In g → Top p loose mean mg mb g →
      wpAny (model prog w) (A.deeper (envOf qual scope L' f cdv)) (execs body (envOf qual scope L' f cdv))
        (fun fl s' => LeaveK h₀ L m g R (match fl with | .ret v => v | _ => .none) s')
        (fun e s' => wpAny (model prog w) (A.deeper (envOf qual scope L' f cdv)) (leaving (envOf qual scope L' f cdv) e) (fun _ s'' => R (.error e) s'') (fun e' s'' => R (.error e') s'') s')
        ⟨h₁, stG, stD, tk, stO⟩)
    (hco : scope.isCoroutine = false) (hgen : scope.isGenerator = false) (hk : scope.kind = .function)
    (hcell : ∀ x ∈ scope.names, x.2 ≠ .cell) : codeAny (model prog w) A (.call (.ref f) ⟨args, []⟩) R ⟨stH, stG, stD, stT, stO⟩ :=
  code_def B F X₀ N T hA hf hke ho hcd hroom hbind hloc (fun g L' h₁ FG F' N' B' X' T' => h g L' h₁ _ FG (by rw [show (fun y => (names.zip (args ++ dfl)).reverse.lookup y) = mapL (names.zip (args ++ dfl)).reverse from funext (mapL_eq _)] at F'; exact F') N' B' X' T') hco hgen hk hcell
theorem fdiv_pow2 (v : Int) (k : Nat) : v.fdiv (2 ^ k) = v / 2 ^ k := Int.fdiv_eq_ediv_of_nonneg _ (Int.le_of_lt (kbt_pos k))
theorem fmod_pow2 (v : Int) (k : Nat) : v.fmod (2 ^ k) = v % 2 ^ k := Int.fmod_eq_emod_of_nonneg _ (Int.le_of_lt (kbt_pos k))
section
variable {w : World} {dp un : Nat} {gd : Option (List Code)} {cn : Str} {cs : Scope} {a : Addr} {ccd : Value} {cl : List (Str × Addr)} {outer : List Env} {A₀ : Around} {base h₀ : Heap} {L : Addr} {m : Str → Option Value} {stH : Heap} {stG : Array GenState} {stD : Drawn} {stT : Nat} {stO : OsState} {Q E : Value → Shared → Prop} {p : Program} {loose : List Str} {mean : ExcName → Option Value} {mg mb : Str → Option Value} {news : List (Addr × Obj)}
    (B : Below A₀ base outer h₀) (F : Fr h₀ L stH m) (X : (hd.heap_39 w.params).In h₀) (T : Top p loose mean mg mb h₀) (hk : cs.kind = .function) (N : News h₀ L stH news)
include B F X T hk N
theorem c_mask {n : Int} {t : Tok} (h0 : 0 ≤ n) (h1 : n ≤ 128) (hdp : dp + 2 < recursionLimit)
    (ret : ∀ h' tk' t', Fr h₀ L h' m → News h₀ L h' news → Q (.int ((2 : Int) ^ n.toNat - 1) t') ⟨h', stG, stD, tk', stO⟩) :
    wpAny (model PySem.Challenge.rw_nn0065_01.row.prog w) (ktrTop dp un gd cn cs L a ccd cl outer) (call (.ref 80) [.int n t]) Q E ⟨stH, stG, stD, stT, stO⟩ := by
  k_dflt (refine' enter_def [(Str.ofString "size", .int n t)] ?k1 ?k2 ?k3 ?k4 ?k5 ?kA ?kF ?kK ?k6 ?k7 ?k8 ?k9 ?kB ?_ ?c2 ?c3 ?c4 ?c5; k_extra "en")
  k_steps
  rw [Int.one_mul]
  exact ret _ _ _ (by k_asm) (by k_asm)
end
section
variable {w : World} {dp un : Nat} {gd : Option (List Code)} {cn : Str} {cs : Scope} {a : Addr} {ccd : Value} {cl : List (Str × Addr)} {outer : List Env} {A₀ : Around} {base h₀ : Heap} {L : Addr} {m : Str → Option Value} {stH : Heap} {stG : Array GenState} {stD : Drawn} {stT : Nat} {stO : OsState} {Q E : Value → Shared → Prop} {p : Program} {loose : List Str} {mean : ExcName → Option Value} {mg mb : Str → Option Value} {news : List (Addr × Obj)}
    (B : Below A₀ base outer h₀) (F : Fr h₀ L stH m) (X : (hd.heap_39 w.params).In h₀) (T : Top p loose mean mg mb h₀) (hk : cs.kind = .function) (N : News h₀ L stH news)
include B F X T hk N
theorem c_wrap {v n : Int} {t t2 : Tok} (h0 : 0 ≤ n) (h1 : n ≤ 128) (hdp : dp + 4 < recursionLimit)
    (ret : ∀ h' tk' t', Fr h₀ L h' m → News h₀ L h' news → Q (.int (v % (2 : Int) ^ n.toNat) t') ⟨h', stG, stD, tk', stO⟩) :
    wpAny (model PySem.Challenge.rw_nn0065_01.row.prog w) (ktrTop dp un gd cn cs L a ccd cl outer) (call (.ref 87) [.int v t2, .int n t]) Q E ⟨stH, stG, stD, stT, stO⟩ := by
  k_dflt (refine' enter_def [(Str.ofString "worth", .int v t2), (Str.ofString "size", .int n t)] ?k1 ?k2 ?k3 ?k4 ?k5 ?kA ?kF ?kK ?k6 ?k7 ?k8 ?k9 ?kB ?_ ?c2 ?c3 ?c4 ?c5; k_extra "en")
  k_steps
  rw [kbt_mask]
  exact ret _ _ _ (by k_asm) (by k_asm)
end
section
variable {w : World} {dp un : Nat} {gd : Option (List Code)} {cn : Str} {cs : Scope} {a : Addr} {ccd : Value} {cl : List (Str × Addr)} {outer : List Env} {A₀ : Around} {base h₀ : Heap} {L : Addr} {m : Str → Option Value} {stH : Heap} {stG : Array GenState} {stD : Drawn} {stT : Nat} {stO : OsState} {Q E : Value → Shared → Prop} {p : Program} {loose : List Str} {mean : ExcName → Option Value} {mg mb : Str → Option Value} {news : List (Addr × Obj)}
    (B : Below A₀ base outer h₀) (F : Fr h₀ L stH m) (X : (hd.heap_39 w.params).In h₀) (T : Top p loose mean mg mb h₀) (hk : cs.kind = .function) (N : News h₀ L stH news)
include B F X T hk N
theorem c_bit {v n : Int} {t t2 : Tok} (h0 : 0 ≤ n) (h1 : n ≤ 128) (hdp : dp + 4 < recursionLimit)
    (ret : ∀ h' tk' t', Fr h₀ L h' m → News h₀ L h' news → Q (.int (v / (2 : Int) ^ n.toNat % 2) t') ⟨h', stG, stD, tk', stO⟩) :
    wpAny (model PySem.Challenge.rw_nn0065_01.row.prog w) (ktrTop dp un gd cn cs L a ccd cl outer) (call (.ref 94) [.int v t2, .int n t]) Q E ⟨stH, stG, stD, stT, stO⟩ := by
  k_dflt (refine' enter_def [(Str.ofString "worth", .int v t2), (Str.ofString "n", .int n t)] ?k1 ?k2 ?k3 ?k4 ?k5 ?kA ?kF ?kK ?k6 ?k7 ?k8 ?k9 ?kB ?_ ?c2 ?c3 ?c4 ?c5; k_extra "en")
  k_steps
  rw [bitAnd_m1, fdiv_pow2]
  exact ret _ _ _ (by k_asm) (by k_asm)
end
local macro_rules | `(tactic| k_mem) => `(tactic| ((show _ ∈ (_ : List (PySem.Addr × PySem.Obj))); ktr_member))
local macro_rules | `(tactic| k_updF) => `(tactic| with_reducible assumption)
local macro_rules | `(tactic| k_upd) => do
  let c := Lean.mkIdent `Mine.UpdF.upd
  `(tactic| exact $c (by with_reducible assumption))
example : True := by
  k_with "exec For" => ((k_here; (rename LoopMark => lM9); (rename Fr _ _ _ _ => lF'); (with_unfolding_all refine' For_invVF lF' ?k1 ?k2 ?_; (case k1 => exact rfl); (case k2 => exact rfl); k_whole)))
  k_with "call type:range" => ((k_here; (rename LoopMark => lM9); (rename Fr _ _ _ _ => F'); (rename News _ _ _ _ => N'); (with_unfolding_all refine range1_rows F' N' ?_); clear F' N'; intro h' tk' t1' u1' v1' r' F' N' _; (try k_sweep)))
  k_with "pyIter ref" => ((k_here; (rename LoopMark => lM9); refine stop_intro ?_))
  k_with "InvEndN" => (((rename LoopMark => lM9); refine stop_intro ?_))
  k_with "call ref" => ((k_here; (with_reducible show wpAny _ _ (PySem.call (Value.ref 360) _ _) _ _ _); k_dflt (refine' Mine.c_octet ?B ?F ?X ?T ?k ?N ?mMea ?mMeb ?mH ?D ?d ?_; (case B => k_asm); (case F => k_asm); (case X => k_asm); (case T => k_asm); (case k => first | exact rfl | assumption); (case N => k_asm); (case mMea => k_mem); (case mMeb => k_mem); (case mH => k_mem); (case D => k_asm); (case d => ktr_room)); intro h' tk' t' F' N' b0' b1'; (try dsimp only at N'); (try k_sweep)))
  k_with "call ref" => ((k_here; (with_reducible show wpAny _ _ (PySem.call (Value.ref 367) _ _) _ _ _); k_dflt (refine' Mine.c_set_octet ?B ?F ?X ?T ?k ?N ?U ?nmMea ?nmMeb ?mMea ?mMeb ?D ?c ?e0 ?e1 ?d ?_; (case B => k_asm); (case F => k_asm); (case X => k_asm); (case T => k_asm); (case k => first | exact rfl | assumption); (case N => k_asm); (case nmMea => k_mem); (case nmMeb => k_mem); (case U => k_updF); (case mMea => first | with_reducible assumption | (intros; k_mem)); (case mMeb => first | with_reducible assumption | (intros; k_mem)); (case D => k_asm); (case c => omega); (case e0 => omega); (case e1 => omega); (case d => ktr_room)); intro h' tk' o' F' N' D'; (try dsimp only at N'); (try k_sweep)))
  k_with "call ref" => ((k_here; (with_reducible show wpAny _ _ (PySem.call (Value.ref 374) _ _) _ _ _); k_dflt (refine' Mine.c_read ?B ?F ?X ?T ?k ?N ?mMea ?mMeb ?mH ?D ?w0 ?w ?d ?_; (case B => k_asm); (case F => k_asm); (case X => k_asm); (case T => k_asm); (case k => first | exact rfl | assumption); (case N => k_asm); (case mMea => k_mem); (case mMeb => k_mem); (case mH => k_mem); (case D => k_asm); (case w0 => first | omega | decide); (case w => first | omega | decide); (case d => ktr_room)); intro h' tk' t' F' N'; (try dsimp only at N'); (try k_sweep)))
  trivial
/-- a dict of ints and its data -/
noncomputable def DI (w : World) (H : Addr) (o : Obj) (c : List (Int × Int)) : Prop := (H == sysModules) = false ∧ ∃ kvs, o.IsDictOf (PySem.intKind PySem.Challenge.rw_nn0065_01.row.prog w) kvs ∧ FlatPairs PyData.int kvs (kdfD c) ∧ ∀ p ∈ c, 0 ≤ p.2 ∧ p.2 < 256
theorem kdfLook_octet {c : List (Int × Int)} (h : ∀ p ∈ c, 0 ≤ p.2 ∧ p.2 < 256) (k : Int) : 0 ≤ kdfLook c k 0 ∧ kdfLook c k 0 < 256 := by
  unfold kdfLook
  cases hf : c.find? fun p => decide (p.1 = k) with
  | none => exact ⟨by decide, by decide⟩
  | some p => exact h p (List.mem_of_find?_eq_some hf)
theorem kdfPut_octet {c : List (Int × Int)} (h : ∀ p ∈ c, 0 ≤ p.2 ∧ p.2 < 256) (k : Int) {v : Int} (h0 : 0 ≤ v) (h1 : v < 256) : ∀ p ∈ kdfPut c k v, 0 ≤ p.2 ∧ p.2 < 256 := by
  unfold kdfPut
  split
  · intro p hp
    obtain ⟨q, hq, rfl⟩ := List.mem_map.mp hp
    by_cases e : q.1 = k
    · rw [if_pos (decide_eq_true e)]; exact ⟨h0, h1⟩
    · rw [if_neg (by simp [e])]; exact h q hq
  · intro p hp
    rcases List.mem_append.mp hp with hp | hp
    · exact h p hp
    · rw [List.mem_singleton.mp hp]; exact ⟨h0, h1⟩
theorem p64 : (2 : Int) ^ Int.toNat 64 = 18446744073709551616 := by decide
theorem UpdF.again {d : Addr} {o o' : Obj} {l : List (Addr × Obj)} {u : Obj → List (Addr × Obj)} (U : UpdF d o l u) : UpdF d o' (u o') u := by
  induction U with
  | head h => exact .head h
  | tail h _ ih => exact .tail h ih
theorem UpdF.upd {d : Addr} {o o' : Obj} {l : List (Addr × Obj)} {u : Obj → List (Addr × Obj)} (U : UpdF d o l u) : Upd d o o' l (u o') := by
  induction U with
  | head h => exact .head h
  | tail h _ ih => exact .tail h ih
theorem UpdF.self {d : Addr} {o : Obj} {l : List (Addr × Obj)} {u : Obj → List (Addr × Obj)} (U : UpdF d o l u) : u o = l := by
  induction U with
  | head h => rfl
  | tail h _ ih => show _ :: _ = _; rw [ih]
theorem UpdF.mem {d : Addr} {o : Obj} {l : List (Addr × Obj)} {u : Obj → List (Addr × Obj)} (U : UpdF d o l u) (o' : Obj) : (d, o') ∈ u o' := by
  induction U with
  | head h => exact .head _
  | tail h _ ih => exact .tail _ ih
section
variable {w : World} {dp un : Nat} {gd : Option (List Code)} {cn : Str} {cs : Scope} {a : Addr} {ccd : Value} {cl : List (Str × Addr)} {outer : List Env} {A₀ : Around} {base h₀ : Heap} {L : Addr} {m : Str → Option Value} {stH : Heap} {stG : Array GenState} {stD : Drawn} {stT : Nat} {stO : OsState} {Q E : Value → Shared → Prop} {p : Program} {loose : List Str} {mean : ExcName → Option Value} {mg mb : Str → Option Value} {news : List (Addr × Obj)}
    (B : Below A₀ base outer h₀) (F : Fr h₀ L stH m) (X : (hd.heap_39 w.params).In h₀) (T : Top p loose mean mg mb h₀) (hk : cs.kind = .function) (N : News h₀ L stH news)
include B F X T hk N
theorem c_octet {Me : Addr} {H : Addr} {dMe : Addr} {hMe0 : Int} {kMe0 : Tok} {oH : Obj} {c : List (Int × Int)} {v : Int} {t : Tok}
    (mMea : (Me, instObj 429 dMe) ∈ news) (mMeb : (dMe, dictOf [⟨hMe0, .str (Str.ofString "held") kMe0, .ref H⟩] 1) ∈ news) (mH : (H, oH) ∈ news) (D : DI w H oH c) (hdp : dp + 6 < recursionLimit)
    (ret : ∀ h' tk' t', Fr h₀ L h' m → News h₀ L h' news → 0 ≤ kdfLook c (v % 18446744073709551616) 0 → kdfLook c (v % 18446744073709551616) 0 < 256 → Q (.int (kdfLook c (v % 18446744073709551616) 0) t') ⟨h', stG, stD, tk', stO⟩) :
    wpAny (model PySem.Challenge.rw_nn0065_01.row.prog w) (ktrTop dp un gd cn cs L a ccd cl outer) (call (.ref 360) [.ref Me, .int v t]) Q E ⟨stH, stG, stD, stT, stO⟩ := by
  obtain ⟨lo, kvs, hd, hf, ho⟩ := D
  k_dflt (refine' enter_def [(Str.ofString "self", .ref Me), (Str.ofString "place", .int v t)] ?k1 ?k2 ?k3 ?k4 ?k5 ?kA ?kF ?kK ?k6 ?k7 ?k8 ?k9 ?kB ?_ ?c2 ?c3 ?c4 ?c5; k_extra "en")
  k_steps
  rw [p64]
  exact ret _ _ _ (by k_asm) (by k_asm) (kdfLook_octet ho _).1 (kdfLook_octet ho _).2
end
section
variable {w : World} {dp un : Nat} {gd : Option (List Code)} {cn : Str} {cs : Scope} {a : Addr} {ccd : Value} {cl : List (Str × Addr)} {outer : List Env} {A₀ : Around} {base h₀ : Heap} {L : Addr} {m : Str → Option Value} {stH : Heap} {stG : Array GenState} {stD : Drawn} {stT : Nat} {stO : OsState} {Q E : Value → Shared → Prop} {p : Program} {loose : List Str} {mean : ExcName → Option Value} {mg mb : Str → Option Value} {news : List (Addr × Obj)}
    (B : Below A₀ base outer h₀) (F : Fr h₀ L stH m) (X : (hd.heap_39 w.params).In h₀) (T : Top p loose mean mg mb h₀) (hk : cs.kind = .function) (N : News h₀ L stH news)
include B F X T hk N
theorem c_set_octet {Me : Addr} {H : Addr} {dMe : Addr} {hMe0 : Int} {kMe0 : Tok} {oH : Obj} {c : List (Int × Int)} {v e : Int} {t t2 : Tok} {u : Obj → List (Addr × Obj)}
    (U : UpdF H oH news u) (nmMea : (Me, instObj 429 dMe) ∈ news) (nmMeb : (dMe, dictOf [⟨hMe0, .str (Str.ofString "held") kMe0, .ref H⟩] 1) ∈ news) (mMea : ∀ o, (Me, instObj 429 dMe) ∈ u o) (mMeb : ∀ o, (dMe, dictOf [⟨hMe0, .str (Str.ofString "held") kMe0, .ref H⟩] 1) ∈ u o) (D : DI w H oH c) (hc : c.length ≤ 1000000) (he0 : 0 ≤ e) (he1 : e < 256) (hdp : dp + 6 < recursionLimit)
    (ret : ∀ h' tk' o', Fr h₀ L h' m → News h₀ L h' (u o') → DI w H o' (kdfPut c (v % 18446744073709551616) e) → Q .none ⟨h', stG, stD, tk', stO⟩) :
    wpAny (model PySem.Challenge.rw_nn0065_01.row.prog w) (ktrTop dp un gd cn cs L a ccd cl outer) (call (.ref 367) [.ref Me, .int v t, .int e t2]) Q E ⟨stH, stG, stD, stT, stO⟩ := by
  obtain ⟨lo, kvs, hd, hf, ho⟩ := D
  k_dflt (refine' enter_def [(Str.ofString "self", .ref Me), (Str.ofString "place", .int v t), (Str.ofString "octet", .int e t2)] ?k1 ?k2 ?k3 ?k4 ?k5 ?kA ?kF ?kK ?k6 ?k7 ?k8 ?k9 ?kB ?_ ?c2 ?c3 ?c4 ?c5; k_extra "en")
  k_steps
  (rename FlatPairs _ _ (kdfD (kdfPut _ _ _)) => hf9)
  (rename Obj.IsDictOf _ _ (_ : List (Int × Value)) => hd9)
  rw [p64] at hf9
  exact ret _ _ _ (by k_asm) (by k_asm) ⟨lo, _, hd9, hf9, kdfPut_octet ho _ he0 he1⟩
end
noncomputable def rdM (c : List (Int × Int)) (v : Int) : Nat → Int
  | 0 => 0
  | n + 1 => rdM c v n + kdfLook c ((v + n) % 18446744073709551616) 0 * 256 ^ n
theorem pow8 (k : Nat) : (2 : Int) ^ (8 * (k : Int)).toNat = 256 ^ k := by
  rw [show (8 * (k : Int)).toNat = 8 * k by omega, Int.pow_mul]; rfl
theorem rdM_step {c : List (Int × Int)} {v k tot : Int} {pre : List Int} (ht : tot = rdM c v pre.length) (hk : k = 0 + (pre.length : Int)) :
    tot + kdfLook c ((v + k) % 18446744073709551616) 0 * 2 ^ (8 * k).toNat = rdM c v (pre ++ [k]).length := by
  have e : k = (pre.length : Int) := by omega
  subst e
  subst ht
  rw [pow8, List.length_append]; rfl
section
variable {w : World} {dp un : Nat} {gd : Option (List Code)} {cn : Str} {cs : Scope} {a : Addr} {ccd : Value} {cl : List (Str × Addr)} {outer : List Env} {A₀ : Around} {base h₀ : Heap} {L : Addr} {m : Str → Option Value} {stH : Heap} {stG : Array GenState} {stD : Drawn} {stT : Nat} {stO : OsState} {Q E : Value → Shared → Prop} {p : Program} {loose : List Str} {mean : ExcName → Option Value} {mg mb : Str → Option Value} {news : List (Addr × Obj)}
    (B : Below A₀ base outer h₀) (F : Fr h₀ L stH m) (X : (hd.heap_39 w.params).In h₀) (T : Top p loose mean mg mb h₀) (hk : cs.kind = .function) (N : News h₀ L stH news)
include B F X T hk N
theorem c_read {Me : Addr} {H : Addr} {dMe : Addr} {hMe0 : Int} {kMe0 : Tok} {oH : Obj} {c : List (Int × Int)} {v : Int} {wd : Int} {t t2 : Tok}
    (mMea : (Me, instObj 429 dMe) ∈ news) (mMeb : (dMe, dictOf [⟨hMe0, .str (Str.ofString "held") kMe0, .ref H⟩] 1) ∈ news) (mH : (H, oH) ∈ news) (D : DI w H oH c) (hw0 : 0 ≤ wd) (hw : wd ≤ 8) (hdp : dp + 8 < recursionLimit)
    (ret : ∀ h' tk' t', Fr h₀ L h' m → News h₀ L h' news → Q (.int (rdM c v wd.toNat) t') ⟨h', stG, stD, tk', stO⟩) :
    wpAny (model PySem.Challenge.rw_nn0065_01.row.prog w) (ktrTop dp un gd cn cs L a ccd cl outer) (call (.ref 374) [.ref Me, .int v t, .int wd t2]) Q E ⟨stH, stG, stD, stT, stO⟩ := by
  k_dflt (refine' enter_def [(Str.ofString "self", .ref Me), (Str.ofString "place", .int v t), (Str.ofString "width", .int wd t2)] ?k1 ?k2 ?k3 ?k4 ?k5 ?kA ?kF ?kK ?k6 ?k7 ?k8 ?k9 ?kB ?_ ?c2 ?c3 ?c4 ?c5; k_extra "en")
  have lM := LoopMark.mk
  k_steps
  refine stop_out ?_
  k_state (fun pre tot => tot = rdM c v pre.length) "worth"
  · k_steps
    refine stop_out ?_
    (k_with "state" => exact rdM_step (by assumption) (by assumption))
    kst_close
  · k_steps
    (rename _ = rdM _ _ _ => hr9)
    rw [rangeKs_length] at hr9
    subst hr9
    rw [Int.sub_zero]
    exact ret _ _ _ (by k_asm) (by k_asm)
end
section
variable {prog : Program} {w : World} {A : Around} {E : Value → Shared → Prop} {s : Shared} {env : Env} {h₀ : Heap} {x : Str} {body : List Stmt} {Q : Flow → Shared → Prop}
/-- a turn's end: what must hold of the frame and the ledger, the loop's own objects kept apart -/
noncomputable def TurnEnd (h₀ : Heap) (L : Addr) (J : (Str → Option Value) → List (Addr × Obj) → Prop) (own : List (Addr × Obj)) (s₁ s₂ : Shared) : Prop :=
  ∃ h' tk m' nx, s₂ = { s₁ with heap := h', toks := tk } ∧ Fr h₀ L h' m' ∧ News h₀ L h' (nx ++ own) ∧ OwnOff own (nx.map (·.1)) ∧ J m' nx
noncomputable def TurnPost (h₀ : Heap) (L : Addr) (J : (Str → Option Value) → List (Addr × Obj) → Prop) (own : List (Addr × Obj)) (s₁ : Shared) (Q : Flow → Shared → Prop) (f : Flow) (s₂ : Shared) : Prop :=
  match f with
  | .ret v => Q (.ret v) s₂
  | .brk => Q .next s₂
  | _ => TurnEnd h₀ L J own s₁ s₂
theorem loop_J {I : Addr} {fp : List Addr} {n : Nat} {P : Nat → Value → Prop} {St : Nat → Heap → Prop} {m₀ : Str → Option Value} {news : List (Addr × Obj)} (J : Nat → (Str → Option Value) → List (Addr × Obj) → Prop)
    (W : Walks prog w A I fp [I] n P St) (hIf : I ∈ fp) (hLf : env.locals ∉ fp) (hI : ∀ b ∈ fp, h₀.get? b = none) (hfp : ∀ q ∈ news, q.1 ∉ fp) (hstI : ∀ i h, St i h → ∀ b ∈ fp, ∃ o, h.get? b = some o) (hst : St 0 s.heap) (F : Fr h₀ env.locals s.heap m₀) (N : News h₀ env.locals s.heap news) (hj : J 0 m₀ news)
    (turn : ∀ i v m₁ nx h tk own, i < n → P i v → OwnOff own (nx.map (·.1)) → (∀ b ∈ fp, ∀ o, h.get? b = some o → (b, o) ∈ own) → St (i + 1) h → J i m₁ nx → Fr h₀ env.locals h (fun y => if y = x then some v else m₁ y) → News h₀ env.locals h (nx ++ own) →
      wpAny (model prog w) A (execs body env) (TurnPost h₀ env.locals (J (i + 1)) own { s with heap := h, toks := tk } Q) E { s with heap := h, toks := tk })
    (done : ∀ m₁ nx h tk, J n m₁ nx → Fr h₀ env.locals h m₁ → News h₀ env.locals h nx → Q .next { s with heap := h, toks := tk }) :
    LoopAtV prog w A h₀ env x body Q E (.ref I) s := by
  refine ⟨I, fp, [I], n, P, St, m₀, news, fun i m₁ nx => (∀ q ∈ nx, q.1 ∉ fp) ∧ J i m₁ nx, rfl, W, hLf, (fun b hb => by rw [List.mem_singleton.mp hb]; exact hI I hIf), (fun p hp hq => hfp p hp (List.mem_singleton.mp hq ▸ hIf)), hst, F, N, ⟨hfp, hj⟩, ?_, ?_⟩
  · rintro i v m₁ nx s₁ own ⟨hh', tk', rfl⟩ hin hP ⟨hnf, hJ⟩ hoff hown hget hfo hst₁ F₁ N₁
    have N₂ : News h₀ env.locals hh' (nx ++ own) := fun p hp => N₁ p ((List.mem_append.mp hp).elim (fun h => List.mem_append.mpr (.inr h)) fun h => List.mem_append.mpr (.inl h))
    have hsep : OwnOff own (nx.map (·.1)) := by
      intro p hp b hb e
      obtain ⟨q, hq, rfl⟩ := List.mem_map.mp hb
      exact hnf q hq (e ▸ hown p hp)
    refine wpAny_mono (turn i v m₁ nx hh' tk' own hin hP hsep (fun b hb o e => hfo b hb (hI b hb) o e) hst₁ hJ F₁ N₂) (fun f s₂ p => ?_) fun _ _ e => e
    have fin : TurnEnd h₀ env.locals (J (i + 1)) own { s with heap := hh', toks := tk' } s₂ → LoopStepU h₀ env.locals [I] own (fun m₁ nx => (∀ q ∈ nx, q.1 ∉ fp) ∧ J (i + 1) m₁ nx) { s with heap := hh', toks := tk' } .next s₂ := by
      rintro ⟨h', tk, m', nx', e, F', N', ho, hm⟩
      have hx : ∀ q ∈ nx', q.1 ∉ fp := by
        intro q hq hqf
        obtain ⟨o, hoq⟩ := hstI _ _ hst₁ q.1 hqf
        exact ho _ (hfo q.1 hqf (hI q.1 hqf) o hoq) q.1 (List.mem_map_of_mem hq) rfl
      refine ⟨rfl, h', tk, m', nx', e, F', fun p hp => N' p ((List.mem_append.mp hp).elim (fun h => List.mem_append.mpr (.inr h)) fun h => List.mem_append.mpr (.inl h)), fun p hp hq => hx p hp (List.mem_singleton.mp hq ▸ hIf), hx, hm⟩
    cases f with
    | ret v => exact .ret p
    | brk => exact .brk p
    | next => exact .next (fin p)
    | cont => exact .cont (fin p)
  · rintro h' tk m' nx F' N' _ ⟨_, hJ⟩
    exact done m' nx h' tk hJ F' N'

/-- a loop over a range -/
theorem loop_range {r : Addr} {a₀ b₀ : Int} {t₀ u₀ v₀ : Tok} {n : Nat} {m₀ : Str → Option Value} {news : List (Addr × Obj)} (J : Nat → (Str → Option Value) → List (Addr × Obj) → Prop)
    (hh : A.handled = none) (hr : IsRange s.heap r a₀ b₀ 1 t₀ u₀ v₀) (hsmall : Builtin.Range.small a₀ b₀ 1 = true) (hn : Builtin.Range.rangeSize a₀ b₀ 1 = (n : Int)) (F : Fr h₀ env.locals s.heap m₀) (N : News h₀ env.locals s.heap news) (hj : J 0 m₀ news)
    (turn : ∀ i t m₁ nx h tk own, i < n → OwnOff own (nx.map (·.1)) → J i m₁ nx → Fr h₀ env.locals h (fun y => if y = x then some (.int (a₀ + (i : Int)) t) else m₁ y) → News h₀ env.locals h (nx ++ own) →
      wpAny (model prog w) A (execs body env) (TurnPost h₀ env.locals (J (i + 1)) own { s with heap := h, toks := tk } Q) E { s with heap := h, toks := tk })
    (done : ∀ m₁ nx h tk, J n m₁ nx → Fr h₀ env.locals h m₁ → News h₀ env.locals h nx → Q .next { s with heap := h, toks := tk }) :
    wpAny (model prog w) A (pyIter (.ref r)) (fun it s₂ => LoopAtV prog w A h₀ env x body Q E it s₂) E s := by
  refine wpAny_pyIter_range hr hsmall ?_
  have W : Walks prog w A s.heap.objs.size [s.heap.objs.size] [s.heap.objs.size] n (fun i v => i < n ∧ ∃ t, v = .int (a₀ + i * 1) t)
      (fun i h => IsRangeIter h s.heap.objs.size (a₀ + (i : Nat) * 1) ((n : Int) - (i : Nat)) 1) := (Walks.range hh _ a₀ 1 n).bound
  refine loop_J J W (.head _) ?_ ?_ ?_ ?_ (by show IsRangeIter _ _ _ _ _; rw [hn]; simpa using Heap.get?_push_size _ rfl) (F.push _) (fun p hp => ⟨Heap.get?_push_of_some _ (N p hp).1, (N p hp).2⟩) hj ?_ ?_
  · intro hm
    exact absurd F.ns.lt ((List.mem_singleton.mp hm) ▸ Nat.lt_irrefl _)
  · intro b hb
    rw [List.mem_singleton.mp hb]
    exact next_is_new F
  · intro p hp hI
    exact absurd (Heap.lt_size (N p hp).1) ((List.mem_singleton.mp hI) ▸ Nat.lt_irrefl _)
  · intro i h hI b hb
    rw [List.mem_singleton.mp hb]
    exact ⟨_, hI⟩
  · rintro i v m₁ nx h tk own hi ⟨_, t, rfl⟩ hoff _ _ hJ F₁ N₁
    have e1 : a₀ + (i : Int) * 1 = a₀ + (i : Int) := by omega
    rw [e1] at F₁
    exact turn i t m₁ nx h tk own hi hoff hJ F₁ N₁
  · exact done

/-- a loop over a list that the call has made; the list is kept apart with the iterator -/
theorem loop_list {l : Addr} {vs : List Value} {ns : List Int} {nn : Nat} {m₀ : Str → Option Value} {news : List (Addr × Obj)} (J : Nat → (Str → Option Value) → List (Addr × Obj) → Prop)
    (hh : A.handled = none) (hl : s.heap.get? l = some (listOf vs.toArray nn)) (hl0 : h₀.get? l = none) (hlL : l ≠ env.locals) (hln : ∀ q ∈ news, q.1 ≠ l) (hi : IntsAre vs ns) (F : Fr h₀ env.locals s.heap m₀) (N : News h₀ env.locals s.heap news) (hj : J 0 m₀ news)
    (turn : ∀ i k t m₁ nx h tk own, ns[i]? = some k → OwnOff own (nx.map (·.1)) → J i m₁ nx → Fr h₀ env.locals h (fun y => if y = x then some (.int k t) else m₁ y) → News h₀ env.locals h (nx ++ own) →
      wpAny (model prog w) A (execs body env) (TurnPost h₀ env.locals (J (i + 1)) own { s with heap := h, toks := tk } Q) E { s with heap := h, toks := tk })
    (done : ∀ m₁ nx h tk, J ns.length m₁ nx → Fr h₀ env.locals h m₁ → News h₀ env.locals h nx → Q .next { s with heap := h, toks := tk }) :
    wpAny (model prog w) A (pyIter (.ref l)) (fun it s₂ => LoopAtV prog w A h₀ env x body Q E it s₂) E s := by
  have hls : s.heap.IsList l vs.toArray := ⟨_, hl, rfl, nn, rfl⟩
  have hne : l ≠ s.heap.objs.size := Nat.ne_of_lt (Heap.lt_size hl)
  refine wpAny_pyIter_list hls ?_
  have W := Walks.list (prog := prog) (w := w) hh s.heap.objs.size l hne vs.toArray
  have hlen : vs.toArray.size = ns.length := by simp [hi.length]
  rw [hlen] at W
  refine loop_J J W (.head _) ?_ ?_ ?_ ?_ ⟨⟨_, Heap.get?_push_size _ rfl, rfl, rfl⟩, hls.at fun o e => Heap.get?_push_of_some _ e⟩ (F.push _) (fun p hp => ⟨Heap.get?_push_of_some _ (N p hp).1, (N p hp).2⟩) hj ?_ ?_
  · intro hm
    rcases List.mem_cons.mp hm with e | hm
    · exact absurd F.ns.lt (e ▸ Nat.lt_irrefl _)
    · exact hlL ((List.mem_singleton.mp hm).symm)
  · intro b hb
    rcases List.mem_cons.mp hb with e | hb
    · rw [e]; exact next_is_new F
    · rw [List.mem_singleton.mp hb]; exact hl0
  · intro p hp hI
    rcases List.mem_cons.mp hI with e | hI
    · exact absurd (Heap.lt_size (N p hp).1) (e ▸ Nat.lt_irrefl _)
    · exact hln p hp (List.mem_singleton.mp hI)
  · rintro i h ⟨⟨o, ho, _⟩, o', ho', _⟩ b hb
    rcases List.mem_cons.mp hb with e | hb
    · rw [e]; exact ⟨_, ho⟩
    · rw [List.mem_singleton.mp hb]; exact ⟨_, ho'⟩
  · rintro i v m₁ nx h tk own hin hP hoff _ _ hJ F₁ N₁
    obtain ⟨t, hx⟩ := hi.get i ns[i] (by simp [hin])
    have hv : v = .int ns[i] t := by
      have hP' : vs[i]? = some v := by simpa using hP
      rw [hx] at hP'; exact (Option.some.inj hP').symm
    subst hv
    exact turn i ns[i] t m₁ nx h tk own (by simp [hin]) hoff hJ F₁ N₁
  · exact done
theorem TurnEnd.intro {L : Addr} {J : (Str → Option Value) → List (Addr × Obj) → Prop} {m' : Str → Option Value} {own nx : List (Addr × Obj)} {s₁ : Shared} {h' : Heap} {tk : Nat} (F : Fr h₀ L h' m') (N : News h₀ L h' (nx ++ own)) (ho : OwnOff own (nx.map (·.1)))
    (hj : J m' nx) : TurnEnd h₀ L J own s₁ { s₁ with heap := h', toks := tk } := ⟨h', tk, m', nx, rfl, F, N, ho, hj⟩
end
theorem fr_to {h₀ h : Heap} {L : Addr} {m m' : Str → Option Value} (F : Fr h₀ L h m) (e : ∀ y, m y = m' y) : Fr h₀ L h m' := (funext e : m = m') ▸ F
theorem fr_none {h₀ h : Heap} {L : Addr} {m : Str → Option Value} {x : Str} (F : Fr h₀ L h m) (e : m x = none) : Fr h₀ L h (fun y => if y = x then none else m y) := fr_to F fun y => by
  by_cases h : y = x
  · rw [if_pos h, h, e]
  · rw [if_neg h]
/-- the frame's names off the loop's own -/
theorem fr_off {h₀ h : Heap} {L : Addr} {x : Str} {v : Option Value} {m₁ m₀ : Str → Option Value} (hm : ∀ z, z ≠ x → m₁ z = m₀ z) (F : Fr h₀ L h (fun y => if y = x then v else m₁ y)) : Fr h₀ L h (fun y => if y = x then v else m₀ y) := by
  rw [show (fun y => if y = x then v else m₁ y) = fun y => if y = x then v else m₀ y from funext fun y => by
    by_cases h : y = x
    · rw [if_pos h, if_pos h]
    · rw [if_neg h, if_neg h, hm y h]] at F
  exact F
theorem fr_off1 {h₀ h : Heap} {L : Addr} {x : Str} {m₁ m₀ : Str → Option Value} (hm : ∀ z, z ≠ x → m₁ z = m₀ z) (F : Fr h₀ L h m₁) : Fr h₀ L h (fun y => if y = x then m₁ x else m₀ y) := by
  rw [show m₁ = fun y => if y = x then m₁ x else m₀ y from funext fun y => by
    by_cases h : y = x
    · rw [if_pos h, h]
    · rw [if_neg h, hm y h]] at F
  exact F
section
variable {prog : Program} {w : World} {A : Around} {E : Value → Shared → Prop} {s : Shared} {env : Env} {h₀ : Heap} {x : Str} {body : List Stmt} {Q : Flow → Shared → Prop}
/-- a range loop that stores no name but its own -/
theorem loop_range1 {r : Addr} {a₀ b₀ : Int} {t₀ u₀ v₀ : Tok} {n : Nat} {m₀ : Str → Option Value} {news : List (Addr × Obj)} (K : Nat → List (Addr × Obj) → Prop)
    (hh : A.handled = none) (hr : IsRange s.heap r a₀ b₀ 1 t₀ u₀ v₀) (hsmall : Builtin.Range.small a₀ b₀ 1 = true) (hn : Builtin.Range.rangeSize a₀ b₀ 1 = (n : Int)) (F : Fr h₀ env.locals s.heap m₀) (N : News h₀ env.locals s.heap news) (hj : K 0 news)
    (turn : ∀ i t nx h tk own, i < n → OwnOff own (nx.map (·.1)) → K i nx → Fr h₀ env.locals h (fun y => if y = x then some (.int (a₀ + (i : Int)) t) else m₀ y) → News h₀ env.locals h (nx ++ own) →
      wpAny (model prog w) A (execs body env) (TurnPost h₀ env.locals (fun m nx => K (i + 1) nx ∧ ∀ z, z ≠ x → m z = m₀ z) own { s with heap := h, toks := tk } Q) E { s with heap := h, toks := tk })
    (done : ∀ u nx h tk, K n nx → Fr h₀ env.locals h (fun y => if y = x then u else m₀ y) → News h₀ env.locals h nx → Q .next { s with heap := h, toks := tk }) :
    wpAny (model prog w) A (pyIter (.ref r)) (fun it s₂ => LoopAtV prog w A h₀ env x body Q E it s₂) E s := by
  refine loop_range (fun i m nx => K i nx ∧ ∀ z, z ≠ x → m z = m₀ z) hh hr hsmall hn F N ⟨hj, fun _ _ => rfl⟩ ?_ ?_
  · rintro i t m₁ nx h tk own hi hoff ⟨hK, hm⟩ F₁ N₁
    exact turn i t nx h tk own hi hoff hK (fr_off hm F₁) N₁
  · rintro m₁ nx h tk ⟨hK, hm⟩ F₁ N₁
    exact done (m₁ x) nx h tk hK (fr_off1 hm F₁) N₁
end

example : True := by
  k_with "call ref" => ((k_here; (with_reducible show wpAny _ _ (PySem.call (Value.ref 381) _ _) _ _ _); k_dflt (refine' Mine.c_write ?B ?F ?X ?T ?k ?N ?U ?nmMea ?nmMeb ?mMea ?mMeb ?D ?c ?w0 ?w1 ?d ?_; (case B => k_asm); (case F => k_asm); (case X => k_asm); (case T => k_asm); (case k => first | exact rfl | assumption); (case N => k_asm); (case nmMea => k_mem); (case nmMeb => k_mem); (case U => k_updF); (case mMea => first | with_reducible assumption | (intros; k_mem)); (case mMeb => first | with_reducible assumption | (intros; k_mem)); (case D => k_asm); (case c => omega); (case w0 => first | omega | decide); (case w1 => first | omega | decide); (case d => ktr_room)); intro h' tk' o' F' N' D'; (try dsimp only at N'); (try k_sweep)))
  trivial
theorem upd_open {H : Addr} {oH : Obj} {news : List (Addr × Obj)} {u : Obj → List (Addr × Obj)} (U : UpdF H oH news u) :
    ∃ rest, (∀ p ∈ rest, p.1 ≠ H) ∧ (∀ o p, p ∈ u o ↔ p ∈ (H, o) :: rest) ∧ (∀ p, p ∈ news ↔ p ∈ (H, oH) :: rest) := by
  obtain ⟨pre, post, e1, e2, h1, h2⟩ := U.split
  refine ⟨pre ++ post, fun p hp => ?_, fun o p => ?_, fun p => ?_⟩
  · rcases List.mem_append.mp hp with h | h
    · exact h1 p h
    · exact h2 p h
  · rw [e2]; simp only [List.mem_append, List.mem_cons]; constructor <;> (rintro (h | h | h) <;> simp [h])
  · rw [e1]; simp only [List.mem_append, List.mem_cons]; constructor <;> (rintro (h | h | h) <;> simp [h])
theorem upd_rest {H x : Addr} {ox : Obj} {rest : List (Addr × Obj)} {u : Obj → List (Addr × Obj)} (e : ∀ o p, p ∈ u o ↔ p ∈ (H, o) :: rest) (hm : ∀ o, (x, ox) ∈ u o) : (x, ox) ∈ rest := by
  rcases List.mem_cons.mp ((e _ _).mp (hm (dictOf [] 0))) with h1 | h1
  · rcases List.mem_cons.mp ((e _ _).mp (hm (dictOf [] 1))) with h2 | h2
    · injection h1 with _ h3
      injection h2 with _ h4
      rw [h3] at h4
      injection h4 with _ _ h5
      injection h5 with _ h6
      cases h6
    · exact h2
  · exact h1
theorem news_of {h₀ h : Heap} {L : Addr} {l l' : List (Addr × Obj)} (N : News h₀ L h l) (hs : ∀ p ∈ l', p ∈ l) : News h₀ L h l' := fun p hp => N p (hs p hp)
noncomputable def wrM (c : List (Int × Int)) (v e : Int) : Nat → List (Int × Int)
  | 0 => c
  | n + 1 => kdfPut (wrM c v e n) ((v + n) % 18446744073709551616) (e / 256 ^ n % 256)
theorem wrM_len (c : List (Int × Int)) (v e : Int) : ∀ n, (wrM c v e n).length ≤ c.length + n
  | 0 => Nat.le_refl _
  | n + 1 => by have h1 := wrM_len c v e n; have h2 := kdfPut_len (wrM c v e n) ((v + n) % 18446744073709551616) (e / 256 ^ n % 256); show (kdfPut _ _ _).length ≤ _; omega
theorem oct_range (e : Int) (n : Nat) : 0 ≤ e / 256 ^ n % 256 ∧ e / 256 ^ n % 256 < 256 := ⟨Int.emod_nonneg _ (by decide), Int.emod_lt_of_pos _ (by decide)⟩
theorem shr_oct (e : Int) (k : Nat) : Builtin.bitAnd (e.fdiv (2 ^ (8 * (k : Int)).toNat)) 255 = e / 256 ^ k % 256 := by
  rw [bitAnd_m8, fdiv_pow2, pow8]
theorem ownOff1 {own rest : List (Addr × Obj)} {H : Addr} (h : ∀ p ∈ rest, p.1 ≠ H) {adr : List Addr} (ho : OwnOff own adr) (hm : H ∈ adr) : ∀ p ∈ rest ++ own, p.1 ≠ H := fun p hp => (List.mem_append.mp hp).elim (h p) fun h' => ho p h' H hm
section
variable {w : World} {dp un : Nat} {gd : Option (List Code)} {cn : Str} {cs : Scope} {a : Addr} {ccd : Value} {cl : List (Str × Addr)} {outer : List Env} {A₀ : Around} {base h₀ : Heap} {L : Addr} {m : Str → Option Value} {stH : Heap} {stG : Array GenState} {stD : Drawn} {stT : Nat} {stO : OsState} {Q E : Value → Shared → Prop} {p : Program} {loose : List Str} {mean : ExcName → Option Value} {mg mb : Str → Option Value} {news : List (Addr × Obj)}
    (B : Below A₀ base outer h₀) (F : Fr h₀ L stH m) (X : (hd.heap_39 w.params).In h₀) (T : Top p loose mean mg mb h₀) (hk : cs.kind = .function) (N : News h₀ L stH news)
include B F X T hk N
theorem c_write {Me : Addr} {H : Addr} {dMe : Addr} {hMe0 : Int} {kMe0 : Tok} {oH : Obj} {c : List (Int × Int)} {v wd e : Int} {t t2 t3 : Tok} {u : Obj → List (Addr × Obj)}
    (U : UpdF H oH news u) (nmMea : (Me, instObj 429 dMe) ∈ news) (nmMeb : (dMe, dictOf [⟨hMe0, .str (Str.ofString "held") kMe0, .ref H⟩] 1) ∈ news) (mMea : ∀ o, (Me, instObj 429 dMe) ∈ u o) (mMeb : ∀ o, (dMe, dictOf [⟨hMe0, .str (Str.ofString "held") kMe0, .ref H⟩] 1) ∈ u o) (D : DI w H oH c) (hc : c.length ≤ 100000) (hw0 : 0 ≤ wd) (hw : wd ≤ 8) (hdp : dp + 8 < recursionLimit)
    (ret : ∀ h' tk' o', Fr h₀ L h' m → News h₀ L h' (u o') → DI w H o' (wrM c v e wd.toNat) → Q .none ⟨h', stG, stD, tk', stO⟩) :
    wpAny (model PySem.Challenge.rw_nn0065_01.row.prog w) (ktrTop dp un gd cn cs L a ccd cl outer) (call (.ref 381) [.ref Me, .int v t, .int wd t2, .int e t3]) Q E ⟨stH, stG, stD, stT, stO⟩ := by
  obtain ⟨rest, hoff, hu, hn⟩ := upd_open U
  have r1 := upd_rest hu mMea
  have r2 := upd_rest hu mMeb
  replace N := news_of N (fun p hp => (hn p).mpr hp)
  clear U mMea mMeb hn
  k_dflt (refine' enter_def [(Str.ofString "self", .ref Me), (Str.ofString "place", .int v t), (Str.ofString "width", .int wd t2), (Str.ofString "worth", .int e t3)] ?k1 ?k2 ?k3 ?k4 ?k5 ?kA ?kF ?kK ?k6 ?k7 ?k8 ?k9 ?kB ?_ ?c2 ?c3 ?c4 ?c5; k_extra "en")
  have lM := LoopMark.mk
  k_steps
  refine stop_out ?_
  (rename IsRange _ _ _ _ _ _ _ _ => rgX)
  (rename Fr _ _ _ _ => lF)
  (rename News _ _ _ _ => lN)
  refine' loop_range1 (n := wd.toNat) (fun i nx => ∃ o, nx = (H, o) :: rest ∧ DI w H o (wrM c v e i)) (by rfl) rgX (by exact small_one (by omega) (by omega) (by omega) (by omega)) (by rw [rangeSize_nat, Int.sub_zero]) lF lN ⟨oH, rfl, D⟩ ?_ ?_
  · rintro i t' nx h' tk' own hi hoff' ⟨o, rfl, D'⟩ F' N'
    clear lF lN rgX
    have hU : UpdF H o ((H, o) :: (rest ++ own)) (fun o => (H, o) :: (rest ++ own)) := .head (ownOff1 hoff hoff' (.head _))
    have q1 : (Me, instObj 429 dMe) ∈ rest ++ own := List.mem_append.mpr (.inl r1)
    have q2 : (dMe, dictOf [⟨hMe0, .str (Str.ofString "held") kMe0, .ref H⟩] 1) ∈ rest ++ own := List.mem_append.mpr (.inl r2)
    have hr := oct_range e i
    have hlen := wrM_len c v e i
    rw [show (0 : Int) + (i : Int) = i by omega] at F'
    have hsh := shr_oct e i
    rw [List.cons_append] at N'
    (try k_fold)
    k_steps
    (rename DI _ _ _ (kdfPut _ _ _) => D9)
    rw [hsh] at D9
    have hoff2 : OwnOff own (H :: rest.map (·.1)) := hoff'
    show TurnEnd _ _ _ _ _ _
    refine TurnEnd.intro (nx := (H, _) :: rest) (by k_asm) (by k_asm) hoff2 ⟨⟨_, rfl, D9⟩, ?_⟩
    intro z hz
    simp only [if_neg hz]
  · rintro u nx h' tk' ⟨o, rfl, D'⟩ F' N'
    clear lF lN rgX
    (try k_fold)
    k_steps
    exact ret _ _ _ (by k_asm) (news_of (by k_asm) fun p hp => (hu _ p).mp hp) D'
end
example : True := by
  k_with "call ref" => ((k_here; (with_reducible show wpAny _ _ (PySem.call (Value.ref 440) _ _) _ _ _); k_dflt (refine' Mine.c_joined ?B ?F ?X ?T ?k ?N ?a1 ?a2 ?d ?_; (case B => k_asm); (case F => k_asm); (case X => k_asm); (case T => k_asm); (case k => first | exact rfl | assumption); (case N => k_asm); (case a1 => omega); (case a2 => omega); (case d => ktr_room)); intro h' tk' t' F' N'; (try dsimp only at N'); (try k_sweep)))
  k_with "call ref" => ((k_here; (with_reducible show wpAny _ _ (PySem.call (Value.ref 461) _ _) _ _ _); k_dflt (refine' Mine.c_get ?B ?F ?X ?T ?k ?N ?d ?a0 ?a1 ?a2 ?a3 ?a4 ?mSa ?mSb ?mR ?iR ?mGa ?mGb ?_; (case B => k_asm); (case F => k_asm); (case X => k_asm); (case T => k_asm); (case k => first | exact rfl | assumption); (case N => k_asm); (case mSa => k_mem); (case mSb => k_mem); (case mGa => k_mem); (case mGb => k_mem); (case mR => k_mem); (case iR => l_ints); (case d => ktr_room); (case a0 => omega); (case a1 => omega); (case a2 => omega); (case a3 => omega); (case a4 => omega)); intro h' tk' t' F' N'; (try dsimp only at N'); (try k_sweep)))
  k_with "call ref" => ((k_here; (with_reducible show wpAny _ _ (PySem.call (Value.ref 468) _ _) _ _ _); k_dflt (refine' Mine.c_put ?B ?F ?X ?T ?k ?N ?U ?d ?a0 ?a1 ?a2 ?a3 ?a4 ?nmSa ?nmSb ?mSa ?mSb ?iR ?nmGa ?nmGb ?mGa ?mGb ?_; (case B => k_asm); (case F => k_asm); (case X => k_asm); (case T => k_asm); (case k => first | exact rfl | assumption); (case N => k_asm); (case nmSa => k_mem); (case nmSb => k_mem); (case nmGa => k_mem); (case nmGb => k_mem); (case U => k_updF); (case mSa => first | with_reducible assumption | (intros; k_mem)); (case mSb => first | with_reducible assumption | (intros; k_mem)); (case mGa => first | with_reducible assumption | (intros; k_mem)); (case mGb => first | with_reducible assumption | (intros; k_mem)); (case iR => l_ints); (case d => ktr_room); (case a0 => omega); (case a1 => omega); (case a2 => omega); (case a3 => omega); (case a4 => omega)); intro h' tk' vs' F' N' I'; (try dsimp only at N'); (try k_sweep)))
  k_with "call ref" => ((k_here; (with_reducible show wpAny _ _ (PySem.call (Value.ref 475) _ _) _ _ _); k_dflt (refine' Mine.c_put_low ?B ?F ?X ?T ?k ?N ?U ?d ?a0 ?a1 ?a2 ?a3 ?a4 ?nmSa ?nmSb ?mSa ?mSb ?iR ?nmGa ?nmGb ?mGa ?mGb ?_; (case B => k_asm); (case F => k_asm); (case X => k_asm); (case T => k_asm); (case k => first | exact rfl | assumption); (case N => k_asm); (case nmSa => k_mem); (case nmSb => k_mem); (case nmGa => k_mem); (case nmGb => k_mem); (case U => k_updF); (case mSa => first | with_reducible assumption | (intros; k_mem)); (case mSb => first | with_reducible assumption | (intros; k_mem)); (case mGa => first | with_reducible assumption | (intros; k_mem)); (case mGb => first | with_reducible assumption | (intros; k_mem)); (case iR => l_ints); (case d => ktr_room); (case a0 => omega); (case a1 => omega); (case a2 => omega); (case a3 => omega); (case a4 => omega)); intro h' tk' vs' F' N' I'; (try dsimp only at N'); (try k_sweep)))
  k_with "call ref" => ((k_here; (with_reducible show wpAny _ _ (PySem.call (Value.ref 487) _ _) _ _ _); k_dflt (refine' Mine.c_offset ?B ?F ?X ?T ?k ?N ?d ?a0 ?a1 ?a2 ?a3 ?a4 ?mSa ?mSb ?mR ?iR ?mGa ?mGb ?mOa ?mOb ?_; (case B => k_asm); (case F => k_asm); (case X => k_asm); (case T => k_asm); (case k => first | exact rfl | assumption); (case N => k_asm); (case mSa => k_mem); (case mSb => k_mem); (case mOa => k_mem); (case mOb => k_mem); (case mGa => k_mem); (case mGb => k_mem); (case mR => k_mem); (case iR => l_ints); (case d => ktr_room); (case a0 => omega); (case a1 => omega); (case a2 => omega); (case a3 => omega); (case a4 => omega)); intro h' tk' t' F' N'; (try dsimp only at N'); (try k_sweep)))
  k_with "call ref" => ((k_here; (with_reducible show wpAny _ _ (PySem.call (Value.ref 487) _ _) _ _ _); k_dflt (refine' Mine.c_offset2 ?B ?F ?X ?T ?k ?N ?d ?a0 ?a1 ?a2 ?a3 ?a4 ?a5 ?a6 ?a7 ?a8 ?a9 ?a10 ?mSa ?mSb ?mR ?iR ?mGa ?mGb ?mJa ?mJb ?mOa ?mOb ?_; (case B => k_asm); (case F => k_asm); (case X => k_asm); (case T => k_asm); (case k => first | exact rfl | assumption); (case N => k_asm); (case mSa => k_mem); (case mSb => k_mem); (case mOa => k_mem); (case mOb => k_mem); (case mGa => k_mem); (case mGb => k_mem); (case mJa => k_mem); (case mJb => k_mem); (case mR => k_mem); (case iR => l_ints); (case d => ktr_room); (case a0 => omega); (case a1 => omega); (case a2 => omega); (case a3 => omega); (case a4 => omega); (case a5 => omega); (case a6 => omega); (case a7 => omega); (case a8 => omega); (case a9 => omega); (case a10 => omega)); intro h' tk' t' F' N'; (try dsimp only at N'); (try k_sweep)))
  k_with "call ref" => ((k_here; (with_reducible show wpAny _ _ (PySem.call (Value.ref 494) _ _) _ _ _); k_dflt (refine' Mine.c_place ?B ?F ?X ?T ?k ?N ?d ?a0 ?a1 ?a2 ?a3 ?a4 ?mSa ?mSb ?mR ?iR ?mGa ?mGb ?mOa ?mOb ?_; (case B => k_asm); (case F => k_asm); (case X => k_asm); (case T => k_asm); (case k => first | exact rfl | assumption); (case N => k_asm); (case mSa => k_mem); (case mSb => k_mem); (case mOa => k_mem); (case mOb => k_mem); (case mGa => k_mem); (case mGb => k_mem); (case mR => k_mem); (case iR => l_ints); (case d => ktr_room); (case a0 => omega); (case a1 => omega); (case a2 => omega); (case a3 => omega); (case a4 => omega)); intro h' tk' t' F' N'; (try dsimp only at N'); (try k_sweep)))
  trivial
/-- the part of a word that a register of z bits shows -/
noncomputable def low (v z : Int) : Int := v % 2 ^ z.toNat
theorem fdiv8 (z : Int) : z.fdiv 8 = z / 8 := Int.fdiv_eq_ediv_of_nonneg _ (by decide)
noncomputable def joinedZ (old v z : Int) : Int := if z < 32 then old - old % 2 ^ z.toNat + v else v
section
variable {w : World} {dp un : Nat} {gd : Option (List Code)} {cn : Str} {cs : Scope} {a : Addr} {ccd : Value} {cl : List (Str × Addr)} {outer : List Env} {A₀ : Around} {base h₀ : Heap} {L : Addr} {m : Str → Option Value} {stH : Heap} {stG : Array GenState} {stD : Drawn} {stT : Nat} {stO : OsState} {Q E : Value → Shared → Prop} {p : Program} {loose : List Str} {mean : ExcName → Option Value} {mg mb : Str → Option Value} {news : List (Addr × Obj)}
    (B : Below A₀ base outer h₀) (F : Fr h₀ L stH m) (X : (hd.heap_39 w.params).In h₀) (T : Top p loose mean mg mb h₀) (hk : cs.kind = .function) (N : News h₀ L stH news)
include B F X T hk N
theorem c_joined {old v z : Int} {t t2 t3 : Tok} (h0 : 0 ≤ z) (h1 : z ≤ 128) (hdp : dp + 6 < recursionLimit)
    (ret : ∀ h' tk' t', Fr h₀ L h' m → News h₀ L h' news → Q (.int (joinedZ old v z) t') ⟨h', stG, stD, tk', stO⟩) :
    wpAny (model PySem.Challenge.rw_nn0065_01.row.prog w) (ktrTop dp un gd cn cs L a ccd cl outer) (call (.ref 440) [.int old t, .int v t2, .int z t3]) Q E ⟨stH, stG, stD, stT, stO⟩ := by
  k_dflt (refine' enter_def [(Str.ofString "old", .int old t), (Str.ofString "worth", .int v t2), (Str.ofString "size", .int z t3)] ?k1 ?k2 ?k3 ?k4 ?k5 ?kA ?kF ?kK ?k6 ?k7 ?k8 ?k9 ?kB ?_ ?c2 ?c3 ?c4 ?c5; k_extra "en")
  k_steps
  · rw [show v = joinedZ old v z from (if_neg (by omega)).symm]
    exact ret _ _ _ (by k_asm) (by k_asm)
  · rw [show old - old % 2 ^ z.toNat + v = joinedZ old v z from (if_pos (by omega)).symm]
    exact ret _ _ _ (by k_asm) (by k_asm)
end
section
variable {w : World} {dp un : Nat} {gd : Option (List Code)} {cn : Str} {cs : Scope} {a : Addr} {ccd : Value} {cl : List (Str × Addr)} {outer : List Env} {A₀ : Around} {base h₀ : Heap} {L : Addr} {m : Str → Option Value} {stH : Heap} {stG : Array GenState} {stD : Drawn} {stT : Nat} {stO : OsState} {Q E : Value → Shared → Prop} {p : Program} {loose : List Str} {mean : ExcName → Option Value} {mg mb : Str → Option Value} {news : List (Addr × Obj)}
    (B : Below A₀ base outer h₀) (F : Fr h₀ L stH m) (X : (hd.heap_39 w.params).In h₀) (T : Top p loose mean mg mb h₀) (hk : cs.kind = .function) (N : News h₀ L stH news)
include B F X T hk N
theorem c_get {S R Xm Fl Me Sg : Addr} {rip : Int} {trip tbg : Tok} {dS : Addr} {hS0 hS1 hS2 hS3 hS4 hS5 hS6 hS7 hS8 : Int} {kS0 kS1 kS2 kS3 kS4 kS5 kS6 kS7 kS8 : Tok} {vsR : List Value} {ws : List Int} {nR : Nat} {G : Addr} {wG : Str} {iG zG : Int} {uG0 uG1 uG2 uG3 : Tok} {dG : Addr} {hG0 hG1 hG2 hG3 : Int} {kG0 kG1 kG2 kG3 : Tok} (hdp : dp + 6 < recursionLimit) (h0 : 0 ≤ iG) (h1 : iG < ws.length) (h1b : ws.length ≤ 16) (z0 : 0 ≤ zG) (z1 : zG ≤ 128) (mSa : (S, instObj 546 dS) ∈ news) (mSb : (dS, dictOf [⟨hS0, .str (Str.ofString "iset") kS0, .none⟩, ⟨hS1, .str (Str.ofString "regs") kS1, .ref R⟩, ⟨hS2, .str (Str.ofString "xmm") kS2, .ref Xm⟩, ⟨hS3, .str (Str.ofString "flags") kS3, .ref Fl⟩, ⟨hS4, .str (Str.ofString "memory") kS4, .ref Me⟩, ⟨hS5, .str (Str.ofString "rip") kS5, .int rip trip⟩, ⟨hS6, .str (Str.ofString "begin") kS6, .int 0 tbg⟩, ⟨hS7, .str (Str.ofString "segments") kS7, .ref Sg⟩, ⟨hS8, .str (Str.ofString "is_halted") kS8, .bool false⟩] 9) ∈ news) (mR : (R, listOf vsR.toArray nR) ∈ news) (iR : IntsAre vsR ws) (mGa : (G, instObj 314 dG) ∈ news) (mGb : (dG, dictOf [⟨hG0, .str (Str.ofString "name") kG0, .str wG uG0⟩, ⟨hG1, .str (Str.ofString "kind") kG1, .str (Str.ofString "gpr") uG1⟩, ⟨hG2, .str (Str.ofString "number") kG2, .int iG uG2⟩, ⟨hG3, .str (Str.ofString "size") kG3, .int zG uG3⟩] 4) ∈ news)
    (ret : ∀ h' tk' t', Fr h₀ L h' m → News h₀ L h' news → Q (.int (low (ws.getD iG.toNat 0) zG) t') ⟨h', stG, stD, tk', stO⟩) :
    wpAny (model PySem.Challenge.rw_nn0065_01.row.prog w) (ktrTop dp un gd cn cs L a ccd cl outer) (call (.ref 461) [.ref S, .ref G]) Q E ⟨stH, stG, stD, stT, stO⟩ := by
  k_dflt (refine' enter_def [(Str.ofString "self", .ref S), (Str.ofString "register", .ref G)] ?k1 ?k2 ?k3 ?k4 ?k5 ?kA ?kF ?kK ?k6 ?k7 ?k8 ?k9 ?kB ?_ ?c2 ?c3 ?c4 ?c5; k_extra "en")
  k_steps
  exact ret _ _ _ (by k_asm) (by k_asm)
end
section
variable {w : World} {dp un : Nat} {gd : Option (List Code)} {cn : Str} {cs : Scope} {a : Addr} {ccd : Value} {cl : List (Str × Addr)} {outer : List Env} {A₀ : Around} {base h₀ : Heap} {L : Addr} {m : Str → Option Value} {stH : Heap} {stG : Array GenState} {stD : Drawn} {stT : Nat} {stO : OsState} {Q E : Value → Shared → Prop} {p : Program} {loose : List Str} {mean : ExcName → Option Value} {mg mb : Str → Option Value} {news : List (Addr × Obj)}
    (B : Below A₀ base outer h₀) (F : Fr h₀ L stH m) (X : (hd.heap_39 w.params).In h₀) (T : Top p loose mean mg mb h₀) (hk : cs.kind = .function) (N : News h₀ L stH news)
include B F X T hk N
theorem c_put {S R Xm Fl Me Sg : Addr} {rip : Int} {trip tbg : Tok} {dS : Addr} {hS0 hS1 hS2 hS3 hS4 hS5 hS6 hS7 hS8 : Int} {kS0 kS1 kS2 kS3 kS4 kS5 kS6 kS7 kS8 : Tok} {vsR : List Value} {ws : List Int} {nR : Nat} {G : Addr} {wG : Str} {iG zG : Int} {uG0 uG1 uG2 uG3 : Tok} {dG : Addr} {hG0 hG1 hG2 hG3 : Int} {kG0 kG1 kG2 kG3 : Tok} {v : Int} {t : Tok} {u : Obj → List (Addr × Obj)} (U : UpdF R (listOf vsR.toArray nR) news u) (hdp : dp + 8 < recursionLimit) (h0 : 0 ≤ iG) (h1 : iG < ws.length) (h1b : ws.length ≤ 16) (z0 : 0 ≤ zG) (z1 : zG ≤ 128) (nmSa : (S, instObj 546 dS) ∈ news) (nmSb : (dS, dictOf [⟨hS0, .str (Str.ofString "iset") kS0, .none⟩, ⟨hS1, .str (Str.ofString "regs") kS1, .ref R⟩, ⟨hS2, .str (Str.ofString "xmm") kS2, .ref Xm⟩, ⟨hS3, .str (Str.ofString "flags") kS3, .ref Fl⟩, ⟨hS4, .str (Str.ofString "memory") kS4, .ref Me⟩, ⟨hS5, .str (Str.ofString "rip") kS5, .int rip trip⟩, ⟨hS6, .str (Str.ofString "begin") kS6, .int 0 tbg⟩, ⟨hS7, .str (Str.ofString "segments") kS7, .ref Sg⟩, ⟨hS8, .str (Str.ofString "is_halted") kS8, .bool false⟩] 9) ∈ news) (mSa : ∀ o, (S, instObj 546 dS) ∈ u o) (mSb : ∀ o, (dS, dictOf [⟨hS0, .str (Str.ofString "iset") kS0, .none⟩, ⟨hS1, .str (Str.ofString "regs") kS1, .ref R⟩, ⟨hS2, .str (Str.ofString "xmm") kS2, .ref Xm⟩, ⟨hS3, .str (Str.ofString "flags") kS3, .ref Fl⟩, ⟨hS4, .str (Str.ofString "memory") kS4, .ref Me⟩, ⟨hS5, .str (Str.ofString "rip") kS5, .int rip trip⟩, ⟨hS6, .str (Str.ofString "begin") kS6, .int 0 tbg⟩, ⟨hS7, .str (Str.ofString "segments") kS7, .ref Sg⟩, ⟨hS8, .str (Str.ofString "is_halted") kS8, .bool false⟩] 9) ∈ u o) (iR : IntsAre vsR ws) (nmGa : (G, instObj 314 dG) ∈ news) (nmGb : (dG, dictOf [⟨hG0, .str (Str.ofString "name") kG0, .str wG uG0⟩, ⟨hG1, .str (Str.ofString "kind") kG1, .str (Str.ofString "gpr") uG1⟩, ⟨hG2, .str (Str.ofString "number") kG2, .int iG uG2⟩, ⟨hG3, .str (Str.ofString "size") kG3, .int zG uG3⟩] 4) ∈ news) (mGa : ∀ o, (G, instObj 314 dG) ∈ u o) (mGb : ∀ o, (dG, dictOf [⟨hG0, .str (Str.ofString "name") kG0, .str wG uG0⟩, ⟨hG1, .str (Str.ofString "kind") kG1, .str (Str.ofString "gpr") uG1⟩, ⟨hG2, .str (Str.ofString "number") kG2, .int iG uG2⟩, ⟨hG3, .str (Str.ofString "size") kG3, .int zG uG3⟩] 4) ∈ u o)
    (ret : ∀ h' tk' vs', Fr h₀ L h' m → News h₀ L h' (u (listOf vs'.toArray nR)) → IntsAre vs' (ws.set iG.toNat (joinedZ (ws.getD iG.toNat 0) (low v zG) zG)) → Q .none ⟨h', stG, stD, tk', stO⟩) :
    wpAny (model PySem.Challenge.rw_nn0065_01.row.prog w) (ktrTop dp un gd cn cs L a ccd cl outer) (call (.ref 468) [.ref S, .ref G, .int v t]) Q E ⟨stH, stG, stD, stT, stO⟩ := by
  have mR := UpdF.mem U (listOf vsR.toArray nR); rw [UpdF.self U] at mR
  k_dflt (refine' enter_def [(Str.ofString "self", .ref S), (Str.ofString "register", .ref G), (Str.ofString "worth", .int v t)] ?k1 ?k2 ?k3 ?k4 ?k5 ?kA ?kF ?kK ?k6 ?k7 ?k8 ?k9 ?kB ?_ ?c2 ?c3 ?c4 ?c5; k_extra "en")
  k_steps
  exact ret _ _ _ (by k_asm) (by k_asm) (by assumption)
end
section
variable {w : World} {dp un : Nat} {gd : Option (List Code)} {cn : Str} {cs : Scope} {a : Addr} {ccd : Value} {cl : List (Str × Addr)} {outer : List Env} {A₀ : Around} {base h₀ : Heap} {L : Addr} {m : Str → Option Value} {stH : Heap} {stG : Array GenState} {stD : Drawn} {stT : Nat} {stO : OsState} {Q E : Value → Shared → Prop} {p : Program} {loose : List Str} {mean : ExcName → Option Value} {mg mb : Str → Option Value} {news : List (Addr × Obj)}
    (B : Below A₀ base outer h₀) (F : Fr h₀ L stH m) (X : (hd.heap_39 w.params).In h₀) (T : Top p loose mean mg mb h₀) (hk : cs.kind = .function) (N : News h₀ L stH news)
include B F X T hk N
theorem c_put_low {S R Xm Fl Me Sg : Addr} {rip : Int} {trip tbg : Tok} {dS : Addr} {hS0 hS1 hS2 hS3 hS4 hS5 hS6 hS7 hS8 : Int} {kS0 kS1 kS2 kS3 kS4 kS5 kS6 kS7 kS8 : Tok} {vsR : List Value} {ws : List Int} {nR : Nat} {G : Addr} {wG : Str} {iG zG : Int} {uG0 uG1 uG2 uG3 : Tok} {dG : Addr} {hG0 hG1 hG2 hG3 : Int} {kG0 kG1 kG2 kG3 : Tok} {v z2 : Int} {t t2 : Tok} {u : Obj → List (Addr × Obj)} (U : UpdF R (listOf vsR.toArray nR) news u) (hdp : dp + 9 < recursionLimit) (h0 : 0 ≤ iG) (h1 : iG < ws.length) (h1b : ws.length ≤ 16) (z0 : 0 ≤ zG) (z1 : zG ≤ 128) (nmSa : (S, instObj 546 dS) ∈ news) (nmSb : (dS, dictOf [⟨hS0, .str (Str.ofString "iset") kS0, .none⟩, ⟨hS1, .str (Str.ofString "regs") kS1, .ref R⟩, ⟨hS2, .str (Str.ofString "xmm") kS2, .ref Xm⟩, ⟨hS3, .str (Str.ofString "flags") kS3, .ref Fl⟩, ⟨hS4, .str (Str.ofString "memory") kS4, .ref Me⟩, ⟨hS5, .str (Str.ofString "rip") kS5, .int rip trip⟩, ⟨hS6, .str (Str.ofString "begin") kS6, .int 0 tbg⟩, ⟨hS7, .str (Str.ofString "segments") kS7, .ref Sg⟩, ⟨hS8, .str (Str.ofString "is_halted") kS8, .bool false⟩] 9) ∈ news) (mSa : ∀ o, (S, instObj 546 dS) ∈ u o) (mSb : ∀ o, (dS, dictOf [⟨hS0, .str (Str.ofString "iset") kS0, .none⟩, ⟨hS1, .str (Str.ofString "regs") kS1, .ref R⟩, ⟨hS2, .str (Str.ofString "xmm") kS2, .ref Xm⟩, ⟨hS3, .str (Str.ofString "flags") kS3, .ref Fl⟩, ⟨hS4, .str (Str.ofString "memory") kS4, .ref Me⟩, ⟨hS5, .str (Str.ofString "rip") kS5, .int rip trip⟩, ⟨hS6, .str (Str.ofString "begin") kS6, .int 0 tbg⟩, ⟨hS7, .str (Str.ofString "segments") kS7, .ref Sg⟩, ⟨hS8, .str (Str.ofString "is_halted") kS8, .bool false⟩] 9) ∈ u o) (iR : IntsAre vsR ws) (nmGa : (G, instObj 314 dG) ∈ news) (nmGb : (dG, dictOf [⟨hG0, .str (Str.ofString "name") kG0, .str wG uG0⟩, ⟨hG1, .str (Str.ofString "kind") kG1, .str (Str.ofString "gpr") uG1⟩, ⟨hG2, .str (Str.ofString "number") kG2, .int iG uG2⟩, ⟨hG3, .str (Str.ofString "size") kG3, .int zG uG3⟩] 4) ∈ news) (mGa : ∀ o, (G, instObj 314 dG) ∈ u o) (mGb : ∀ o, (dG, dictOf [⟨hG0, .str (Str.ofString "name") kG0, .str wG uG0⟩, ⟨hG1, .str (Str.ofString "kind") kG1, .str (Str.ofString "gpr") uG1⟩, ⟨hG2, .str (Str.ofString "number") kG2, .int iG uG2⟩, ⟨hG3, .str (Str.ofString "size") kG3, .int zG uG3⟩] 4) ∈ u o)
    (ret : ∀ h' tk' vs', Fr h₀ L h' m → News h₀ L h' (u (listOf vs'.toArray nR)) → IntsAre vs' (ws.set iG.toNat (joinedZ (ws.getD iG.toNat 0) (low v zG) zG)) → Q .none ⟨h', stG, stD, tk', stO⟩) :
    wpAny (model PySem.Challenge.rw_nn0065_01.row.prog w) (ktrTop dp un gd cn cs L a ccd cl outer) (call (.ref 475) [.ref S, .ref G, .int z2 t2, .int v t]) Q E ⟨stH, stG, stD, stT, stO⟩ := by
  have mR := UpdF.mem U (listOf vsR.toArray nR); rw [UpdF.self U] at mR
  k_dflt (refine' enter_def [(Str.ofString "self", .ref S), (Str.ofString "register", .ref G), (Str.ofString "size", .int z2 t2), (Str.ofString "worth", .int v t)] ?k1 ?k2 ?k3 ?k4 ?k5 ?kA ?kF ?kK ?k6 ?k7 ?k8 ?k9 ?kB ?_ ?c2 ?c3 ?c4 ?c5; k_extra "en")
  k_steps
  exact ret _ _ _ (by k_asm) (by k_asm) (by assumption)
end
section
variable {w : World} {dp un : Nat} {gd : Option (List Code)} {cn : Str} {cs : Scope} {a : Addr} {ccd : Value} {cl : List (Str × Addr)} {outer : List Env} {A₀ : Around} {base h₀ : Heap} {L : Addr} {m : Str → Option Value} {stH : Heap} {stG : Array GenState} {stD : Drawn} {stT : Nat} {stO : OsState} {Q E : Value → Shared → Prop} {p : Program} {loose : List Str} {mean : ExcName → Option Value} {mg mb : Str → Option Value} {news : List (Addr × Obj)}
    (B : Below A₀ base outer h₀) (F : Fr h₀ L stH m) (X : (hd.heap_39 w.params).In h₀) (T : Top p loose mean mg mb h₀) (hk : cs.kind = .function) (N : News h₀ L stH news)
include B F X T hk N
theorem c_offset {S R Xm Fl Me Sg : Addr} {rip : Int} {trip tbg : Tok} {dS : Addr} {hS0 hS1 hS2 hS3 hS4 hS5 hS6 hS7 hS8 : Int} {kS0 kS1 kS2 kS3 kS4 kS5 kS6 kS7 kS8 : Tok} {vsR : List Value} {ws : List Int} {nR : Nat} {G : Addr} {wG : Str} {iG zG : Int} {uG0 uG1 uG2 uG3 : Tok} {dG : Addr} {hG0 hG1 hG2 hG3 : Int} {kG0 kG1 kG2 kG3 : Tok} {O : Addr} {scO eO szO : Int} {uO0 uO1 uO2 uO3 uO4 uO5 : Tok} {dO : Addr} {hO0 hO1 hO2 hO3 hO4 hO5 hO6 hO7 : Int} {kO0 kO1 kO2 kO3 kO4 kO5 kO6 kO7 : Tok} (hdp : dp + 8 < recursionLimit) (h0 : 0 ≤ iG) (h1 : iG < ws.length) (h1b : ws.length ≤ 16) (z0 : 0 ≤ zG) (z1 : zG ≤ 128) (mSa : (S, instObj 546 dS) ∈ news) (mSb : (dS, dictOf [⟨hS0, .str (Str.ofString "iset") kS0, .none⟩, ⟨hS1, .str (Str.ofString "regs") kS1, .ref R⟩, ⟨hS2, .str (Str.ofString "xmm") kS2, .ref Xm⟩, ⟨hS3, .str (Str.ofString "flags") kS3, .ref Fl⟩, ⟨hS4, .str (Str.ofString "memory") kS4, .ref Me⟩, ⟨hS5, .str (Str.ofString "rip") kS5, .int rip trip⟩, ⟨hS6, .str (Str.ofString "begin") kS6, .int 0 tbg⟩, ⟨hS7, .str (Str.ofString "segments") kS7, .ref Sg⟩, ⟨hS8, .str (Str.ofString "is_halted") kS8, .bool false⟩] 9) ∈ news) (mR : (R, listOf vsR.toArray nR) ∈ news) (iR : IntsAre vsR ws) (mGa : (G, instObj 314 dG) ∈ news) (mGb : (dG, dictOf [⟨hG0, .str (Str.ofString "name") kG0, .str wG uG0⟩, ⟨hG1, .str (Str.ofString "kind") kG1, .str (Str.ofString "gpr") uG1⟩, ⟨hG2, .str (Str.ofString "number") kG2, .int iG uG2⟩, ⟨hG3, .str (Str.ofString "size") kG3, .int zG uG3⟩] 4) ∈ news) (mOa : (O, instObj 751 dO) ∈ news) (mOb : (dO, dictOf [⟨hO0, .str (Str.ofString "kind") kO0, .str (Str.ofString "mem") uO0⟩, ⟨hO1, .str (Str.ofString "base") kO1, .ref G⟩, ⟨hO2, .str (Str.ofString "index") kO2, .none⟩, ⟨hO3, .str (Str.ofString "scale") kO3, .int scO uO1⟩, ⟨hO4, .str (Str.ofString "worth") kO4, .int eO uO2⟩, ⟨hO5, .str (Str.ofString "size") kO5, .int szO uO3⟩, ⟨hO6, .str (Str.ofString "segment") kO6, .str (Str.ofString "") uO4⟩, ⟨hO7, .str (Str.ofString "name") kO7, .str (Str.ofString "") uO5⟩] 8) ∈ news)
    (ret : ∀ h' tk' t', Fr h₀ L h' m → News h₀ L h' news → Q (.int (low (eO + low (ws.getD iG.toNat 0) zG) 64) t') ⟨h', stG, stD, tk', stO⟩) :
    wpAny (model PySem.Challenge.rw_nn0065_01.row.prog w) (ktrTop dp un gd cn cs L a ccd cl outer) (call (.ref 487) [.ref S, .ref O]) Q E ⟨stH, stG, stD, stT, stO⟩ := by
  k_dflt (refine' enter_def [(Str.ofString "self", .ref S), (Str.ofString "mem", .ref O)] ?k1 ?k2 ?k3 ?k4 ?k5 ?kA ?kF ?kK ?k6 ?k7 ?k8 ?k9 ?kB ?_ ?c2 ?c3 ?c4 ?c5; k_extra "en")
  k_steps
  exact ret _ _ _ (by k_asm) (by k_asm)
end
section
variable {w : World} {dp un : Nat} {gd : Option (List Code)} {cn : Str} {cs : Scope} {a : Addr} {ccd : Value} {cl : List (Str × Addr)} {outer : List Env} {A₀ : Around} {base h₀ : Heap} {L : Addr} {m : Str → Option Value} {stH : Heap} {stG : Array GenState} {stD : Drawn} {stT : Nat} {stO : OsState} {Q E : Value → Shared → Prop} {p : Program} {loose : List Str} {mean : ExcName → Option Value} {mg mb : Str → Option Value} {news : List (Addr × Obj)}
    (B : Below A₀ base outer h₀) (F : Fr h₀ L stH m) (X : (hd.heap_39 w.params).In h₀) (T : Top p loose mean mg mb h₀) (hk : cs.kind = .function) (N : News h₀ L stH news)
include B F X T hk N
theorem c_offset2 {S R Xm Fl Me Sg : Addr} {rip : Int} {trip tbg : Tok} {dS : Addr} {hS0 hS1 hS2 hS3 hS4 hS5 hS6 hS7 hS8 : Int} {kS0 kS1 kS2 kS3 kS4 kS5 kS6 kS7 kS8 : Tok} {vsR : List Value} {ws : List Int} {nR : Nat} {G : Addr} {wG : Str} {iG zG : Int} {uG0 uG1 uG2 uG3 : Tok} {dG : Addr} {hG0 hG1 hG2 hG3 : Int} {kG0 kG1 kG2 kG3 : Tok} {J : Addr} {wJ : Str} {iJ zJ : Int} {uJ0 uJ1 uJ2 uJ3 : Tok} {dJ : Addr} {hJ0 hJ1 hJ2 hJ3 : Int} {kJ0 kJ1 kJ2 kJ3 : Tok} {O : Addr} {scO eO szO : Int} {uO0 uO1 uO2 uO3 uO4 uO5 : Tok} {dO : Addr} {hO0 hO1 hO2 hO3 hO4 hO5 hO6 hO7 : Int} {kO0 kO1 kO2 kO3 kO4 kO5 kO6 kO7 : Tok} (hdp : dp + 8 < recursionLimit) (h0 : 0 ≤ iG) (h1 : iG < ws.length) (h1b : ws.length ≤ 16) (z0 : 0 ≤ zG) (z1 : zG ≤ 128) (j0 : 0 ≤ iJ) (j1 : iJ < ws.length) (y0 : 0 ≤ zJ) (y1 : zJ ≤ 128) (s0 : 0 ≤ scO) (s1 : scO ≤ 8) (mSa : (S, instObj 546 dS) ∈ news) (mSb : (dS, dictOf [⟨hS0, .str (Str.ofString "iset") kS0, .none⟩, ⟨hS1, .str (Str.ofString "regs") kS1, .ref R⟩, ⟨hS2, .str (Str.ofString "xmm") kS2, .ref Xm⟩, ⟨hS3, .str (Str.ofString "flags") kS3, .ref Fl⟩, ⟨hS4, .str (Str.ofString "memory") kS4, .ref Me⟩, ⟨hS5, .str (Str.ofString "rip") kS5, .int rip trip⟩, ⟨hS6, .str (Str.ofString "begin") kS6, .int 0 tbg⟩, ⟨hS7, .str (Str.ofString "segments") kS7, .ref Sg⟩, ⟨hS8, .str (Str.ofString "is_halted") kS8, .bool false⟩] 9) ∈ news) (mR : (R, listOf vsR.toArray nR) ∈ news) (iR : IntsAre vsR ws) (mGa : (G, instObj 314 dG) ∈ news) (mGb : (dG, dictOf [⟨hG0, .str (Str.ofString "name") kG0, .str wG uG0⟩, ⟨hG1, .str (Str.ofString "kind") kG1, .str (Str.ofString "gpr") uG1⟩, ⟨hG2, .str (Str.ofString "number") kG2, .int iG uG2⟩, ⟨hG3, .str (Str.ofString "size") kG3, .int zG uG3⟩] 4) ∈ news) (mJa : (J, instObj 314 dJ) ∈ news) (mJb : (dJ, dictOf [⟨hJ0, .str (Str.ofString "name") kJ0, .str wJ uJ0⟩, ⟨hJ1, .str (Str.ofString "kind") kJ1, .str (Str.ofString "gpr") uJ1⟩, ⟨hJ2, .str (Str.ofString "number") kJ2, .int iJ uJ2⟩, ⟨hJ3, .str (Str.ofString "size") kJ3, .int zJ uJ3⟩] 4) ∈ news) (mOa : (O, instObj 751 dO) ∈ news) (mOb : (dO, dictOf [⟨hO0, .str (Str.ofString "kind") kO0, .str (Str.ofString "mem") uO0⟩, ⟨hO1, .str (Str.ofString "base") kO1, .ref G⟩, ⟨hO2, .str (Str.ofString "index") kO2, .ref J⟩, ⟨hO3, .str (Str.ofString "scale") kO3, .int scO uO1⟩, ⟨hO4, .str (Str.ofString "worth") kO4, .int eO uO2⟩, ⟨hO5, .str (Str.ofString "size") kO5, .int szO uO3⟩, ⟨hO6, .str (Str.ofString "segment") kO6, .str (Str.ofString "") uO4⟩, ⟨hO7, .str (Str.ofString "name") kO7, .str (Str.ofString "") uO5⟩] 8) ∈ news)
    (ret : ∀ h' tk' t', Fr h₀ L h' m → News h₀ L h' news → Q (.int (low (eO + low (ws.getD iG.toNat 0) zG + low (ws.getD iJ.toNat 0) zJ * scO) 64) t') ⟨h', stG, stD, tk', stO⟩) :
    wpAny (model PySem.Challenge.rw_nn0065_01.row.prog w) (ktrTop dp un gd cn cs L a ccd cl outer) (call (.ref 487) [.ref S, .ref O]) Q E ⟨stH, stG, stD, stT, stO⟩ := by
  k_dflt (refine' enter_def [(Str.ofString "self", .ref S), (Str.ofString "mem", .ref O)] ?k1 ?k2 ?k3 ?k4 ?k5 ?kA ?kF ?kK ?k6 ?k7 ?k8 ?k9 ?kB ?_ ?c2 ?c3 ?c4 ?c5; k_extra "en")
  k_steps
  exact ret _ _ _ (by k_asm) (by k_asm)
end
section
variable {w : World} {dp un : Nat} {gd : Option (List Code)} {cn : Str} {cs : Scope} {a : Addr} {ccd : Value} {cl : List (Str × Addr)} {outer : List Env} {A₀ : Around} {base h₀ : Heap} {L : Addr} {m : Str → Option Value} {stH : Heap} {stG : Array GenState} {stD : Drawn} {stT : Nat} {stO : OsState} {Q E : Value → Shared → Prop} {p : Program} {loose : List Str} {mean : ExcName → Option Value} {mg mb : Str → Option Value} {news : List (Addr × Obj)}
    (B : Below A₀ base outer h₀) (F : Fr h₀ L stH m) (X : (hd.heap_39 w.params).In h₀) (T : Top p loose mean mg mb h₀) (hk : cs.kind = .function) (N : News h₀ L stH news)
include B F X T hk N
theorem c_place {S R Xm Fl Me Sg : Addr} {rip : Int} {trip tbg : Tok} {dS : Addr} {hS0 hS1 hS2 hS3 hS4 hS5 hS6 hS7 hS8 : Int} {kS0 kS1 kS2 kS3 kS4 kS5 kS6 kS7 kS8 : Tok} {vsR : List Value} {ws : List Int} {nR : Nat} {G : Addr} {wG : Str} {iG zG : Int} {uG0 uG1 uG2 uG3 : Tok} {dG : Addr} {hG0 hG1 hG2 hG3 : Int} {kG0 kG1 kG2 kG3 : Tok} {O : Addr} {scO eO szO : Int} {uO0 uO1 uO2 uO3 uO4 uO5 : Tok} {dO : Addr} {hO0 hO1 hO2 hO3 hO4 hO5 hO6 hO7 : Int} {kO0 kO1 kO2 kO3 kO4 kO5 kO6 kO7 : Tok} (hdp : dp + 10 < recursionLimit) (h0 : 0 ≤ iG) (h1 : iG < ws.length) (h1b : ws.length ≤ 16) (z0 : 0 ≤ zG) (z1 : zG ≤ 128) (mSa : (S, instObj 546 dS) ∈ news) (mSb : (dS, dictOf [⟨hS0, .str (Str.ofString "iset") kS0, .none⟩, ⟨hS1, .str (Str.ofString "regs") kS1, .ref R⟩, ⟨hS2, .str (Str.ofString "xmm") kS2, .ref Xm⟩, ⟨hS3, .str (Str.ofString "flags") kS3, .ref Fl⟩, ⟨hS4, .str (Str.ofString "memory") kS4, .ref Me⟩, ⟨hS5, .str (Str.ofString "rip") kS5, .int rip trip⟩, ⟨hS6, .str (Str.ofString "begin") kS6, .int 0 tbg⟩, ⟨hS7, .str (Str.ofString "segments") kS7, .ref Sg⟩, ⟨hS8, .str (Str.ofString "is_halted") kS8, .bool false⟩] 9) ∈ news) (mR : (R, listOf vsR.toArray nR) ∈ news) (iR : IntsAre vsR ws) (mGa : (G, instObj 314 dG) ∈ news) (mGb : (dG, dictOf [⟨hG0, .str (Str.ofString "name") kG0, .str wG uG0⟩, ⟨hG1, .str (Str.ofString "kind") kG1, .str (Str.ofString "gpr") uG1⟩, ⟨hG2, .str (Str.ofString "number") kG2, .int iG uG2⟩, ⟨hG3, .str (Str.ofString "size") kG3, .int zG uG3⟩] 4) ∈ news) (mOa : (O, instObj 751 dO) ∈ news) (mOb : (dO, dictOf [⟨hO0, .str (Str.ofString "kind") kO0, .str (Str.ofString "mem") uO0⟩, ⟨hO1, .str (Str.ofString "base") kO1, .ref G⟩, ⟨hO2, .str (Str.ofString "index") kO2, .none⟩, ⟨hO3, .str (Str.ofString "scale") kO3, .int scO uO1⟩, ⟨hO4, .str (Str.ofString "worth") kO4, .int eO uO2⟩, ⟨hO5, .str (Str.ofString "size") kO5, .int szO uO3⟩, ⟨hO6, .str (Str.ofString "segment") kO6, .str (Str.ofString "") uO4⟩, ⟨hO7, .str (Str.ofString "name") kO7, .str (Str.ofString "") uO5⟩] 8) ∈ news)
    (ret : ∀ h' tk' t', Fr h₀ L h' m → News h₀ L h' news → Q (.int (low (low (eO + low (ws.getD iG.toNat 0) zG) 64 + 0) 64) t') ⟨h', stG, stD, tk', stO⟩) :
    wpAny (model PySem.Challenge.rw_nn0065_01.row.prog w) (ktrTop dp un gd cn cs L a ccd cl outer) (call (.ref 494) [.ref S, .ref O]) Q E ⟨stH, stG, stD, stT, stO⟩ := by
  k_dflt (refine' enter_def [(Str.ofString "self", .ref S), (Str.ofString "mem", .ref O)] ?k1 ?k2 ?k3 ?k4 ?k5 ?kA ?kF ?kK ?k6 ?k7 ?k8 ?k9 ?kB ?_ ?c2 ?c3 ?c4 ?c5; k_extra "en")
  k_steps
  exact ret _ _ _ (by k_asm) (by k_asm)
end
example : True := by
  k_with "subN" => ((intro p9 h9; repeat (first | exact h9 | refine List.mem_cons_of_mem _ ?_)))
  k_with "endN" => (first | k_asm | (refine' Mine.news_of ?n9 ?s9; (case n9 => k_asm); (case s9 => walk_at "subN")))
  k_with "unroll" => ((k_dflt (refine' iter_listUnr ?u1 ?u2 ?u3 ?u4 ?u5 ?u6 ?_; (case u1 => rfl); (case u2 => k_asm); (case u3 => k_asm); (case u4 => k_mem); (case u5 => rfl); (case u6 => rfl)); intro I' lI'; change BelowA _ _ at lI'))
  k_with "turn1" => ((refine ListRest.succ ?_; intro it' h' tk' hc' F' N'; (try k_fold)))
  k_with "turnend" => (((rename BelowA _ _ => l9); refine ⟨_, _, _, _, rfl, by k_asm, by k_asm, fun p hp => Nat.ne_of_lt (l9 p hp), by k_mem, ?_⟩))
  k_with "turn0" => ((refine ListRest.zero ?_; intro h' tk' F' N'; (try k_fold)))
  k_with "nomark" => (((rename LoopMark => lM); clear lM))
  k_with "call ref" => ((k_here; (with_reducible show wpAny _ _ (PySem.call (Value.ref 501) _ _) _ _ _); k_dflt (refine' Mine.c_size1 ?B ?F ?X ?T ?k ?N ?d ?mGa ?mGb ?mOa ?mOb ?mIa ?mIb ?mTp ?_; (case B => k_asm); (case F => k_asm); (case X => k_asm); (case T => k_asm); (case k => first | exact rfl | assumption); (case N => k_asm); (case mIa => k_mem); (case mIb => k_mem); (case mTp => k_mem); (case mOa => k_mem); (case mOb => k_mem); (case mGa => k_mem); (case mGb => k_mem); (case d => ktr_room)); intro h' tk' t' F' N'; (try dsimp only at N'); (try k_sweep)))
  k_with "call ref" => ((k_here; (with_reducible show wpAny _ _ (PySem.call (Value.ref 501) _ _) _ _ _); k_dflt (refine' Mine.c_size2 ?B ?F ?X ?T ?k ?N ?d ?mGa ?mGb ?mOa ?mOb ?mIa ?mIb ?mTp ?_; (case B => k_asm); (case F => k_asm); (case X => k_asm); (case T => k_asm); (case k => first | exact rfl | assumption); (case N => k_asm); (case mIa => k_mem); (case mIb => k_mem); (case mTp => k_mem); (case mOa => k_mem); (case mOb => k_mem); (case mGa => k_mem); (case mGb => k_mem); (case d => ktr_room)); intro h' tk' t' F' N'; (try dsimp only at N'); (try k_sweep)))
  k_with "call ref" => ((k_here; (with_reducible show wpAny _ _ (PySem.call (Value.ref 501) _ _) _ _ _); k_dflt (refine' Mine.c_sizeM ?B ?F ?X ?T ?k ?N ?a0 ?d ?mOa ?mOb ?mIa ?mIb ?mTp ?_; (case B => k_asm); (case F => k_asm); (case X => k_asm); (case T => k_asm); (case k => first | exact rfl | assumption); (case N => k_asm); (case mIa => k_mem); (case mIb => k_mem); (case mTp => k_mem); (case mOa => k_mem); (case mOb => k_mem); (case a0 => first | omega | decide); (case d => ktr_room)); intro h' tk' t' F' N'; (try dsimp only at N'); (try k_sweep)))
  k_with "call ref" => ((k_here; (with_reducible show wpAny _ _ (PySem.call (Value.ref 501) _ _) _ _ _); k_dflt (refine' Mine.c_sizeI ?B ?F ?X ?T ?k ?N ?d ?mOa ?mOb ?mIa ?mIb ?mTp ?_; (case B => k_asm); (case F => k_asm); (case X => k_asm); (case T => k_asm); (case k => first | exact rfl | assumption); (case N => k_asm); (case mIa => k_mem); (case mIb => k_mem); (case mTp => k_mem); (case mOa => k_mem); (case mOb => k_mem); (case d => ktr_room)); intro h' tk' t' F' N'; (try dsimp only at N'); (try k_sweep)))
  trivial
section
variable {w : World} {dp un : Nat} {gd : Option (List Code)} {cn : Str} {cs : Scope} {a : Addr} {ccd : Value} {cl : List (Str × Addr)} {outer : List Env} {A₀ : Around} {base h₀ : Heap} {L : Addr} {m : Str → Option Value} {stH : Heap} {stG : Array GenState} {stD : Drawn} {stT : Nat} {stO : OsState} {Q E : Value → Shared → Prop} {p : Program} {loose : List Str} {mean : ExcName → Option Value} {mg mb : Str → Option Value} {news : List (Addr × Obj)}
    (B : Below A₀ base outer h₀) (F : Fr h₀ L stH m) (X : (hd.heap_39 w.params).In h₀) (T : Top p loose mean mg mb h₀) (hk : cs.kind = .function) (N : News h₀ L stH news)
include B F X T hk N
/-- how wide an operand is: a register's own size -/
theorem c_size1 {G : Addr} {wG : Str} {iG zG : Int} {uG0 uG1 uG2 uG3 : Tok} {dG : Addr} {hG0 hG1 hG2 hG3 : Int} {kG0 kG1 kG2 kG3 : Tok} {O : Addr} {uO0 : Tok} {dO : Addr} {hO0 hO1 : Int} {kO0 kO1 : Tok} {nmI : Str} {I Tp : Addr} {uI0 uI1 : Tok} {nTp : Nat} {dI : Addr} {hI0 hI1 hI2 : Int} {kI0 kI1 kI2 : Tok} {S : Addr} (hdp : dp + 4 < recursionLimit) (mGa : (G, instObj 314 dG) ∈ news) (mGb : (dG, dictOf [⟨hG0, .str (Str.ofString "name") kG0, .str wG uG0⟩, ⟨hG1, .str (Str.ofString "kind") kG1, .str (Str.ofString "gpr") uG1⟩, ⟨hG2, .str (Str.ofString "number") kG2, .int iG uG2⟩, ⟨hG3, .str (Str.ofString "size") kG3, .int zG uG3⟩] 4) ∈ news) (mOa : (O, instObj 623 dO) ∈ news) (mOb : (dO, dictOf [⟨hO0, .str (Str.ofString "kind") kO0, .str (Str.ofString "reg") uO0⟩, ⟨hO1, .str (Str.ofString "register") kO1, .ref G⟩] 2) ∈ news) (mIa : (I, instObj 804 dI) ∈ news) (mIb : (dI, dictOf [⟨hI0, .str (Str.ofString "name") kI0, .str nmI uI0⟩, ⟨hI1, .str (Str.ofString "operands") kI1, .ref Tp⟩, ⟨hI2, .str (Str.ofString "prefix") kI2, .str (Str.ofString "") uI1⟩] 3) ∈ news) (mTp : (Tp, { cls := .type "tuple", data := .seq (List.toArray [.ref O]) nTp }) ∈ news)
    (ret : ∀ h' tk' t', Fr h₀ L h' m → News h₀ L h' news → Q (.int zG t') ⟨h', stG, stD, tk', stO⟩) :
    wpAny (model PySem.Challenge.rw_nn0065_01.row.prog w) (ktrTop dp un gd cn cs L a ccd cl outer) (call (.ref 501) [.ref S, .ref O, .ref I]) Q E ⟨stH, stG, stD, stT, stO⟩ := by
  k_dflt (refine' enter_def [(Str.ofString "self", .ref S), (Str.ofString "operand", .ref O), (Str.ofString "instruction", .ref I)] ?k1 ?k2 ?k3 ?k4 ?k5 ?kA ?kF ?kK ?k6 ?k7 ?k8 ?k9 ?kB ?_ ?c2 ?c3 ?c4 ?c5; k_extra "en")
  have lM := LoopMark.mk
  k_steps
  refine stop_out ?_
  walk_at "nomark"
  walk_at "unroll"
  walk_at "turn1"
  k_steps
  exact ret _ _ _ (by k_asm) (by walk_at "endN")
theorem c_size2 {G : Addr} {wG : Str} {iG zG : Int} {uG0 uG1 uG2 uG3 : Tok} {dG : Addr} {hG0 hG1 hG2 hG3 : Int} {kG0 kG1 kG2 kG3 : Tok} {O : Addr} {uO0 : Tok} {dO : Addr} {hO0 hO1 : Int} {kO0 kO1 : Tok} {nmI : Str} {I Tp : Addr} {uI0 uI1 : Tok} {nTp : Nat} {dI : Addr} {hI0 hI1 hI2 : Int} {kI0 kI1 kI2 : Tok} {S P : Addr} (hdp : dp + 4 < recursionLimit) (mGa : (G, instObj 314 dG) ∈ news) (mGb : (dG, dictOf [⟨hG0, .str (Str.ofString "name") kG0, .str wG uG0⟩, ⟨hG1, .str (Str.ofString "kind") kG1, .str (Str.ofString "gpr") uG1⟩, ⟨hG2, .str (Str.ofString "number") kG2, .int iG uG2⟩, ⟨hG3, .str (Str.ofString "size") kG3, .int zG uG3⟩] 4) ∈ news) (mOa : (O, instObj 623 dO) ∈ news) (mOb : (dO, dictOf [⟨hO0, .str (Str.ofString "kind") kO0, .str (Str.ofString "reg") uO0⟩, ⟨hO1, .str (Str.ofString "register") kO1, .ref G⟩] 2) ∈ news) (mIa : (I, instObj 804 dI) ∈ news) (mIb : (dI, dictOf [⟨hI0, .str (Str.ofString "name") kI0, .str nmI uI0⟩, ⟨hI1, .str (Str.ofString "operands") kI1, .ref Tp⟩, ⟨hI2, .str (Str.ofString "prefix") kI2, .str (Str.ofString "") uI1⟩] 3) ∈ news) (mTp : (Tp, { cls := .type "tuple", data := .seq (List.toArray [.ref O, .ref P]) nTp }) ∈ news)
    (ret : ∀ h' tk' t', Fr h₀ L h' m → News h₀ L h' news → Q (.int zG t') ⟨h', stG, stD, tk', stO⟩) :
    wpAny (model PySem.Challenge.rw_nn0065_01.row.prog w) (ktrTop dp un gd cn cs L a ccd cl outer) (call (.ref 501) [.ref S, .ref O, .ref I]) Q E ⟨stH, stG, stD, stT, stO⟩ := by
  k_dflt (refine' enter_def [(Str.ofString "self", .ref S), (Str.ofString "operand", .ref O), (Str.ofString "instruction", .ref I)] ?k1 ?k2 ?k3 ?k4 ?k5 ?kA ?kF ?kK ?k6 ?k7 ?k8 ?k9 ?kB ?_ ?c2 ?c3 ?c4 ?c5; k_extra "en")
  have lM := LoopMark.mk
  k_steps
  refine stop_out ?_
  walk_at "nomark"
  walk_at "unroll"
  walk_at "turn1"
  k_steps
  exact ret _ _ _ (by k_asm) (by walk_at "endN")
theorem c_sizeM {O : Addr} {scO eO szO : Int} {uO0 uO1 uO2 uO3 uO4 uO5 : Tok} {dO : Addr} {hO0 hO1 hO2 hO3 hO4 hO5 hO6 hO7 : Int} {kO0 kO1 kO2 kO3 kO4 kO5 kO6 kO7 : Tok} {nmI : Str} {I Tp : Addr} {uI0 uI1 : Tok} {nTp : Nat} {dI : Addr} {hI0 hI1 hI2 : Int} {kI0 kI1 kI2 : Tok} {S G : Addr} (hsz : 0 < szO) (hdp : dp + 4 < recursionLimit) (mOa : (O, instObj 751 dO) ∈ news) (mOb : (dO, dictOf [⟨hO0, .str (Str.ofString "kind") kO0, .str (Str.ofString "mem") uO0⟩, ⟨hO1, .str (Str.ofString "base") kO1, .ref G⟩, ⟨hO2, .str (Str.ofString "index") kO2, .none⟩, ⟨hO3, .str (Str.ofString "scale") kO3, .int scO uO1⟩, ⟨hO4, .str (Str.ofString "worth") kO4, .int eO uO2⟩, ⟨hO5, .str (Str.ofString "size") kO5, .int szO uO3⟩, ⟨hO6, .str (Str.ofString "segment") kO6, .str (Str.ofString "") uO4⟩, ⟨hO7, .str (Str.ofString "name") kO7, .str (Str.ofString "") uO5⟩] 8) ∈ news) (mIa : (I, instObj 804 dI) ∈ news) (mIb : (dI, dictOf [⟨hI0, .str (Str.ofString "name") kI0, .str nmI uI0⟩, ⟨hI1, .str (Str.ofString "operands") kI1, .ref Tp⟩, ⟨hI2, .str (Str.ofString "prefix") kI2, .str (Str.ofString "") uI1⟩] 3) ∈ news) (mTp : (Tp, { cls := .type "tuple", data := .seq (List.toArray [.ref O]) nTp }) ∈ news)
    (ret : ∀ h' tk' t', Fr h₀ L h' m → News h₀ L h' news → Q (.int szO t') ⟨h', stG, stD, tk', stO⟩) :
    wpAny (model PySem.Challenge.rw_nn0065_01.row.prog w) (ktrTop dp un gd cn cs L a ccd cl outer) (call (.ref 501) [.ref S, .ref O, .ref I]) Q E ⟨stH, stG, stD, stT, stO⟩ := by
  k_dflt (refine' enter_def [(Str.ofString "self", .ref S), (Str.ofString "operand", .ref O), (Str.ofString "instruction", .ref I)] ?k1 ?k2 ?k3 ?k4 ?k5 ?kA ?kF ?kK ?k6 ?k7 ?k8 ?k9 ?kB ?_ ?c2 ?c3 ?c4 ?c5; k_extra "en")
  have lM := LoopMark.mk
  k_steps
  refine stop_out ?_
  walk_at "nomark"
  walk_at "unroll"
  walk_at "turn1"
  k_steps
  exact ret _ _ _ (by k_asm) (by walk_at "endN")
theorem c_sizeI {O : Addr} {eO : Int} {uO0 uO1 uO2 : Tok} {dO : Addr} {hO0 hO1 hO2 : Int} {kO0 kO1 kO2 : Tok} {nmI : Str} {I Tp : Addr} {uI0 uI1 : Tok} {nTp : Nat} {dI : Addr} {hI0 hI1 hI2 : Int} {kI0 kI1 kI2 : Tok} {S : Addr} (hdp : dp + 4 < recursionLimit) (mOa : (O, instObj 657 dO) ∈ news) (mOb : (dO, dictOf [⟨hO0, .str (Str.ofString "kind") kO0, .str (Str.ofString "imm") uO0⟩, ⟨hO1, .str (Str.ofString "worth") kO1, .int eO uO1⟩, ⟨hO2, .str (Str.ofString "name") kO2, .str (Str.ofString "") uO2⟩] 3) ∈ news) (mIa : (I, instObj 804 dI) ∈ news) (mIb : (dI, dictOf [⟨hI0, .str (Str.ofString "name") kI0, .str nmI uI0⟩, ⟨hI1, .str (Str.ofString "operands") kI1, .ref Tp⟩, ⟨hI2, .str (Str.ofString "prefix") kI2, .str (Str.ofString "") uI1⟩] 3) ∈ news) (mTp : (Tp, { cls := .type "tuple", data := .seq (List.toArray [.ref O]) nTp }) ∈ news)
    (ret : ∀ h' tk' t', Fr h₀ L h' m → News h₀ L h' news → Q (.int 64 t') ⟨h', stG, stD, tk', stO⟩) :
    wpAny (model PySem.Challenge.rw_nn0065_01.row.prog w) (ktrTop dp un gd cn cs L a ccd cl outer) (call (.ref 501) [.ref S, .ref O, .ref I]) Q E ⟨stH, stG, stD, stT, stO⟩ := by
  k_dflt (refine' enter_def [(Str.ofString "self", .ref S), (Str.ofString "operand", .ref O), (Str.ofString "instruction", .ref I)] ?k1 ?k2 ?k3 ?k4 ?k5 ?kA ?kF ?kK ?k6 ?k7 ?k8 ?k9 ?kB ?_ ?c2 ?c3 ?c4 ?c5; k_extra "en")
  have lM := LoopMark.mk
  k_steps
  refine stop_out ?_
  walk_at "nomark"
  walk_at "unroll"
  walk_at "turn1"
  k_steps
  walk_at "turnend"
  walk_at "turn1"
  k_steps
  walk_at "turnend"
  walk_at "turn0"
  k_steps
  exact ret _ _ _ (by k_asm) (by walk_at "endN")
end
local macro_rules | `(tactic| k_all) => `(tactic| with_reducible assumption)
example : True := by
  k_with "call ref" => ((k_here; (with_reducible show wpAny _ _ (PySem.call (Value.ref 508) _ _) _ _ _); k_dflt (refine' Mine.c_sreadR ?B ?F ?X ?T ?k ?N ?d ?a0 ?a1 ?a2 ?a3 ?a4 ?a5 ?a6 ?mSa ?mSb ?mR ?iR ?mGa ?mGb ?mOa ?mOb ?_; (case B => k_asm); (case F => k_asm); (case X => k_asm); (case T => k_asm); (case k => first | exact rfl | assumption); (case N => k_asm); (case mSa => k_mem); (case mSb => k_mem); (case mOa => k_mem); (case mOb => k_mem); (case mGa => k_mem); (case mGb => k_mem); (case mR => k_mem); (case iR => l_ints); (case d => ktr_room); (case a0 => omega); (case a1 => omega); (case a2 => omega); (case a3 => omega); (case a4 => omega); (case a5 => omega); (case a6 => omega)); intro h' tk' t' F' N'; (try dsimp only at N'); (try k_sweep)))
  k_with "call ref" => ((k_here; (with_reducible show wpAny _ _ (PySem.call (Value.ref 508) _ _) _ _ _); k_dflt (refine' Mine.c_sreadI ?B ?F ?X ?T ?k ?N ?d ?a5 ?a6 ?mOa ?mOb ?_; (case B => k_asm); (case F => k_asm); (case X => k_asm); (case T => k_asm); (case k => first | exact rfl | assumption); (case N => k_asm); (case mOa => k_mem); (case mOb => k_mem); (case d => ktr_room); (case a5 => omega); (case a6 => omega)); intro h' tk' t' F' N'; (try dsimp only at N'); (try k_sweep)))
  k_with "call ref" => ((k_here; (with_reducible show wpAny _ _ (PySem.call (Value.ref 508) _ _) _ _ _); k_dflt (refine' Mine.c_sreadM ?B ?F ?X ?T ?k ?N ?d ?a0 ?a1 ?a2 ?a3 ?a4 ?a5 ?a6 ?mSa ?mSb ?mR ?iR ?mMea ?mMeb ?mH ?D ?mGa ?mGb ?mOa ?mOb ?_; (case B => k_asm); (case F => k_asm); (case X => k_asm); (case T => k_asm); (case k => first | exact rfl | assumption); (case N => k_asm); (case mSa => k_mem); (case mSb => k_mem); (case mOa => k_mem); (case mOb => k_mem); (case mGa => k_mem); (case mGb => k_mem); (case mR => k_mem); (case mMea => k_mem); (case mMeb => k_mem); (case mH => k_mem); (case iR => l_ints); (case D => k_asm); (case d => ktr_room); (case a0 => omega); (case a1 => omega); (case a2 => omega); (case a3 => omega); (case a4 => omega); (case a5 => omega); (case a6 => omega)); intro h' tk' t' F' N'; (try dsimp only at N'); (try k_sweep)))
  k_with "call ref" => ((k_here; (with_reducible show wpAny _ _ (PySem.call (Value.ref 515) _ _) _ _ _); k_dflt (refine' Mine.c_swriteR ?B ?F ?X ?T ?k ?N ?U ?d ?a0 ?a1 ?a2 ?a3 ?a4 ?nmSa ?nmSb ?mSa ?mSb ?iR ?nmGa ?nmGb ?mGa ?mGb ?nmOa ?nmOb ?mOa ?mOb ?_; (case B => k_asm); (case F => k_asm); (case X => k_asm); (case T => k_asm); (case k => first | exact rfl | assumption); (case N => k_asm); (case nmSa => k_mem); (case nmSb => k_mem); (case nmOa => k_mem); (case nmOb => k_mem); (case nmGa => k_mem); (case nmGb => k_mem); (case U => k_updF); (case mSa => first | with_reducible assumption | (intros; k_mem)); (case mSb => first | with_reducible assumption | (intros; k_mem)); (case mOa => first | with_reducible assumption | (intros; k_mem)); (case mOb => first | with_reducible assumption | (intros; k_mem)); (case mGa => first | with_reducible assumption | (intros; k_mem)); (case mGb => first | with_reducible assumption | (intros; k_mem)); (case iR => l_ints); (case d => ktr_room); (case a0 => omega); (case a1 => omega); (case a2 => omega); (case a3 => omega); (case a4 => omega)); intro h' tk' vs' F' N' I'; (try dsimp only at N'); (try k_sweep)))
  k_with "call ref" => ((k_here; (with_reducible show wpAny _ _ (PySem.call (Value.ref 515) _ _) _ _ _); k_dflt (refine' Mine.c_swriteM ?B ?F ?X ?T ?k ?N ?U ?d ?a0 ?a1 ?a2 ?a3 ?a4 ?a5 ?a6 ?a7 ?nmSa ?nmSb ?mSa ?mSb ?nmR ?mR ?iR ?nmMea ?nmMeb ?mMea ?mMeb ?D ?nmGa ?nmGb ?mGa ?mGb ?nmOa ?nmOb ?mOa ?mOb ?_; (case B => k_asm); (case F => k_asm); (case X => k_asm); (case T => k_asm); (case k => first | exact rfl | assumption); (case N => k_asm); (case nmSa => k_mem); (case nmSb => k_mem); (case nmOa => k_mem); (case nmOb => k_mem); (case nmGa => k_mem); (case nmGb => k_mem); (case nmR => k_mem); (case nmMea => k_mem); (case nmMeb => k_mem); (case U => k_updF); (case mSa => first | with_reducible assumption | (intros; k_mem)); (case mSb => first | with_reducible assumption | (intros; k_mem)); (case mOa => first | with_reducible assumption | (intros; k_mem)); (case mOb => first | with_reducible assumption | (intros; k_mem)); (case mGa => first | with_reducible assumption | (intros; k_mem)); (case mGb => first | with_reducible assumption | (intros; k_mem)); (case mR => first | with_reducible assumption | (intros; k_mem)); (case mMea => first | with_reducible assumption | (intros; k_mem)); (case mMeb => first | with_reducible assumption | (intros; k_mem)); (case iR => l_ints); (case D => k_asm); (case d => ktr_room); (case a0 => omega); (case a1 => omega); (case a2 => omega); (case a3 => omega); (case a4 => omega); (case a5 => omega); (case a6 => omega); (case a7 => omega)); intro h' tk' o' F' N' D'; (try dsimp only at N'); (try k_sweep)))
  k_with "call ref" => ((k_here; (with_reducible show wpAny _ _ (PySem.call (Value.ref 529) _ _) _ _ _); k_dflt (refine' Mine.c_pop ?B ?F ?X ?T ?k ?N ?U ?d ?a0 ?a1 ?a2 ?nmSa ?nmSb ?mSa ?mSb ?iR ?nmMea ?nmMeb ?mMea ?mMeb ?nmH ?mH ?D ?_; (case B => k_asm); (case F => k_asm); (case X => k_asm); (case T => k_asm); (case k => first | exact rfl | assumption); (case N => k_asm); (case nmSa => k_mem); (case nmSb => k_mem); (case nmMea => k_mem); (case nmMeb => k_mem); (case nmH => k_mem); (case U => k_updF); (case mSa => first | with_reducible assumption | (intros; k_mem)); (case mSb => first | with_reducible assumption | (intros; k_mem)); (case mMea => first | with_reducible assumption | (intros; k_mem)); (case mMeb => first | with_reducible assumption | (intros; k_mem)); (case mH => first | with_reducible assumption | (intros; k_mem)); (case iR => l_ints); (case D => k_asm); (case d => ktr_room); (case a0 => omega); (case a1 => first | omega | decide); (case a2 => first | omega | decide)); intro h' tk' vs' t' F' N' I'; (try dsimp only at N'); (try k_sweep)))
  k_with "call ref" => ((k_here; (with_reducible show wpAny _ _ (PySem.call (Value.ref 522) _ _) _ _ _); k_dflt (refine' Mine.c_push ?B ?F ?X ?T ?k ?N ?U1 ?U ?d ?a0 ?a1 ?a2 ?a3 ?nmSa ?nmSb ?mSa ?mSb ?iR ?nmMea ?nmMeb ?mMea ?mMeb ?D ?_; (case B => k_asm); (case F => k_asm); (case X => k_asm); (case T => k_asm); (case k => first | exact rfl | assumption); (case N => k_asm); (case nmSa => k_mem); (case nmSb => k_mem); (case nmMea => k_mem); (case nmMeb => k_mem); (case U1 => k_updF); (case U => intro _; k_updF); (case mSa => first | with_reducible assumption | (intros; k_mem)); (case mSb => first | with_reducible assumption | (intros; k_mem)); (case mMea => first | with_reducible assumption | (intros; k_mem)); (case mMeb => first | with_reducible assumption | (intros; k_mem)); (case iR => l_ints); (case D => k_asm); (case d => ktr_room); (case a0 => omega); (case a1 => first | omega | decide); (case a2 => first | omega | decide); (case a3 => omega)); intro h' tk' vs' o' F' N' I' D'; (try dsimp only at N'); (try k_sweep)))
  trivial
section
variable {w : World} {dp un : Nat} {gd : Option (List Code)} {cn : Str} {cs : Scope} {a : Addr} {ccd : Value} {cl : List (Str × Addr)} {outer : List Env} {A₀ : Around} {base h₀ : Heap} {L : Addr} {m : Str → Option Value} {stH : Heap} {stG : Array GenState} {stD : Drawn} {stT : Nat} {stO : OsState} {Q E : Value → Shared → Prop} {p : Program} {loose : List Str} {mean : ExcName → Option Value} {mg mb : Str → Option Value} {news : List (Addr × Obj)}
    (B : Below A₀ base outer h₀) (F : Fr h₀ L stH m) (X : (hd.heap_39 w.params).In h₀) (T : Top p loose mean mg mb h₀) (hk : cs.kind = .function) (N : News h₀ L stH news)
include B F X T hk N
theorem c_sreadR {S R Xm Fl Me Sg : Addr} {rip : Int} {trip tbg : Tok} {dS : Addr} {hS0 hS1 hS2 hS3 hS4 hS5 hS6 hS7 hS8 : Int} {kS0 kS1 kS2 kS3 kS4 kS5 kS6 kS7 kS8 : Tok} {vsR : List Value} {ws : List Int} {nR : Nat} {G : Addr} {wG : Str} {iG zG : Int} {uG0 uG1 uG2 uG3 : Tok} {dG : Addr} {hG0 hG1 hG2 hG3 : Int} {kG0 kG1 kG2 kG3 : Tok} {O : Addr} {uO0 : Tok} {dO : Addr} {hO0 hO1 : Int} {kO0 kO1 : Tok} {z2 : Int} {t2 : Tok} (hdp : dp + 8 < recursionLimit) (h0 : 0 ≤ iG) (h1 : iG < ws.length) (h1b : ws.length ≤ 16) (z0 : 0 ≤ zG) (z1 : zG ≤ 128) (y0 : 0 ≤ z2) (y1 : z2 ≤ 128) (mSa : (S, instObj 546 dS) ∈ news) (mSb : (dS, dictOf [⟨hS0, .str (Str.ofString "iset") kS0, .none⟩, ⟨hS1, .str (Str.ofString "regs") kS1, .ref R⟩, ⟨hS2, .str (Str.ofString "xmm") kS2, .ref Xm⟩, ⟨hS3, .str (Str.ofString "flags") kS3, .ref Fl⟩, ⟨hS4, .str (Str.ofString "memory") kS4, .ref Me⟩, ⟨hS5, .str (Str.ofString "rip") kS5, .int rip trip⟩, ⟨hS6, .str (Str.ofString "begin") kS6, .int 0 tbg⟩, ⟨hS7, .str (Str.ofString "segments") kS7, .ref Sg⟩, ⟨hS8, .str (Str.ofString "is_halted") kS8, .bool false⟩] 9) ∈ news) (mR : (R, listOf vsR.toArray nR) ∈ news) (iR : IntsAre vsR ws) (mGa : (G, instObj 314 dG) ∈ news) (mGb : (dG, dictOf [⟨hG0, .str (Str.ofString "name") kG0, .str wG uG0⟩, ⟨hG1, .str (Str.ofString "kind") kG1, .str (Str.ofString "gpr") uG1⟩, ⟨hG2, .str (Str.ofString "number") kG2, .int iG uG2⟩, ⟨hG3, .str (Str.ofString "size") kG3, .int zG uG3⟩] 4) ∈ news) (mOa : (O, instObj 623 dO) ∈ news) (mOb : (dO, dictOf [⟨hO0, .str (Str.ofString "kind") kO0, .str (Str.ofString "reg") uO0⟩, ⟨hO1, .str (Str.ofString "register") kO1, .ref G⟩] 2) ∈ news)
    (ret : ∀ h' tk' t', Fr h₀ L h' m → News h₀ L h' news → Q (.int (low (low (ws.getD iG.toNat 0) zG) z2) t') ⟨h', stG, stD, tk', stO⟩) :
    wpAny (model PySem.Challenge.rw_nn0065_01.row.prog w) (ktrTop dp un gd cn cs L a ccd cl outer) (call (.ref 508) [.ref S, .ref O, .int z2 t2]) Q E ⟨stH, stG, stD, stT, stO⟩ := by
  k_dflt (refine' enter_def [(Str.ofString "self", .ref S), (Str.ofString "operand", .ref O), (Str.ofString "size", .int z2 t2)] ?k1 ?k2 ?k3 ?k4 ?k5 ?kA ?kF ?kK ?k6 ?k7 ?k8 ?k9 ?kB ?_ ?c2 ?c3 ?c4 ?c5; k_extra "en")
  k_steps
  exact ret _ _ _ (by k_asm) (by k_asm)
theorem c_sreadI {O : Addr} {eO : Int} {uO0 uO1 uO2 : Tok} {dO : Addr} {hO0 hO1 hO2 : Int} {kO0 kO1 kO2 : Tok} {S : Addr} {z2 : Int} {t2 : Tok} (hdp : dp + 8 < recursionLimit) (y0 : 0 ≤ z2) (y1 : z2 ≤ 128) (mOa : (O, instObj 657 dO) ∈ news) (mOb : (dO, dictOf [⟨hO0, .str (Str.ofString "kind") kO0, .str (Str.ofString "imm") uO0⟩, ⟨hO1, .str (Str.ofString "worth") kO1, .int eO uO1⟩, ⟨hO2, .str (Str.ofString "name") kO2, .str (Str.ofString "") uO2⟩] 3) ∈ news)
    (ret : ∀ h' tk' t', Fr h₀ L h' m → News h₀ L h' news → Q (.int (low eO z2) t') ⟨h', stG, stD, tk', stO⟩) :
    wpAny (model PySem.Challenge.rw_nn0065_01.row.prog w) (ktrTop dp un gd cn cs L a ccd cl outer) (call (.ref 508) [.ref S, .ref O, .int z2 t2]) Q E ⟨stH, stG, stD, stT, stO⟩ := by
  k_dflt (refine' enter_def [(Str.ofString "self", .ref S), (Str.ofString "operand", .ref O), (Str.ofString "size", .int z2 t2)] ?k1 ?k2 ?k3 ?k4 ?k5 ?kA ?kF ?kK ?k6 ?k7 ?k8 ?k9 ?kB ?_ ?c2 ?c3 ?c4 ?c5; k_extra "en")
  k_steps
  exact ret _ _ _ (by k_asm) (by k_asm)
theorem c_sreadM {S R Xm Fl Me Sg : Addr} {rip : Int} {trip tbg : Tok} {dS : Addr} {hS0 hS1 hS2 hS3 hS4 hS5 hS6 hS7 hS8 : Int} {kS0 kS1 kS2 kS3 kS4 kS5 kS6 kS7 kS8 : Tok} {vsR : List Value} {ws : List Int} {nR : Nat} {H : Addr} {dMe : Addr} {hMe0 : Int} {kMe0 : Tok} {oH : Obj} {c : List (Int × Int)} {G : Addr} {wG : Str} {iG zG : Int} {uG0 uG1 uG2 uG3 : Tok} {dG : Addr} {hG0 hG1 hG2 hG3 : Int} {kG0 kG1 kG2 kG3 : Tok} {O : Addr} {scO eO szO : Int} {uO0 uO1 uO2 uO3 uO4 uO5 : Tok} {dO : Addr} {hO0 hO1 hO2 hO3 hO4 hO5 hO6 hO7 : Int} {kO0 kO1 kO2 kO3 kO4 kO5 kO6 kO7 : Tok} {z2 : Int} {t2 : Tok} (hdp : dp + 12 < recursionLimit) (h0 : 0 ≤ iG) (h1 : iG < ws.length) (h1b : ws.length ≤ 16) (z0 : 0 ≤ zG) (z1 : zG ≤ 128) (y0 : 0 ≤ z2) (y1 : z2 ≤ 64) (mSa : (S, instObj 546 dS) ∈ news) (mSb : (dS, dictOf [⟨hS0, .str (Str.ofString "iset") kS0, .none⟩, ⟨hS1, .str (Str.ofString "regs") kS1, .ref R⟩, ⟨hS2, .str (Str.ofString "xmm") kS2, .ref Xm⟩, ⟨hS3, .str (Str.ofString "flags") kS3, .ref Fl⟩, ⟨hS4, .str (Str.ofString "memory") kS4, .ref Me⟩, ⟨hS5, .str (Str.ofString "rip") kS5, .int rip trip⟩, ⟨hS6, .str (Str.ofString "begin") kS6, .int 0 tbg⟩, ⟨hS7, .str (Str.ofString "segments") kS7, .ref Sg⟩, ⟨hS8, .str (Str.ofString "is_halted") kS8, .bool false⟩] 9) ∈ news) (mR : (R, listOf vsR.toArray nR) ∈ news) (iR : IntsAre vsR ws) (mMea : (Me, instObj 429 dMe) ∈ news) (mMeb : (dMe, dictOf [⟨hMe0, .str (Str.ofString "held") kMe0, .ref H⟩] 1) ∈ news) (mH : (H, oH) ∈ news) (D : DI w H oH c) (mGa : (G, instObj 314 dG) ∈ news) (mGb : (dG, dictOf [⟨hG0, .str (Str.ofString "name") kG0, .str wG uG0⟩, ⟨hG1, .str (Str.ofString "kind") kG1, .str (Str.ofString "gpr") uG1⟩, ⟨hG2, .str (Str.ofString "number") kG2, .int iG uG2⟩, ⟨hG3, .str (Str.ofString "size") kG3, .int zG uG3⟩] 4) ∈ news) (mOa : (O, instObj 751 dO) ∈ news) (mOb : (dO, dictOf [⟨hO0, .str (Str.ofString "kind") kO0, .str (Str.ofString "mem") uO0⟩, ⟨hO1, .str (Str.ofString "base") kO1, .ref G⟩, ⟨hO2, .str (Str.ofString "index") kO2, .none⟩, ⟨hO3, .str (Str.ofString "scale") kO3, .int scO uO1⟩, ⟨hO4, .str (Str.ofString "worth") kO4, .int eO uO2⟩, ⟨hO5, .str (Str.ofString "size") kO5, .int szO uO3⟩, ⟨hO6, .str (Str.ofString "segment") kO6, .str (Str.ofString "") uO4⟩, ⟨hO7, .str (Str.ofString "name") kO7, .str (Str.ofString "") uO5⟩] 8) ∈ news)
    (ret : ∀ h' tk' t', Fr h₀ L h' m → News h₀ L h' news → Q (.int (rdM c (low (low (eO + low (ws.getD iG.toNat 0) zG) 64 + 0) 64) (z2.fdiv 8).toNat) t') ⟨h', stG, stD, tk', stO⟩) :
    wpAny (model PySem.Challenge.rw_nn0065_01.row.prog w) (ktrTop dp un gd cn cs L a ccd cl outer) (call (.ref 508) [.ref S, .ref O, .int z2 t2]) Q E ⟨stH, stG, stD, stT, stO⟩ := by
  k_dflt (refine' enter_def [(Str.ofString "self", .ref S), (Str.ofString "operand", .ref O), (Str.ofString "size", .int z2 t2)] ?k1 ?k2 ?k3 ?k4 ?k5 ?kA ?kF ?kK ?k6 ?k7 ?k8 ?k9 ?kB ?_ ?c2 ?c3 ?c4 ?c5; k_extra "en")
  have hfd := fdiv8 z2
  k_steps
  exact ret _ _ _ (by k_asm) (by k_asm)
end
section
variable {w : World} {dp un : Nat} {gd : Option (List Code)} {cn : Str} {cs : Scope} {a : Addr} {ccd : Value} {cl : List (Str × Addr)} {outer : List Env} {A₀ : Around} {base h₀ : Heap} {L : Addr} {m : Str → Option Value} {stH : Heap} {stG : Array GenState} {stD : Drawn} {stT : Nat} {stO : OsState} {Q E : Value → Shared → Prop} {p : Program} {loose : List Str} {mean : ExcName → Option Value} {mg mb : Str → Option Value} {news : List (Addr × Obj)}
    (B : Below A₀ base outer h₀) (F : Fr h₀ L stH m) (X : (hd.heap_39 w.params).In h₀) (T : Top p loose mean mg mb h₀) (hk : cs.kind = .function) (N : News h₀ L stH news)
include B F X T hk N
theorem c_swriteR {S R Xm Fl Me Sg : Addr} {rip : Int} {trip tbg : Tok} {dS : Addr} {hS0 hS1 hS2 hS3 hS4 hS5 hS6 hS7 hS8 : Int} {kS0 kS1 kS2 kS3 kS4 kS5 kS6 kS7 kS8 : Tok} {vsR : List Value} {ws : List Int} {nR : Nat} {G : Addr} {wG : Str} {iG zG : Int} {uG0 uG1 uG2 uG3 : Tok} {dG : Addr} {hG0 hG1 hG2 hG3 : Int} {kG0 kG1 kG2 kG3 : Tok} {O : Addr} {uO0 : Tok} {dO : Addr} {hO0 hO1 : Int} {kO0 kO1 : Tok} {v z2 : Int} {t t2 : Tok} {u : Obj → List (Addr × Obj)} (U : UpdF R (listOf vsR.toArray nR) news u) (hdp : dp + 11 < recursionLimit) (h0 : 0 ≤ iG) (h1 : iG < ws.length) (h1b : ws.length ≤ 16) (z0 : 0 ≤ zG) (z1 : zG ≤ 128) (nmSa : (S, instObj 546 dS) ∈ news) (nmSb : (dS, dictOf [⟨hS0, .str (Str.ofString "iset") kS0, .none⟩, ⟨hS1, .str (Str.ofString "regs") kS1, .ref R⟩, ⟨hS2, .str (Str.ofString "xmm") kS2, .ref Xm⟩, ⟨hS3, .str (Str.ofString "flags") kS3, .ref Fl⟩, ⟨hS4, .str (Str.ofString "memory") kS4, .ref Me⟩, ⟨hS5, .str (Str.ofString "rip") kS5, .int rip trip⟩, ⟨hS6, .str (Str.ofString "begin") kS6, .int 0 tbg⟩, ⟨hS7, .str (Str.ofString "segments") kS7, .ref Sg⟩, ⟨hS8, .str (Str.ofString "is_halted") kS8, .bool false⟩] 9) ∈ news) (mSa : ∀ o, (S, instObj 546 dS) ∈ u o) (mSb : ∀ o, (dS, dictOf [⟨hS0, .str (Str.ofString "iset") kS0, .none⟩, ⟨hS1, .str (Str.ofString "regs") kS1, .ref R⟩, ⟨hS2, .str (Str.ofString "xmm") kS2, .ref Xm⟩, ⟨hS3, .str (Str.ofString "flags") kS3, .ref Fl⟩, ⟨hS4, .str (Str.ofString "memory") kS4, .ref Me⟩, ⟨hS5, .str (Str.ofString "rip") kS5, .int rip trip⟩, ⟨hS6, .str (Str.ofString "begin") kS6, .int 0 tbg⟩, ⟨hS7, .str (Str.ofString "segments") kS7, .ref Sg⟩, ⟨hS8, .str (Str.ofString "is_halted") kS8, .bool false⟩] 9) ∈ u o) (iR : IntsAre vsR ws) (nmGa : (G, instObj 314 dG) ∈ news) (nmGb : (dG, dictOf [⟨hG0, .str (Str.ofString "name") kG0, .str wG uG0⟩, ⟨hG1, .str (Str.ofString "kind") kG1, .str (Str.ofString "gpr") uG1⟩, ⟨hG2, .str (Str.ofString "number") kG2, .int iG uG2⟩, ⟨hG3, .str (Str.ofString "size") kG3, .int zG uG3⟩] 4) ∈ news) (mGa : ∀ o, (G, instObj 314 dG) ∈ u o) (mGb : ∀ o, (dG, dictOf [⟨hG0, .str (Str.ofString "name") kG0, .str wG uG0⟩, ⟨hG1, .str (Str.ofString "kind") kG1, .str (Str.ofString "gpr") uG1⟩, ⟨hG2, .str (Str.ofString "number") kG2, .int iG uG2⟩, ⟨hG3, .str (Str.ofString "size") kG3, .int zG uG3⟩] 4) ∈ u o) (nmOa : (O, instObj 623 dO) ∈ news) (nmOb : (dO, dictOf [⟨hO0, .str (Str.ofString "kind") kO0, .str (Str.ofString "reg") uO0⟩, ⟨hO1, .str (Str.ofString "register") kO1, .ref G⟩] 2) ∈ news) (mOa : ∀ o, (O, instObj 623 dO) ∈ u o) (mOb : ∀ o, (dO, dictOf [⟨hO0, .str (Str.ofString "kind") kO0, .str (Str.ofString "reg") uO0⟩, ⟨hO1, .str (Str.ofString "register") kO1, .ref G⟩] 2) ∈ u o)
    (ret : ∀ h' tk' vs', Fr h₀ L h' m → News h₀ L h' (u (listOf vs'.toArray nR)) → IntsAre vs' (ws.set iG.toNat (joinedZ (ws.getD iG.toNat 0) (low v zG) zG)) → Q .none ⟨h', stG, stD, tk', stO⟩) :
    wpAny (model PySem.Challenge.rw_nn0065_01.row.prog w) (ktrTop dp un gd cn cs L a ccd cl outer) (call (.ref 515) [.ref S, .ref O, .int z2 t2, .int v t]) Q E ⟨stH, stG, stD, stT, stO⟩ := by
  have mR := UpdF.mem U (listOf vsR.toArray nR); rw [UpdF.self U] at mR
  k_dflt (refine' enter_def [(Str.ofString "self", .ref S), (Str.ofString "operand", .ref O), (Str.ofString "size", .int z2 t2), (Str.ofString "worth", .int v t)] ?k1 ?k2 ?k3 ?k4 ?k5 ?kA ?kF ?kK ?k6 ?k7 ?k8 ?k9 ?kB ?_ ?c2 ?c3 ?c4 ?c5; k_extra "en")
  k_steps
  exact ret _ _ _ (by k_asm) (by k_asm) (by assumption)
end
section
variable {w : World} {dp un : Nat} {gd : Option (List Code)} {cn : Str} {cs : Scope} {a : Addr} {ccd : Value} {cl : List (Str × Addr)} {outer : List Env} {A₀ : Around} {base h₀ : Heap} {L : Addr} {m : Str → Option Value} {stH : Heap} {stG : Array GenState} {stD : Drawn} {stT : Nat} {stO : OsState} {Q E : Value → Shared → Prop} {p : Program} {loose : List Str} {mean : ExcName → Option Value} {mg mb : Str → Option Value} {news : List (Addr × Obj)}
    (B : Below A₀ base outer h₀) (F : Fr h₀ L stH m) (X : (hd.heap_39 w.params).In h₀) (T : Top p loose mean mg mb h₀) (hk : cs.kind = .function) (N : News h₀ L stH news)
include B F X T hk N
theorem c_swriteM {S R Xm Fl Me Sg : Addr} {rip : Int} {trip tbg : Tok} {dS : Addr} {hS0 hS1 hS2 hS3 hS4 hS5 hS6 hS7 hS8 : Int} {kS0 kS1 kS2 kS3 kS4 kS5 kS6 kS7 kS8 : Tok} {vsR : List Value} {ws : List Int} {nR : Nat} {H : Addr} {dMe : Addr} {hMe0 : Int} {kMe0 : Tok} {oH : Obj} {c : List (Int × Int)} {G : Addr} {wG : Str} {iG zG : Int} {uG0 uG1 uG2 uG3 : Tok} {dG : Addr} {hG0 hG1 hG2 hG3 : Int} {kG0 kG1 kG2 kG3 : Tok} {O : Addr} {scO eO szO : Int} {uO0 uO1 uO2 uO3 uO4 uO5 : Tok} {dO : Addr} {hO0 hO1 hO2 hO3 hO4 hO5 hO6 hO7 : Int} {kO0 kO1 kO2 kO3 kO4 kO5 kO6 kO7 : Tok} {v z2 : Int} {t t2 : Tok} {u : Obj → List (Addr × Obj)} (U : UpdF H oH news u) (hdp : dp + 12 < recursionLimit) (h0 : 0 ≤ iG) (h1 : iG < ws.length) (h1b : ws.length ≤ 16) (z0 : 0 ≤ zG) (z1 : zG ≤ 128) (y0 : 0 ≤ z2) (y1 : z2 ≤ 64) (hc : c.length ≤ 100000) (nmSa : (S, instObj 546 dS) ∈ news) (nmSb : (dS, dictOf [⟨hS0, .str (Str.ofString "iset") kS0, .none⟩, ⟨hS1, .str (Str.ofString "regs") kS1, .ref R⟩, ⟨hS2, .str (Str.ofString "xmm") kS2, .ref Xm⟩, ⟨hS3, .str (Str.ofString "flags") kS3, .ref Fl⟩, ⟨hS4, .str (Str.ofString "memory") kS4, .ref Me⟩, ⟨hS5, .str (Str.ofString "rip") kS5, .int rip trip⟩, ⟨hS6, .str (Str.ofString "begin") kS6, .int 0 tbg⟩, ⟨hS7, .str (Str.ofString "segments") kS7, .ref Sg⟩, ⟨hS8, .str (Str.ofString "is_halted") kS8, .bool false⟩] 9) ∈ news) (mSa : ∀ o, (S, instObj 546 dS) ∈ u o) (mSb : ∀ o, (dS, dictOf [⟨hS0, .str (Str.ofString "iset") kS0, .none⟩, ⟨hS1, .str (Str.ofString "regs") kS1, .ref R⟩, ⟨hS2, .str (Str.ofString "xmm") kS2, .ref Xm⟩, ⟨hS3, .str (Str.ofString "flags") kS3, .ref Fl⟩, ⟨hS4, .str (Str.ofString "memory") kS4, .ref Me⟩, ⟨hS5, .str (Str.ofString "rip") kS5, .int rip trip⟩, ⟨hS6, .str (Str.ofString "begin") kS6, .int 0 tbg⟩, ⟨hS7, .str (Str.ofString "segments") kS7, .ref Sg⟩, ⟨hS8, .str (Str.ofString "is_halted") kS8, .bool false⟩] 9) ∈ u o) (nmR : (R, listOf vsR.toArray nR) ∈ news) (mR : ∀ o, (R, listOf vsR.toArray nR) ∈ u o) (iR : IntsAre vsR ws) (nmMea : (Me, instObj 429 dMe) ∈ news) (nmMeb : (dMe, dictOf [⟨hMe0, .str (Str.ofString "held") kMe0, .ref H⟩] 1) ∈ news) (mMea : ∀ o, (Me, instObj 429 dMe) ∈ u o) (mMeb : ∀ o, (dMe, dictOf [⟨hMe0, .str (Str.ofString "held") kMe0, .ref H⟩] 1) ∈ u o) (D : DI w H oH c) (nmGa : (G, instObj 314 dG) ∈ news) (nmGb : (dG, dictOf [⟨hG0, .str (Str.ofString "name") kG0, .str wG uG0⟩, ⟨hG1, .str (Str.ofString "kind") kG1, .str (Str.ofString "gpr") uG1⟩, ⟨hG2, .str (Str.ofString "number") kG2, .int iG uG2⟩, ⟨hG3, .str (Str.ofString "size") kG3, .int zG uG3⟩] 4) ∈ news) (mGa : ∀ o, (G, instObj 314 dG) ∈ u o) (mGb : ∀ o, (dG, dictOf [⟨hG0, .str (Str.ofString "name") kG0, .str wG uG0⟩, ⟨hG1, .str (Str.ofString "kind") kG1, .str (Str.ofString "gpr") uG1⟩, ⟨hG2, .str (Str.ofString "number") kG2, .int iG uG2⟩, ⟨hG3, .str (Str.ofString "size") kG3, .int zG uG3⟩] 4) ∈ u o) (nmOa : (O, instObj 751 dO) ∈ news) (nmOb : (dO, dictOf [⟨hO0, .str (Str.ofString "kind") kO0, .str (Str.ofString "mem") uO0⟩, ⟨hO1, .str (Str.ofString "base") kO1, .ref G⟩, ⟨hO2, .str (Str.ofString "index") kO2, .none⟩, ⟨hO3, .str (Str.ofString "scale") kO3, .int scO uO1⟩, ⟨hO4, .str (Str.ofString "worth") kO4, .int eO uO2⟩, ⟨hO5, .str (Str.ofString "size") kO5, .int szO uO3⟩, ⟨hO6, .str (Str.ofString "segment") kO6, .str (Str.ofString "") uO4⟩, ⟨hO7, .str (Str.ofString "name") kO7, .str (Str.ofString "") uO5⟩] 8) ∈ news) (mOa : ∀ o, (O, instObj 751 dO) ∈ u o) (mOb : ∀ o, (dO, dictOf [⟨hO0, .str (Str.ofString "kind") kO0, .str (Str.ofString "mem") uO0⟩, ⟨hO1, .str (Str.ofString "base") kO1, .ref G⟩, ⟨hO2, .str (Str.ofString "index") kO2, .none⟩, ⟨hO3, .str (Str.ofString "scale") kO3, .int scO uO1⟩, ⟨hO4, .str (Str.ofString "worth") kO4, .int eO uO2⟩, ⟨hO5, .str (Str.ofString "size") kO5, .int szO uO3⟩, ⟨hO6, .str (Str.ofString "segment") kO6, .str (Str.ofString "") uO4⟩, ⟨hO7, .str (Str.ofString "name") kO7, .str (Str.ofString "") uO5⟩] 8) ∈ u o)
    (ret : ∀ h' tk' o', Fr h₀ L h' m → News h₀ L h' (u o') → DI w H o' (wrM c (low (low (eO + low (ws.getD iG.toNat 0) zG) 64 + 0) 64) v (z2.fdiv 8).toNat) → Q .none ⟨h', stG, stD, tk', stO⟩) :
    wpAny (model PySem.Challenge.rw_nn0065_01.row.prog w) (ktrTop dp un gd cn cs L a ccd cl outer) (call (.ref 515) [.ref S, .ref O, .int z2 t2, .int v t]) Q E ⟨stH, stG, stD, stT, stO⟩ := by
  k_dflt (refine' enter_def [(Str.ofString "self", .ref S), (Str.ofString "operand", .ref O), (Str.ofString "size", .int z2 t2), (Str.ofString "worth", .int v t)] ?k1 ?k2 ?k3 ?k4 ?k5 ?kA ?kF ?kK ?k6 ?k7 ?k8 ?k9 ?kB ?_ ?c2 ?c3 ?c4 ?c5; k_extra "en")
  have hfd := fdiv8 z2
  k_steps
  exact ret _ _ _ (by k_asm) (by k_asm) (by assumption)
end
section
variable {w : World} {dp un : Nat} {gd : Option (List Code)} {cn : Str} {cs : Scope} {a : Addr} {ccd : Value} {cl : List (Str × Addr)} {outer : List Env} {A₀ : Around} {base h₀ : Heap} {L : Addr} {m : Str → Option Value} {stH : Heap} {stG : Array GenState} {stD : Drawn} {stT : Nat} {stO : OsState} {Q E : Value → Shared → Prop} {p : Program} {loose : List Str} {mean : ExcName → Option Value} {mg mb : Str → Option Value} {news : List (Addr × Obj)}
    (B : Below A₀ base outer h₀) (F : Fr h₀ L stH m) (X : (hd.heap_39 w.params).In h₀) (T : Top p loose mean mg mb h₀) (hk : cs.kind = .function) (N : News h₀ L stH news)
include B F X T hk N
theorem c_pop {S R Xm Fl Me Sg : Addr} {rip : Int} {trip tbg : Tok} {dS : Addr} {hS0 hS1 hS2 hS3 hS4 hS5 hS6 hS7 hS8 : Int} {kS0 kS1 kS2 kS3 kS4 kS5 kS6 kS7 kS8 : Tok} {vsR : List Value} {ws : List Int} {nR : Nat} {H : Addr} {dMe : Addr} {hMe0 : Int} {kMe0 : Tok} {oH : Obj} {c : List (Int × Int)} {wd : Int} {t2 : Tok} {u : Obj → List (Addr × Obj)} (U : UpdF R (listOf vsR.toArray nR) news u) (hdp : dp + 10 < recursionLimit) (h1 : ws.length = 16) (y0 : 0 ≤ wd) (y1 : wd ≤ 8) (nmSa : (S, instObj 546 dS) ∈ news) (nmSb : (dS, dictOf [⟨hS0, .str (Str.ofString "iset") kS0, .none⟩, ⟨hS1, .str (Str.ofString "regs") kS1, .ref R⟩, ⟨hS2, .str (Str.ofString "xmm") kS2, .ref Xm⟩, ⟨hS3, .str (Str.ofString "flags") kS3, .ref Fl⟩, ⟨hS4, .str (Str.ofString "memory") kS4, .ref Me⟩, ⟨hS5, .str (Str.ofString "rip") kS5, .int rip trip⟩, ⟨hS6, .str (Str.ofString "begin") kS6, .int 0 tbg⟩, ⟨hS7, .str (Str.ofString "segments") kS7, .ref Sg⟩, ⟨hS8, .str (Str.ofString "is_halted") kS8, .bool false⟩] 9) ∈ news) (mSa : ∀ o, (S, instObj 546 dS) ∈ u o) (mSb : ∀ o, (dS, dictOf [⟨hS0, .str (Str.ofString "iset") kS0, .none⟩, ⟨hS1, .str (Str.ofString "regs") kS1, .ref R⟩, ⟨hS2, .str (Str.ofString "xmm") kS2, .ref Xm⟩, ⟨hS3, .str (Str.ofString "flags") kS3, .ref Fl⟩, ⟨hS4, .str (Str.ofString "memory") kS4, .ref Me⟩, ⟨hS5, .str (Str.ofString "rip") kS5, .int rip trip⟩, ⟨hS6, .str (Str.ofString "begin") kS6, .int 0 tbg⟩, ⟨hS7, .str (Str.ofString "segments") kS7, .ref Sg⟩, ⟨hS8, .str (Str.ofString "is_halted") kS8, .bool false⟩] 9) ∈ u o) (iR : IntsAre vsR ws) (nmMea : (Me, instObj 429 dMe) ∈ news) (nmMeb : (dMe, dictOf [⟨hMe0, .str (Str.ofString "held") kMe0, .ref H⟩] 1) ∈ news) (mMea : ∀ o, (Me, instObj 429 dMe) ∈ u o) (mMeb : ∀ o, (dMe, dictOf [⟨hMe0, .str (Str.ofString "held") kMe0, .ref H⟩] 1) ∈ u o) (nmH : (H, oH) ∈ news) (mH : ∀ o, (H, oH) ∈ u o) (D : DI w H oH c)
    (ret : ∀ h' tk' vs' t', Fr h₀ L h' m → News h₀ L h' (u (listOf vs'.toArray nR)) → IntsAre vs' (ws.set 4 (low (ws.getD 4 0 + wd) 64)) → Q (.int (rdM c (ws.getD 4 0) wd.toNat) t') ⟨h', stG, stD, tk', stO⟩) :
    wpAny (model PySem.Challenge.rw_nn0065_01.row.prog w) (ktrTop dp un gd cn cs L a ccd cl outer) (call (.ref 529) [.ref S, .int wd t2]) Q E ⟨stH, stG, stD, stT, stO⟩ := by
  have mR := UpdF.mem U (listOf vsR.toArray nR); rw [UpdF.self U] at mR
  k_dflt (refine' enter_def [(Str.ofString "self", .ref S), (Str.ofString "width", .int wd t2)] ?k1 ?k2 ?k3 ?k4 ?k5 ?kA ?kF ?kK ?k6 ?k7 ?k8 ?k9 ?kB ?_ ?c2 ?c3 ?c4 ?c5; k_extra "en")
  k_steps
  exact ret _ _ _ _ (by k_asm) (by k_asm) (by assumption)
end
theorem getD_set {ws : List Int} {k : Nat} {x d : Int} (h : k < ws.length) : (ws.set k x).getD k d = x := by simp [List.getD, h]
theorem upd_open2 {R H : Addr} {oR oH : Obj} {news : List (Addr × Obj)} {u1 : Obj → List (Addr × Obj)} {u : Obj → Obj → List (Addr × Obj)} (U1 : UpdF R oR news u1) (U : ∀ o, UpdF H oH (u1 o) (u o)) :
    ∃ rest, @Ne Nat R H ∧ (∀ p ∈ rest, p.1 ≠ R) ∧ (∀ p ∈ rest, p.1 ≠ H) ∧ (∀ o o2 p, p ∈ u o o2 ↔ p ∈ (R, o) :: (H, o2) :: rest) ∧ (∀ p, p ∈ news ↔ p ∈ (R, oR) :: (H, oH) :: rest) := by
  obtain ⟨r1, n1, e1, f1⟩ := upd_open U1
  have hmH : ∀ o, (H, oH) ∈ (R, o) :: r1 := fun o => (e1 o _).mp (by rw [← UpdF.self (U o)]; exact UpdF.mem (U o) oH)
  obtain ⟨r2, n2, e2, f2⟩ := upd_open (U oR)
  have hne : R ≠ H := by
    intro e
    have h1 := UpdF.mem U1 oR
    rcases List.mem_cons.mp ((f2 _).mp h1) with h2 | h2
    · have h3 := hmH (dictOf [] 0)
      have h4 := hmH (dictOf [] 1)
      rcases List.mem_cons.mp h3 with h5 | h5
      · rcases List.mem_cons.mp h4 with h6 | h6
        · injection h5 with _ h7
          injection h6 with _ h8
          rw [h7] at h8
          injection h8 with _ _ h9
          injection h9 with _ h10
          cases h10
        · exact n1 _ h6 e.symm
      · exact n1 _ h5 e.symm
    · exact n2 _ h2 e
  have hmR : (H, oH) ∈ r1 := by
    rcases List.mem_cons.mp (hmH oR) with h | h
    · injection h with h _; exact absurd h.symm hne
    · exact h
  refine ⟨r1.filter fun p => decide (p.1 ≠ H), hne, fun p hp => n1 p (List.mem_filter.mp hp).1, fun p hp => by simpa using (List.mem_filter.mp hp).2, ?_, ?_⟩
  · intro o o2 p
    obtain ⟨r3, n3, e3, f3⟩ := upd_open (U o)
    constructor
    · intro hp
      rcases List.mem_cons.mp ((e3 o2 p).mp hp) with h | h
      · exact .tail _ (h ▸ .head _)
      · have hpn := n3 p h
        rcases List.mem_cons.mp ((e1 o p).mp ((f3 p).mpr (.tail _ h))) with h4 | h4
        · exact h4 ▸ .head _
        · exact .tail _ (.tail _ (List.mem_filter.mpr ⟨h4, by simpa using hpn⟩))
    · intro hp
      rcases List.mem_cons.mp hp with h | hp
      · have h4 : p ∈ u1 o := h ▸ UpdF.mem U1 o
        rcases List.mem_cons.mp ((f3 p).mp h4) with h5 | h5
        · exfalso
          rw [h] at h5
          injection h5 with h6 _
          exact hne h6
        · exact (e3 o2 p).mpr (.tail _ h5)
      · rcases List.mem_cons.mp hp with h | hp
        · exact h ▸ UpdF.mem (U o) o2
        · obtain ⟨h4, h5⟩ := List.mem_filter.mp hp
          have h5' : p.1 ≠ H := by simpa using h5
          rcases List.mem_cons.mp ((f3 p).mp ((e1 o p).mpr (.tail _ h4))) with h6 | h6
          · exact absurd (by rw [h6]) h5'
          · exact (e3 o2 p).mpr (.tail _ h6)
  · intro p
    rw [f1]
    constructor
    · intro hp
      rcases List.mem_cons.mp hp with h | hp
      · exact h ▸ .head _
      · by_cases h5 : p.1 = H
        · have h6 : p ∈ (H, oH) :: r2 := (f2 p).mp ((e1 oR p).mpr (.tail _ hp))
          rcases List.mem_cons.mp h6 with h7 | h7
          · exact h7 ▸ .tail _ (.head _)
          · exact absurd h5 (n2 p h7)
        · exact .tail _ (.tail _ (List.mem_filter.mpr ⟨hp, by simpa using h5⟩))
    · intro hp
      rcases List.mem_cons.mp hp with h | hp
      · exact h ▸ .head _
      · rcases List.mem_cons.mp hp with h | hp
        · exact h ▸ .tail _ hmR
        · exact .tail _ (List.mem_filter.mp hp).1
theorem upd_rest2 {R H x : Addr} {ox : Obj} {rest : List (Addr × Obj)} {u : Obj → Obj → List (Addr × Obj)} (e : ∀ o o2 p, p ∈ u o o2 ↔ p ∈ (R, o) :: (H, o2) :: rest) (hm : ∀ o o2, (x, ox) ∈ u o o2) : (x, ox) ∈ rest := by
  have key : ∀ k : Nat, (∃ j, k = j) → ((x, ox) ∈ rest) ∨ ox = dictOf [] k := fun k _ => by
    rcases List.mem_cons.mp ((e _ _ _).mp (hm (dictOf [] k) (dictOf [] k))) with h | h
    · injection h with _ h; exact .inr h
    · rcases List.mem_cons.mp h with h | h
      · injection h with _ h; exact .inr h
      · exact .inl h
  rcases key 0 ⟨_, rfl⟩ with h | h
  · exact h
  · rcases key 1 ⟨_, rfl⟩ with h' | h'
    · exact h'
    · rw [h] at h'
      injection h' with _ _ h9
      injection h9 with _ h10
      cases h10
section
variable {w : World} {dp un : Nat} {gd : Option (List Code)} {cn : Str} {cs : Scope} {a : Addr} {ccd : Value} {cl : List (Str × Addr)} {outer : List Env} {A₀ : Around} {base h₀ : Heap} {L : Addr} {m : Str → Option Value} {stH : Heap} {stG : Array GenState} {stD : Drawn} {stT : Nat} {stO : OsState} {Q E : Value → Shared → Prop} {p : Program} {loose : List Str} {mean : ExcName → Option Value} {mg mb : Str → Option Value} {news : List (Addr × Obj)}
    (B : Below A₀ base outer h₀) (F : Fr h₀ L stH m) (X : (hd.heap_39 w.params).In h₀) (T : Top p loose mean mg mb h₀) (hk : cs.kind = .function) (N : News h₀ L stH news)
include B F X T hk N
theorem c_push {S R Xm Fl Me Sg : Addr} {rip : Int} {trip tbg : Tok} {dS : Addr} {hS0 hS1 hS2 hS3 hS4 hS5 hS6 hS7 hS8 : Int} {kS0 kS1 kS2 kS3 kS4 kS5 kS6 kS7 kS8 : Tok} {vsR : List Value} {ws : List Int} {nR : Nat} {H : Addr} {dMe : Addr} {hMe0 : Int} {kMe0 : Tok} {oH : Obj} {c : List (Int × Int)} {v wd : Int} {t t2 : Tok} {u1 : Obj → List (Addr × Obj)} {u : Obj → Obj → List (Addr × Obj)} (U1 : UpdF R (listOf vsR.toArray nR) news u1) (U : ∀ o, UpdF H oH (u1 o) (u o)) (hdp : dp + 10 < recursionLimit) (h1 : ws.length = 16) (y0 : 0 ≤ wd) (y1 : wd ≤ 8) (hc : c.length ≤ 100000) (nmSa : (S, instObj 546 dS) ∈ news) (nmSb : (dS, dictOf [⟨hS0, .str (Str.ofString "iset") kS0, .none⟩, ⟨hS1, .str (Str.ofString "regs") kS1, .ref R⟩, ⟨hS2, .str (Str.ofString "xmm") kS2, .ref Xm⟩, ⟨hS3, .str (Str.ofString "flags") kS3, .ref Fl⟩, ⟨hS4, .str (Str.ofString "memory") kS4, .ref Me⟩, ⟨hS5, .str (Str.ofString "rip") kS5, .int rip trip⟩, ⟨hS6, .str (Str.ofString "begin") kS6, .int 0 tbg⟩, ⟨hS7, .str (Str.ofString "segments") kS7, .ref Sg⟩, ⟨hS8, .str (Str.ofString "is_halted") kS8, .bool false⟩] 9) ∈ news) (mSa : ∀ o o2, (S, instObj 546 dS) ∈ u o o2) (mSb : ∀ o o2, (dS, dictOf [⟨hS0, .str (Str.ofString "iset") kS0, .none⟩, ⟨hS1, .str (Str.ofString "regs") kS1, .ref R⟩, ⟨hS2, .str (Str.ofString "xmm") kS2, .ref Xm⟩, ⟨hS3, .str (Str.ofString "flags") kS3, .ref Fl⟩, ⟨hS4, .str (Str.ofString "memory") kS4, .ref Me⟩, ⟨hS5, .str (Str.ofString "rip") kS5, .int rip trip⟩, ⟨hS6, .str (Str.ofString "begin") kS6, .int 0 tbg⟩, ⟨hS7, .str (Str.ofString "segments") kS7, .ref Sg⟩, ⟨hS8, .str (Str.ofString "is_halted") kS8, .bool false⟩] 9) ∈ u o o2) (iR : IntsAre vsR ws) (nmMea : (Me, instObj 429 dMe) ∈ news) (nmMeb : (dMe, dictOf [⟨hMe0, .str (Str.ofString "held") kMe0, .ref H⟩] 1) ∈ news) (mMea : ∀ o o2, (Me, instObj 429 dMe) ∈ u o o2) (mMeb : ∀ o o2, (dMe, dictOf [⟨hMe0, .str (Str.ofString "held") kMe0, .ref H⟩] 1) ∈ u o o2) (D : DI w H oH c)
    (ret : ∀ h' tk' vs' o', Fr h₀ L h' m → News h₀ L h' (u (listOf vs'.toArray nR) o') → IntsAre vs' (ws.set 4 (low (ws.getD 4 0 - wd) 64)) → DI w H o' (wrM c (low (ws.getD 4 0 - wd) 64) v wd.toNat) → Q .none ⟨h', stG, stD, tk', stO⟩) :
    wpAny (model PySem.Challenge.rw_nn0065_01.row.prog w) (ktrTop dp un gd cn cs L a ccd cl outer) (call (.ref 522) [.ref S, .int v t, .int wd t2]) Q E ⟨stH, stG, stD, stT, stO⟩ := by
  obtain ⟨rest, hRH, hoR, hoH, hu, hn⟩ := upd_open2 U1 U
  replace mSa := upd_rest2 hu mSa
  replace mSb := upd_rest2 hu mSb
  replace mMea := upd_rest2 hu mMea
  replace mMeb := upd_rest2 hu mMeb
  replace N := news_of N (fun p hp => (hn p).mpr hp)
  clear U1 U hn
  k_dflt (refine' enter_def [(Str.ofString "self", .ref S), (Str.ofString "worth", .int v t), (Str.ofString "width", .int wd t2)] ?k1 ?k2 ?k3 ?k4 ?k5 ?kA ?kF ?kK ?k6 ?k7 ?k8 ?k9 ?kB ?_ ?c2 ?c3 ?c4 ?c5; k_extra "en")
  k_steps
  (rename DI _ _ _ (wrM _ _ _ _) => D9)
  rw [getD_set (by rw [h1]; decide)] at D9
  exact ret _ _ _ _ (by k_asm) (news_of (by k_asm) fun p hp => (hu _ _ p).mp hp) (by assumption) D9
end
example : True := by
  k_with "binaryOp LShift int int" => ((k_here; (with_reducible refine lshift_int_small ?kb1 ?kb2 ?kb3 ?_); (case kb1 => first | with_reducible assumption | decide | omega); (case kb2 => first | with_reducible assumption | decide | omega); (case kb3 => first | with_reducible assumption | decide | omega)))
  k_with "call ref" => ((k_here; (with_reducible show wpAny _ _ (PySem.call (Value.ref 122) _ _) _ _ _); k_dflt (refine' Mine.c_told ?B ?F ?X ?T ?k ?N ?d ?mFla ?mFlb ?_; (case B => k_asm); (case F => k_asm); (case X => k_asm); (case T => k_asm); (case k => first | exact rfl | assumption); (case N => k_asm); (case mFla => k_mem); (case mFlb => k_mem); (case d => ktr_room)); intro q' h' tk' F' N' l1; (try dsimp only at N'); (try k_lt l1); (try k_sweep)))
  k_with "call ref" => ((k_here; (with_reducible show wpAny _ _ (PySem.call (Value.ref 129) _ _) _ _ _); k_dflt (refine' Mine.c_pack ?B ?F ?X ?T ?k ?N ?d ?hb ?mFla ?mFlb ?_; (case B => k_asm); (case F => k_asm); (case X => k_asm); (case T => k_asm); (case k => first | exact rfl | assumption); (case N => k_asm); (case mFla => k_mem); (case mFlb => k_mem); (case hb => first | with_reducible assumption | (constructor <;> with_reducible assumption)); (case d => ktr_room)); intro h' tk' t' F' N'; (try dsimp only at N'); (try k_sweep)))
  k_with "call ref" => ((k_here; (with_reducible show wpAny _ _ (PySem.call (Value.ref 136) _ _) _ _ _); k_dflt (refine' Mine.c_unpack ?B ?F ?X ?T ?k ?N ?d ?a ?U ?m ?_; (case B => k_asm); (case F => k_asm); (case X => k_asm); (case T => k_asm); (case k => first | exact rfl | assumption); (case N => k_asm); (case a => k_mem); (case U => k_updF); (case m => first | with_reducible assumption | (intros; k_mem)); (case d => ktr_room)); intro h' tk' t0' t1' t2' t3' t4' t5' t6' F' N'; (try dsimp only at N'); (try k_sweep)))
  trivial
noncomputable def packB (b0 b1 b2 b3 b4 b5 b6 : Int) : Int := 2 + b0 + b1 * 4 + b2 * 16 + b3 * 64 + b4 * 128 + b5 * 2048 + b6 * 1024
theorem exz {b : Int} (h0 : 0 ≤ b) (h1 : b ≤ 1) : ∃ x : Bool, b = cond x 1 0 := by
  rcases (show b = 0 ∨ b = 1 by omega) with h | h
  · exact ⟨false, h⟩
  · exact ⟨true, h⟩
theorem pack_eqB : ∀ x0 x1 x2 x3 x4 x5 x6 : Bool, Builtin.bitOr (Builtin.bitOr (Builtin.bitOr (Builtin.bitOr (Builtin.bitOr (Builtin.bitOr (Builtin.bitOr 2 ((cond x0 1 0) * 2 ^ Int.toNat 0)) ((cond x1 1 0) * 2 ^ Int.toNat 2)) ((cond x2 1 0) * 2 ^ Int.toNat 4)) ((cond x3 1 0) * 2 ^ Int.toNat 6)) ((cond x4 1 0) * 2 ^ Int.toNat 7)) ((cond x6 1 0) * 2 ^ Int.toNat 10)) ((cond x5 1 0) * 2 ^ Int.toNat 11) = packB (cond x0 1 0) (cond x1 1 0) (cond x2 1 0) (cond x3 1 0) (cond x4 1 0) (cond x5 1 0) (cond x6 1 0) := by decide +kernel
theorem pack_eq {b0 b1 b2 b3 b4 b5 b6 : Int} (e0 : 0 ≤ b0) (f0 : b0 ≤ 1) (e1 : 0 ≤ b1) (f1 : b1 ≤ 1) (e2 : 0 ≤ b2) (f2 : b2 ≤ 1) (e3 : 0 ≤ b3) (f3 : b3 ≤ 1) (e4 : 0 ≤ b4) (f4 : b4 ≤ 1) (e5 : 0 ≤ b5) (f5 : b5 ≤ 1) (e6 : 0 ≤ b6) (f6 : b6 ≤ 1) :
    Builtin.bitOr (Builtin.bitOr (Builtin.bitOr (Builtin.bitOr (Builtin.bitOr (Builtin.bitOr (Builtin.bitOr 2 (b0 * 2 ^ Int.toNat 0)) (b1 * 2 ^ Int.toNat 2)) (b2 * 2 ^ Int.toNat 4)) (b3 * 2 ^ Int.toNat 6)) (b4 * 2 ^ Int.toNat 7)) (b6 * 2 ^ Int.toNat 10)) (b5 * 2 ^ Int.toNat 11) = packB b0 b1 b2 b3 b4 b5 b6 := by
  obtain ⟨x0, rfl⟩ := exz e0 f0
  obtain ⟨x1, rfl⟩ := exz e1 f1
  obtain ⟨x2, rfl⟩ := exz e2 f2
  obtain ⟨x3, rfl⟩ := exz e3 f3
  obtain ⟨x4, rfl⟩ := exz e4 f4
  obtain ⟨x5, rfl⟩ := exz e5 f5
  obtain ⟨x6, rfl⟩ := exz e6 f6
  exact pack_eqB x0 x1 x2 x3 x4 x5 x6
theorem abs1 {b : Int} (h0 : 0 ≤ b) (h1 : b ≤ 1) : b.natAbs < 2 ^ 64 := by omega
structure BitsOK (b0 b1 b2 b3 b4 b5 b6 : Int) : Prop where
  e0 : 0 ≤ b0
  f0 : b0 ≤ 1
  e1 : 0 ≤ b1
  f1 : b1 ≤ 1
  e2 : 0 ≤ b2
  f2 : b2 ≤ 1
  e3 : 0 ≤ b3
  f3 : b3 ≤ 1
  e4 : 0 ≤ b4
  f4 : b4 ≤ 1
  e5 : 0 ≤ b5
  f5 : b5 ≤ 1
  e6 : 0 ≤ b6
  f6 : b6 ≤ 1
noncomputable def bitZ (v : Int) (n : Nat) : Int := v / 2 ^ n % 2
theorem bitZ_range (v : Int) (n : Nat) : 0 ≤ bitZ v n ∧ bitZ v n ≤ 1 := by unfold bitZ; omega
section
variable {w : World} {dp un : Nat} {gd : Option (List Code)} {cn : Str} {cs : Scope} {a : Addr} {ccd : Value} {cl : List (Str × Addr)} {outer : List Env} {A₀ : Around} {base h₀ : Heap} {L : Addr} {m : Str → Option Value} {stH : Heap} {stG : Array GenState} {stD : Drawn} {stT : Nat} {stO : OsState} {Q E : Value → Shared → Prop} {p : Program} {loose : List Str} {mean : ExcName → Option Value} {mg mb : Str → Option Value} {news : List (Addr × Obj)}
    (B : Below A₀ base outer h₀) (F : Fr h₀ L stH m) (X : (hd.heap_39 w.params).In h₀) (T : Top p loose mean mg mb h₀) (hk : cs.kind = .function) (N : News h₀ L stH news)
include B F X T hk N
theorem c_told {b0 b1 b2 b3 b4 b5 b6 : Int} {tf0 tf1 tf2 tf3 tf4 tf5 tf6 : Tok} {dFl : Addr} {hFl0 hFl1 hFl2 hFl3 hFl4 hFl5 hFl6 : Int} {kFl0 kFl1 kFl2 kFl3 kFl4 kFl5 kFl6 : Tok} (hdp : dp + 3 < recursionLimit) (mFla : (Fl, instObj 174 dFl) ∈ news) (mFlb : (dFl, dictOf [⟨hFl0, .str (Str.ofString "cf") kFl0, .int b0 tf0⟩, ⟨hFl1, .str (Str.ofString "pf") kFl1, .int b1 tf1⟩, ⟨hFl2, .str (Str.ofString "af") kFl2, .int b2 tf2⟩, ⟨hFl3, .str (Str.ofString "zf") kFl3, .int b3 tf3⟩, ⟨hFl4, .str (Str.ofString "sf") kFl4, .int b4 tf4⟩, ⟨hFl5, .str (Str.ofString "of") kFl5, .int b5 tf5⟩, ⟨hFl6, .str (Str.ofString "df") kFl6, .int b6 tf6⟩] 7) ∈ news)
    (ret : ∀ q h' tk', Fr h₀ L h' m → News h₀ L h' ((q, { cls := .type "tuple", data := .seq (List.toArray [.int b0 tf0, .int b1 tf1, .int b2 tf2, .int b3 tf3, .int b4 tf4, .int b5 tf5, .int b6 tf6]) 0 }) :: news) → (∀ p ∈ news, p.1 < q) → Q (.ref q) ⟨h', stG, stD, tk', stO⟩) :
    wpAny (model PySem.Challenge.rw_nn0065_01.row.prog w) (ktrTop dp un gd cn cs L a ccd cl outer) (call (.ref 122) [.ref Fl]) Q E ⟨stH, stG, stD, stT, stO⟩ := by
  k_dflt (refine' enter_def [(Str.ofString "self", .ref Fl)] ?k1 ?k2 ?k3 ?k4 ?k5 ?kA ?kF ?kK ?k6 ?k7 ?k8 ?k9 ?kB ?_ ?c2 ?c3 ?c4 ?c5; k_extra "en")
  k_steps
  exact ret _ _ _ (by k_asm) (by k_asm) (by assumption)
theorem c_pack {b0 b1 b2 b3 b4 b5 b6 : Int} {tf0 tf1 tf2 tf3 tf4 tf5 tf6 : Tok} {dFl : Addr} {hFl0 hFl1 hFl2 hFl3 hFl4 hFl5 hFl6 : Int} {kFl0 kFl1 kFl2 kFl3 kFl4 kFl5 kFl6 : Tok} (hdp : dp + 3 < recursionLimit) (hb : BitsOK b0 b1 b2 b3 b4 b5 b6) (mFla : (Fl, instObj 174 dFl) ∈ news) (mFlb : (dFl, dictOf [⟨hFl0, .str (Str.ofString "cf") kFl0, .int b0 tf0⟩, ⟨hFl1, .str (Str.ofString "pf") kFl1, .int b1 tf1⟩, ⟨hFl2, .str (Str.ofString "af") kFl2, .int b2 tf2⟩, ⟨hFl3, .str (Str.ofString "zf") kFl3, .int b3 tf3⟩, ⟨hFl4, .str (Str.ofString "sf") kFl4, .int b4 tf4⟩, ⟨hFl5, .str (Str.ofString "of") kFl5, .int b5 tf5⟩, ⟨hFl6, .str (Str.ofString "df") kFl6, .int b6 tf6⟩] 7) ∈ news)
    (ret : ∀ h' tk' t', Fr h₀ L h' m → News h₀ L h' news → Q (.int (packB b0 b1 b2 b3 b4 b5 b6) t') ⟨h', stG, stD, tk', stO⟩) :
    wpAny (model PySem.Challenge.rw_nn0065_01.row.prog w) (ktrTop dp un gd cn cs L a ccd cl outer) (call (.ref 129) [.ref Fl]) Q E ⟨stH, stG, stD, stT, stO⟩ := by
  k_dflt (refine' enter_def [(Str.ofString "self", .ref Fl)] ?k1 ?k2 ?k3 ?k4 ?k5 ?kA ?kF ?kK ?k6 ?k7 ?k8 ?k9 ?kB ?_ ?c2 ?c3 ?c4 ?c5; k_extra "en")
  have hpk := pack_eq hb.e0 hb.f0 hb.e1 hb.f1 hb.e2 hb.f2 hb.e3 hb.f3 hb.e4 hb.f4 hb.e5 hb.f5 hb.e6 hb.f6
  have n0 := abs1 hb.e0 hb.f0
  have n1 := abs1 hb.e1 hb.f1
  have n2 := abs1 hb.e2 hb.f2
  have n3 := abs1 hb.e3 hb.f3
  have n4 := abs1 hb.e4 hb.f4
  have n5 := abs1 hb.e5 hb.f5
  have n6 := abs1 hb.e6 hb.f6
  k_steps
  rw [hpk]
  exact ret _ _ _ (by k_asm) (by k_asm)
end
section
variable {w : World} {dp un : Nat} {gd : Option (List Code)} {cn : Str} {cs : Scope} {a : Addr} {ccd : Value} {cl : List (Str × Addr)} {outer : List Env} {A₀ : Around} {base h₀ : Heap} {L : Addr} {m : Str → Option Value} {stH : Heap} {stG : Array GenState} {stD : Drawn} {stT : Nat} {stO : OsState} {Q E : Value → Shared → Prop} {p : Program} {loose : List Str} {mean : ExcName → Option Value} {mg mb : Str → Option Value} {news : List (Addr × Obj)}
    (B : Below A₀ base outer h₀) (F : Fr h₀ L stH m) (X : (hd.heap_39 w.params).In h₀) (T : Top p loose mean mg mb h₀) (hk : cs.kind = .function) (N : News h₀ L stH news)
include B F X T hk N
theorem c_unpack {b0 b1 b2 b3 b4 b5 b6 : Int} {tf0 tf1 tf2 tf3 tf4 tf5 tf6 : Tok} {dFl : Addr} {hFl0 hFl1 hFl2 hFl3 hFl4 hFl5 hFl6 : Int} {kFl0 kFl1 kFl2 kFl3 kFl4 kFl5 kFl6 : Tok} {v : Int} {t : Tok} {u : Obj → List (Addr × Obj)} (hdp : dp + 6 < recursionLimit) (aFl : (Fl, instObj 174 dFl) ∈ news) (U : UpdF dFl (dictOf [⟨hFl0, .str (Str.ofString "cf") kFl0, .int b0 tf0⟩, ⟨hFl1, .str (Str.ofString "pf") kFl1, .int b1 tf1⟩, ⟨hFl2, .str (Str.ofString "af") kFl2, .int b2 tf2⟩, ⟨hFl3, .str (Str.ofString "zf") kFl3, .int b3 tf3⟩, ⟨hFl4, .str (Str.ofString "sf") kFl4, .int b4 tf4⟩, ⟨hFl5, .str (Str.ofString "of") kFl5, .int b5 tf5⟩, ⟨hFl6, .str (Str.ofString "df") kFl6, .int b6 tf6⟩] 7) news u) (mFl : ∀ o, (Fl, instObj 174 dFl) ∈ u o)
    (ret : ∀ h' tk' t0 t1 t2 t3 t4 t5 t6, Fr h₀ L h' m → News h₀ L h' (u (dictOf [⟨hFl0, .str (Str.ofString "cf") kFl0, .int (bitZ v 0) t0⟩, ⟨hFl1, .str (Str.ofString "pf") kFl1, .int (bitZ v 2) t1⟩, ⟨hFl2, .str (Str.ofString "af") kFl2, .int (bitZ v 4) t2⟩, ⟨hFl3, .str (Str.ofString "zf") kFl3, .int (bitZ v 6) t3⟩, ⟨hFl4, .str (Str.ofString "sf") kFl4, .int (bitZ v 7) t4⟩, ⟨hFl5, .str (Str.ofString "of") kFl5, .int (bitZ v 11) t5⟩, ⟨hFl6, .str (Str.ofString "df") kFl6, .int (bitZ v 10) t6⟩] 7)) → Q .none ⟨h', stG, stD, tk', stO⟩) :
    wpAny (model PySem.Challenge.rw_nn0065_01.row.prog w) (ktrTop dp un gd cn cs L a ccd cl outer) (call (.ref 136) [.ref Fl, .int v t]) Q E ⟨stH, stG, stD, stT, stO⟩ := by
  obtain ⟨rest, hoff, hu, hn⟩ := upd_open U
  replace mFl := upd_rest hu mFl
  replace N := news_of N (fun p hp => (hn p).mpr hp)
  clear U aFl hn
  k_dflt (refine' enter_def [(Str.ofString "self", .ref Fl), (Str.ofString "number", .int v t)] ?k1 ?k2 ?k3 ?k4 ?k5 ?kA ?kF ?kK ?k6 ?k7 ?k8 ?k9 ?kB ?_ ?c2 ?c3 ?c4 ?c5; k_extra "en")
  k_steps
  (rename News h₀ L _ _ => N9)
  exact ret _ _ _ _ _ _ _ _ _ (by k_asm) (news_of N9 fun p hp => (hu _ p).mp hp)
end
example : True := by
  k_with "call ref" => ((k_here; (with_reducible show wpAny _ _ (PySem.call (Value.ref 220) _ _) _ _ _); k_dflt (refine' Mine.enter_zip [Str.ofString "state", Str.ofString "instruction"] ?k1 ?k2 ?k3 ?k4 ?k5 ?kA ?kF ?kK ?k6 ?k7 ?k8 ?k9 ?kB ?_ ?c2 ?c3 ?c4 ?c5; (case kA => exact rfl); (case kF => exact rfl); (case kK => first | exact rfl | assumption); (case k1 => k_asm); (case k2 => k_asm); (case k3 => k_asm); (case k4 => k_asm); (case k5 => k_asm); (case k6 => k_is); (case k7 => k_is); (case k8 => ktr_room); (case k9 => exact BindsTo.of_eq rfl); (case c5 => decide); (case kB => exact locs rfl); (case c2 => exact rfl); (case c3 => exact rfl); (case c4 => exact rfl); k_whole; intro g' L' h' tk' FG' F' N' B' X' T'; (dsimp only [Mine.mapL, List.zip, List.zipWith, List.zip_cons_cons, List.zip_nil_left, List.zip_nil_right, List.reverse_cons, List.reverse_nil, List.reverse, List.reverseAux, List.nil_append, List.cons_append] at F'); (try dsimp only); (try k_fold))))
  k_with "call ref" => ((k_here; (with_reducible show wpAny _ _ (PySem.call (Value.ref 227) _ _) _ _ _); k_dflt (refine' Mine.enter_zip [Str.ofString "state", Str.ofString "instruction"] ?k1 ?k2 ?k3 ?k4 ?k5 ?kA ?kF ?kK ?k6 ?k7 ?k8 ?k9 ?kB ?_ ?c2 ?c3 ?c4 ?c5; (case kA => exact rfl); (case kF => exact rfl); (case kK => first | exact rfl | assumption); (case k1 => k_asm); (case k2 => k_asm); (case k3 => k_asm); (case k4 => k_asm); (case k5 => k_asm); (case k6 => k_is); (case k7 => k_is); (case k8 => ktr_room); (case k9 => exact BindsTo.of_eq rfl); (case c5 => decide); (case kB => exact locs rfl); (case c2 => exact rfl); (case c3 => exact rfl); (case c4 => exact rfl); k_whole; intro g' L' h' tk' FG' F' N' B' X' T'; (dsimp only [Mine.mapL, List.zip, List.zipWith, List.zip_cons_cons, List.zip_nil_left, List.zip_nil_right, List.reverse_cons, List.reverse_nil, List.reverse, List.reverseAux, List.nil_append, List.cons_append] at F'); (try dsimp only); (try k_fold))))
  k_with "call ref" => ((k_here; (with_reducible show wpAny _ _ (PySem.call (Value.ref 206) _ _) _ _ _); k_dflt (refine' Mine.enter_zip [Str.ofString "state", Str.ofString "one", Str.ofString "other", Str.ofString "size"] ?k1 ?k2 ?k3 ?k4 ?k5 ?kA ?kF ?kK ?k6 ?k7 ?k8 ?k9 ?kB ?_ ?c2 ?c3 ?c4 ?c5; (case kA => exact rfl); (case kF => exact rfl); (case kK => first | exact rfl | assumption); (case k1 => k_asm); (case k2 => k_asm); (case k3 => k_asm); (case k4 => k_asm); (case k5 => k_asm); (case k6 => k_is); (case k7 => k_is); (case k8 => ktr_room); (case k9 => exact BindsTo.of_eq rfl); (case c5 => decide); (case kB => exact locs rfl); (case c2 => exact rfl); (case c3 => exact rfl); (case c4 => exact rfl); k_whole; intro g' L' h' tk' FG' F' N' B' X' T'; (dsimp only [Mine.mapL, List.zip, List.zipWith, List.zip_cons_cons, List.zip_nil_left, List.zip_nil_right, List.reverse_cons, List.reverse_nil, List.reverse, List.reverseAux, List.nil_append, List.cons_append] at F'); (try dsimp only); (try k_fold))))
  k_with "call ref" => ((k_here; (with_reducible show wpAny _ _ (PySem.call (Value.ref 241) _ _) _ _ _); k_dflt (refine' Mine.enter_zip [Str.ofString "state", Str.ofString "operand"] ?k1 ?k2 ?k3 ?k4 ?k5 ?kA ?kF ?kK ?k6 ?k7 ?k8 ?k9 ?kB ?_ ?c2 ?c3 ?c4 ?c5; (case kA => exact rfl); (case kF => exact rfl); (case kK => first | exact rfl | assumption); (case k1 => k_asm); (case k2 => k_asm); (case k3 => k_asm); (case k4 => k_asm); (case k5 => k_asm); (case k6 => k_is); (case k7 => k_is); (case k8 => ktr_room); (case k9 => exact BindsTo.of_eq rfl); (case c5 => decide); (case kB => exact locs rfl); (case c2 => exact rfl); (case c3 => exact rfl); (case c4 => exact rfl); k_whole; intro g' L' h' tk' FG' F' N' B' X' T'; (dsimp only [Mine.mapL, List.zip, List.zipWith, List.zip_cons_cons, List.zip_nil_left, List.zip_nil_right, List.reverse_cons, List.reverse_nil, List.reverse, List.reverseAux, List.nil_append, List.cons_append] at F'); (try dsimp only); (try k_fold))))
  trivial
theorem upd_iff {D : Addr} {oD : Obj} {l : List (Addr × Obj)} {u : Obj → List (Addr × Obj)} (U : UpdF D oD l u) (o : Obj) (p : Addr × Obj) : p ∈ u o ↔ p = (D, o) ∨ (p ∈ l ∧ p.1 ≠ D) := by
  obtain ⟨r, n1, e1, f1⟩ := upd_open U
  rw [e1, f1]
  constructor
  · intro h
    rcases List.mem_cons.mp h with h | h
    · exact .inl h
    · exact .inr ⟨.tail _ h, n1 p h⟩
  · rintro (h | ⟨h, hn⟩)
    · exact h ▸ .head _
    · rcases List.mem_cons.mp h with h | h
      · exact absurd (by rw [h]) hn
      · exact .tail _ h
theorem upd_open3 {R H D : Addr} {oR oH oD : Obj} {news : List (Addr × Obj)} {u1 : Obj → List (Addr × Obj)} {u2 : Obj → Obj → List (Addr × Obj)} {u : Obj → Obj → Obj → List (Addr × Obj)} (U1 : UpdF R oR news u1) (U2 : ∀ o, UpdF H oH (u1 o) (u2 o)) (U : ∀ o o2, UpdF D oD (u2 o o2) (u o o2)) :
    ∃ rest, @Ne Nat R H ∧ @Ne Nat R D ∧ @Ne Nat H D ∧ (∀ p ∈ rest, p.1 ≠ R) ∧ (∀ p ∈ rest, p.1 ≠ H) ∧ (∀ p ∈ rest, p.1 ≠ D) ∧ (∀ o o2 o3 p, p ∈ u o o2 o3 ↔ p ∈ (R, o) :: (H, o2) :: (D, o3) :: rest) ∧ (∀ p, p ∈ news ↔ p ∈ (R, oR) :: (H, oH) :: (D, oD) :: rest) := by
  obtain ⟨r2, hRH, nR, nH, e2, f2⟩ := upd_open2 U1 U2
  have hD : (D, oD) ∈ r2 := upd_rest2 e2 fun o o2 => by rw [← UpdF.self (U o o2)]; exact UpdF.mem (U o o2) oD
  have hDR : D ≠ R := nR _ hD
  have hDH : D ≠ H := nH _ hD
  have hself : ∀ p ∈ r2, p.1 = D → p = (D, oD) := by
    intro p hp he
    obtain ⟨r, n1, e1, f1⟩ := upd_open (U oR oH)
    have h1 : p ∈ (D, oD) :: r := (f1 p).mp ((e2 _ _ p).mpr (.tail _ (.tail _ hp)))
    rcases List.mem_cons.mp h1 with h | h
    · exact h
    · exact absurd he (n1 p h)
  refine ⟨r2.filter fun p => decide (p.1 ≠ D), hRH, fun e => hDR e.symm, fun e => hDH e.symm, fun p hp => nR p (List.mem_filter.mp hp).1, fun p hp => nH p (List.mem_filter.mp hp).1, fun p hp => by simpa using (List.mem_filter.mp hp).2, ?_, ?_⟩
  · intro o o2 o3 p
    rw [upd_iff (U o o2), e2]
    simp only [List.mem_cons, List.mem_filter, decide_eq_true_eq]
    constructor
    · rintro (h | ⟨h | h | h, hn⟩)
      · exact .inr (.inr (.inl h))
      · exact .inl h
      · exact .inr (.inl h)
      · exact .inr (.inr (.inr ⟨h, hn⟩))
    · rintro (h | h | h | ⟨h, hn⟩)
      · exact .inr ⟨.inl h, by rw [h]; exact fun e => hDR e.symm⟩
      · exact .inr ⟨.inr (.inl h), by rw [h]; exact fun e => hDH e.symm⟩
      · exact .inl h
      · exact .inr ⟨.inr (.inr h), hn⟩
  · intro p
    rw [f2]
    simp only [List.mem_cons, List.mem_filter, decide_eq_true_eq]
    constructor
    · rintro (h | h | h)
      · exact .inl h
      · exact .inr (.inl h)
      · by_cases he : p.1 = D
        · exact .inr (.inr (.inl (hself p h he)))
        · exact .inr (.inr (.inr ⟨h, he⟩))
    · rintro (h | h | h | ⟨h, _⟩)
      · exact .inl h
      · exact .inr (.inl h)
      · exact .inr (.inr (h ▸ hD))
      · exact .inr (.inr h)
theorem upd_rest3 {R H D x : Addr} {ox : Obj} {rest : List (Addr × Obj)} {u : Obj → Obj → Obj → List (Addr × Obj)} (e : ∀ o o2 o3 p, p ∈ u o o2 o3 ↔ p ∈ (R, o) :: (H, o2) :: (D, o3) :: rest) (hm : ∀ o o2 o3, (x, ox) ∈ u o o2 o3) : (x, ox) ∈ rest := by
  have key : ∀ k : Nat, ((x, ox) ∈ rest) ∨ ox = dictOf [] k := fun k => by
    rcases List.mem_cons.mp ((e _ _ _ _).mp (hm (dictOf [] k) (dictOf [] k) (dictOf [] k))) with h | h
    · injection h with _ h; exact .inr h
    · rcases List.mem_cons.mp h with h | h
      · injection h with _ h; exact .inr h
      · rcases List.mem_cons.mp h with h | h
        · injection h with _ h; exact .inr h
        · exact .inl h
  rcases key 0 with h | h
  · exact h
  · rcases key 1 with h' | h'
    · exact h'
    · rw [h] at h'
      injection h' with _ _ h9
      injection h9 with _ h10
      cases h10
section
variable {w : World} {dp un : Nat} {gd : Option (List Code)} {cn : Str} {cs : Scope} {a : Addr} {ccd : Value} {cl : List (Str × Addr)} {outer : List Env} {A₀ : Around} {base h₀ : Heap} {L : Addr} {m : Str → Option Value} {stH : Heap} {stG : Array GenState} {stD : Drawn} {stT : Nat} {stO : OsState} {Q E : Value → Shared → Prop} {p : Program} {loose : List Str} {mean : ExcName → Option Value} {mg mb : Str → Option Value} {news : List (Addr × Obj)}
    (B : Below A₀ base outer h₀) (F : Fr h₀ L stH m) (X : (hd.heap_39 w.params).In h₀) (T : Top p loose mean mg mb h₀) (hk : cs.kind = .function) (N : News h₀ L stH news)
include B F X T hk N
theorem c_dpush {S R Xm Fl Me Sg : Addr} {rip : Int} {trip tbg : Tok} {dS : Addr} {hS0 hS1 hS2 hS3 hS4 hS5 hS6 hS7 hS8 : Int} {kS0 kS1 kS2 kS3 kS4 kS5 kS6 kS7 kS8 : Tok} {vsR : List Value} {ws : List Int} {nR : Nat} {H : Addr} {dMe : Addr} {hMe0 : Int} {kMe0 : Tok} {oH : Obj} {c : List (Int × Int)} {G : Addr} {wG : Str} {iG zG : Int} {uG0 uG1 uG2 uG3 : Tok} {dG : Addr} {hG0 hG1 hG2 hG3 : Int} {kG0 kG1 kG2 kG3 : Tok} {O : Addr} {uO0 : Tok} {dO : Addr} {hO0 hO1 : Int} {kO0 kO1 : Tok} {I Tp : Addr} {uI0 uI1 : Tok} {nTp : Nat} {dI : Addr} {hI0 hI1 hI2 : Int} {kI0 kI1 kI2 : Tok} {u1 : Obj → List (Addr × Obj)} {u : Obj → Obj → List (Addr × Obj)} (U1 : UpdF R (listOf vsR.toArray nR) news u1) (U : ∀ o, UpdF H oH (u1 o) (u o)) (hdp : dp + 18 < recursionLimit) (h1 : ws.length = 16) (i0 : 0 ≤ iG) (i1 : iG < 16) (z0 : 0 ≤ zG) (z1 : zG ≤ 64) (hc : c.length ≤ 100000) (mSa : ∀ o o2, (S, instObj 546 dS) ∈ u o o2) (mSb : ∀ o o2, (dS, dictOf [⟨hS0, .str (Str.ofString "iset") kS0, .none⟩, ⟨hS1, .str (Str.ofString "regs") kS1, .ref R⟩, ⟨hS2, .str (Str.ofString "xmm") kS2, .ref Xm⟩, ⟨hS3, .str (Str.ofString "flags") kS3, .ref Fl⟩, ⟨hS4, .str (Str.ofString "memory") kS4, .ref Me⟩, ⟨hS5, .str (Str.ofString "rip") kS5, .int rip trip⟩, ⟨hS6, .str (Str.ofString "begin") kS6, .int 0 tbg⟩, ⟨hS7, .str (Str.ofString "segments") kS7, .ref Sg⟩, ⟨hS8, .str (Str.ofString "is_halted") kS8, .bool false⟩] 9) ∈ u o o2) (iR : IntsAre vsR ws) (mMea : ∀ o o2, (Me, instObj 429 dMe) ∈ u o o2) (mMeb : ∀ o o2, (dMe, dictOf [⟨hMe0, .str (Str.ofString "held") kMe0, .ref H⟩] 1) ∈ u o o2) (D : DI w H oH c) (mGa : ∀ o o2, (G, instObj 314 dG) ∈ u o o2) (mGb : ∀ o o2, (dG, dictOf [⟨hG0, .str (Str.ofString "name") kG0, .str wG uG0⟩, ⟨hG1, .str (Str.ofString "kind") kG1, .str (Str.ofString "gpr") uG1⟩, ⟨hG2, .str (Str.ofString "number") kG2, .int iG uG2⟩, ⟨hG3, .str (Str.ofString "size") kG3, .int zG uG3⟩] 4) ∈ u o o2) (mOa : ∀ o o2, (O, instObj 623 dO) ∈ u o o2) (mOb : ∀ o o2, (dO, dictOf [⟨hO0, .str (Str.ofString "kind") kO0, .str (Str.ofString "reg") uO0⟩, ⟨hO1, .str (Str.ofString "register") kO1, .ref G⟩] 2) ∈ u o o2) (mIa : ∀ o o2, (I, instObj 804 dI) ∈ u o o2) (mIb : ∀ o o2, (dI, dictOf [⟨hI0, .str (Str.ofString "name") kI0, .str (Str.ofString "push") uI0⟩, ⟨hI1, .str (Str.ofString "operands") kI1, .ref Tp⟩, ⟨hI2, .str (Str.ofString "prefix") kI2, .str (Str.ofString "") uI1⟩] 3) ∈ u o o2) (mTp : ∀ o o2, (Tp, { cls := .type "tuple", data := .seq (List.toArray [.ref O]) nTp }) ∈ u o o2)
    (ret : ∀ h' tk' vs' o', Fr h₀ L h' m → News h₀ L h' (u (listOf vs'.toArray nR) o') → IntsAre vs' (ws.set 4 (low (ws.getD 4 0 - zG.fdiv 8) 64)) → DI w H o' (wrM c (low (ws.getD 4 0 - zG.fdiv 8) 64) (low (low (ws.getD iG.toNat 0) zG) zG) (zG.fdiv 8).toNat) → Q (.bool true) ⟨h', stG, stD, tk', stO⟩) :
    wpAny (model PySem.Challenge.rw_nn0065_01.row.prog w) (ktrTop dp un gd cn cs L a ccd cl outer) (call (.ref 234) [.ref S, .ref I]) Q E ⟨stH, stG, stD, stT, stO⟩ := by
  obtain ⟨rest, hRH, hoR, hoH, hu, hn⟩ := upd_open2 U1 U
  replace mSa := upd_rest2 hu mSa
  replace mSb := upd_rest2 hu mSb
  replace mMea := upd_rest2 hu mMea
  replace mMeb := upd_rest2 hu mMeb
  replace mGa := upd_rest2 hu mGa
  replace mGb := upd_rest2 hu mGb
  replace mOa := upd_rest2 hu mOa
  replace mOb := upd_rest2 hu mOb
  replace mIa := upd_rest2 hu mIa
  replace mIb := upd_rest2 hu mIb
  replace mTp := upd_rest2 hu mTp
  replace N := news_of N (fun p hp => (hn p).mpr hp)
  clear U1 U hn
  have hfd := fdiv8 zG
  k_dflt (refine' enter_def [(Str.ofString "state", .ref S), (Str.ofString "instruction", .ref I)] ?k1 ?k2 ?k3 ?k4 ?k5 ?kA ?kF ?kK ?k6 ?k7 ?k8 ?k9 ?kB ?_ ?c2 ?c3 ?c4 ?c5; k_extra "en")
  k_steps
  exact ret _ _ _ _ (by k_asm) (news_of (by k_asm) fun p hp => (hu _ _ p).mp hp) (by assumption) (by assumption)
theorem c_dpushI {S R Xm Fl Me Sg : Addr} {rip : Int} {trip tbg : Tok} {dS : Addr} {hS0 hS1 hS2 hS3 hS4 hS5 hS6 hS7 hS8 : Int} {kS0 kS1 kS2 kS3 kS4 kS5 kS6 kS7 kS8 : Tok} {vsR : List Value} {ws : List Int} {nR : Nat} {H : Addr} {dMe : Addr} {hMe0 : Int} {kMe0 : Tok} {oH : Obj} {c : List (Int × Int)} {O : Addr} {eO : Int} {uO0 uO1 uO2 : Tok} {dO : Addr} {hO0 hO1 hO2 : Int} {kO0 kO1 kO2 : Tok} {I Tp : Addr} {uI0 uI1 : Tok} {nTp : Nat} {dI : Addr} {hI0 hI1 hI2 : Int} {kI0 kI1 kI2 : Tok} {u1 : Obj → List (Addr × Obj)} {u : Obj → Obj → List (Addr × Obj)} (U1 : UpdF R (listOf vsR.toArray nR) news u1) (U : ∀ o, UpdF H oH (u1 o) (u o)) (hdp : dp + 18 < recursionLimit) (h1 : ws.length = 16)  (hc : c.length ≤ 100000) (mSa : ∀ o o2, (S, instObj 546 dS) ∈ u o o2) (mSb : ∀ o o2, (dS, dictOf [⟨hS0, .str (Str.ofString "iset") kS0, .none⟩, ⟨hS1, .str (Str.ofString "regs") kS1, .ref R⟩, ⟨hS2, .str (Str.ofString "xmm") kS2, .ref Xm⟩, ⟨hS3, .str (Str.ofString "flags") kS3, .ref Fl⟩, ⟨hS4, .str (Str.ofString "memory") kS4, .ref Me⟩, ⟨hS5, .str (Str.ofString "rip") kS5, .int rip trip⟩, ⟨hS6, .str (Str.ofString "begin") kS6, .int 0 tbg⟩, ⟨hS7, .str (Str.ofString "segments") kS7, .ref Sg⟩, ⟨hS8, .str (Str.ofString "is_halted") kS8, .bool false⟩] 9) ∈ u o o2) (iR : IntsAre vsR ws) (mMea : ∀ o o2, (Me, instObj 429 dMe) ∈ u o o2) (mMeb : ∀ o o2, (dMe, dictOf [⟨hMe0, .str (Str.ofString "held") kMe0, .ref H⟩] 1) ∈ u o o2) (D : DI w H oH c) (mOa : ∀ o o2, (O, instObj 657 dO) ∈ u o o2) (mOb : ∀ o o2, (dO, dictOf [⟨hO0, .str (Str.ofString "kind") kO0, .str (Str.ofString "imm") uO0⟩, ⟨hO1, .str (Str.ofString "worth") kO1, .int eO uO1⟩, ⟨hO2, .str (Str.ofString "name") kO2, .str (Str.ofString "") uO2⟩] 3) ∈ u o o2) (mIa : ∀ o o2, (I, instObj 804 dI) ∈ u o o2) (mIb : ∀ o o2, (dI, dictOf [⟨hI0, .str (Str.ofString "name") kI0, .str (Str.ofString "push") uI0⟩, ⟨hI1, .str (Str.ofString "operands") kI1, .ref Tp⟩, ⟨hI2, .str (Str.ofString "prefix") kI2, .str (Str.ofString "") uI1⟩] 3) ∈ u o o2) (mTp : ∀ o o2, (Tp, { cls := .type "tuple", data := .seq (List.toArray [.ref O]) nTp }) ∈ u o o2)
    (ret : ∀ h' tk' vs' o', Fr h₀ L h' m → News h₀ L h' (u (listOf vs'.toArray nR) o') → IntsAre vs' (ws.set 4 (low (ws.getD 4 0 - Int.fdiv 64 8) 64)) → DI w H o' (wrM c (low (ws.getD 4 0 - Int.fdiv 64 8) 64) (low eO 64) (Int.fdiv 64 8).toNat) → Q (.bool true) ⟨h', stG, stD, tk', stO⟩) :
    wpAny (model PySem.Challenge.rw_nn0065_01.row.prog w) (ktrTop dp un gd cn cs L a ccd cl outer) (call (.ref 234) [.ref S, .ref I]) Q E ⟨stH, stG, stD, stT, stO⟩ := by
  obtain ⟨rest, hRH, hoR, hoH, hu, hn⟩ := upd_open2 U1 U
  replace mSa := upd_rest2 hu mSa
  replace mSb := upd_rest2 hu mSb
  replace mMea := upd_rest2 hu mMea
  replace mMeb := upd_rest2 hu mMeb
  replace mOa := upd_rest2 hu mOa
  replace mOb := upd_rest2 hu mOb
  replace mIa := upd_rest2 hu mIa
  replace mIb := upd_rest2 hu mIb
  replace mTp := upd_rest2 hu mTp
  replace N := news_of N (fun p hp => (hn p).mpr hp)
  clear U1 U hn
  k_dflt (refine' enter_def [(Str.ofString "state", .ref S), (Str.ofString "instruction", .ref I)] ?k1 ?k2 ?k3 ?k4 ?k5 ?kA ?kF ?kK ?k6 ?k7 ?k8 ?k9 ?kB ?_ ?c2 ?c3 ?c4 ?c5; k_extra "en")
  k_steps
  exact ret _ _ _ _ (by k_asm) (news_of (by k_asm) fun p hp => (hu _ _ p).mp hp) (by assumption) (by assumption)
theorem c_dpushM {S R Xm Fl Me Sg : Addr} {rip : Int} {trip tbg : Tok} {dS : Addr} {hS0 hS1 hS2 hS3 hS4 hS5 hS6 hS7 hS8 : Int} {kS0 kS1 kS2 kS3 kS4 kS5 kS6 kS7 kS8 : Tok} {vsR : List Value} {ws : List Int} {nR : Nat} {H : Addr} {dMe : Addr} {hMe0 : Int} {kMe0 : Tok} {oH : Obj} {c : List (Int × Int)} {G : Addr} {wG : Str} {iG zG : Int} {uG0 uG1 uG2 uG3 : Tok} {dG : Addr} {hG0 hG1 hG2 hG3 : Int} {kG0 kG1 kG2 kG3 : Tok} {O : Addr} {scO eO szO : Int} {uO0 uO1 uO2 uO3 uO4 uO5 : Tok} {dO : Addr} {hO0 hO1 hO2 hO3 hO4 hO5 hO6 hO7 : Int} {kO0 kO1 kO2 kO3 kO4 kO5 kO6 kO7 : Tok} {I Tp : Addr} {uI0 uI1 : Tok} {nTp : Nat} {dI : Addr} {hI0 hI1 hI2 : Int} {kI0 kI1 kI2 : Tok} {u1 : Obj → List (Addr × Obj)} {u : Obj → Obj → List (Addr × Obj)} (U1 : UpdF R (listOf vsR.toArray nR) news u1) (U : ∀ o, UpdF H oH (u1 o) (u o)) (hdp : dp + 18 < recursionLimit) (h1 : ws.length = 16) (i0 : 0 ≤ iG) (i1 : iG < 16) (z0 : 0 ≤ zG) (z1 : zG ≤ 64) (s0 : 0 < szO) (s1 : szO ≤ 64) (hc : c.length ≤ 100000) (mSa : ∀ o o2, (S, instObj 546 dS) ∈ u o o2) (mSb : ∀ o o2, (dS, dictOf [⟨hS0, .str (Str.ofString "iset") kS0, .none⟩, ⟨hS1, .str (Str.ofString "regs") kS1, .ref R⟩, ⟨hS2, .str (Str.ofString "xmm") kS2, .ref Xm⟩, ⟨hS3, .str (Str.ofString "flags") kS3, .ref Fl⟩, ⟨hS4, .str (Str.ofString "memory") kS4, .ref Me⟩, ⟨hS5, .str (Str.ofString "rip") kS5, .int rip trip⟩, ⟨hS6, .str (Str.ofString "begin") kS6, .int 0 tbg⟩, ⟨hS7, .str (Str.ofString "segments") kS7, .ref Sg⟩, ⟨hS8, .str (Str.ofString "is_halted") kS8, .bool false⟩] 9) ∈ u o o2) (iR : IntsAre vsR ws) (mMea : ∀ o o2, (Me, instObj 429 dMe) ∈ u o o2) (mMeb : ∀ o o2, (dMe, dictOf [⟨hMe0, .str (Str.ofString "held") kMe0, .ref H⟩] 1) ∈ u o o2) (D : DI w H oH c) (mGa : ∀ o o2, (G, instObj 314 dG) ∈ u o o2) (mGb : ∀ o o2, (dG, dictOf [⟨hG0, .str (Str.ofString "name") kG0, .str wG uG0⟩, ⟨hG1, .str (Str.ofString "kind") kG1, .str (Str.ofString "gpr") uG1⟩, ⟨hG2, .str (Str.ofString "number") kG2, .int iG uG2⟩, ⟨hG3, .str (Str.ofString "size") kG3, .int zG uG3⟩] 4) ∈ u o o2) (mOa : ∀ o o2, (O, instObj 751 dO) ∈ u o o2) (mOb : ∀ o o2, (dO, dictOf [⟨hO0, .str (Str.ofString "kind") kO0, .str (Str.ofString "mem") uO0⟩, ⟨hO1, .str (Str.ofString "base") kO1, .ref G⟩, ⟨hO2, .str (Str.ofString "index") kO2, .none⟩, ⟨hO3, .str (Str.ofString "scale") kO3, .int scO uO1⟩, ⟨hO4, .str (Str.ofString "worth") kO4, .int eO uO2⟩, ⟨hO5, .str (Str.ofString "size") kO5, .int szO uO3⟩, ⟨hO6, .str (Str.ofString "segment") kO6, .str (Str.ofString "") uO4⟩, ⟨hO7, .str (Str.ofString "name") kO7, .str (Str.ofString "") uO5⟩] 8) ∈ u o o2) (mIa : ∀ o o2, (I, instObj 804 dI) ∈ u o o2) (mIb : ∀ o o2, (dI, dictOf [⟨hI0, .str (Str.ofString "name") kI0, .str (Str.ofString "push") uI0⟩, ⟨hI1, .str (Str.ofString "operands") kI1, .ref Tp⟩, ⟨hI2, .str (Str.ofString "prefix") kI2, .str (Str.ofString "") uI1⟩] 3) ∈ u o o2) (mTp : ∀ o o2, (Tp, { cls := .type "tuple", data := .seq (List.toArray [.ref O]) nTp }) ∈ u o o2)
    (ret : ∀ h' tk' vs' o', Fr h₀ L h' m → News h₀ L h' (u (listOf vs'.toArray nR) o') → IntsAre vs' (ws.set 4 (low (ws.getD 4 0 - szO.fdiv 8) 64)) → DI w H o' (wrM c (low (ws.getD 4 0 - szO.fdiv 8) 64) (rdM c (low (low (eO + low (ws.getD iG.toNat 0) zG) 64 + 0) 64) (szO.fdiv 8).toNat) (szO.fdiv 8).toNat) → Q (.bool true) ⟨h', stG, stD, tk', stO⟩) :
    wpAny (model PySem.Challenge.rw_nn0065_01.row.prog w) (ktrTop dp un gd cn cs L a ccd cl outer) (call (.ref 234) [.ref S, .ref I]) Q E ⟨stH, stG, stD, stT, stO⟩ := by
  obtain ⟨rest, hRH, hoR, hoH, hu, hn⟩ := upd_open2 U1 U
  replace mSa := upd_rest2 hu mSa
  replace mSb := upd_rest2 hu mSb
  replace mMea := upd_rest2 hu mMea
  replace mMeb := upd_rest2 hu mMeb
  replace mGa := upd_rest2 hu mGa
  replace mGb := upd_rest2 hu mGb
  replace mOa := upd_rest2 hu mOa
  replace mOb := upd_rest2 hu mOb
  replace mIa := upd_rest2 hu mIa
  replace mIb := upd_rest2 hu mIb
  replace mTp := upd_rest2 hu mTp
  replace N := news_of N (fun p hp => (hn p).mpr hp)
  clear U1 U hn
  have hfd := fdiv8 szO
  k_dflt (refine' enter_def [(Str.ofString "state", .ref S), (Str.ofString "instruction", .ref I)] ?k1 ?k2 ?k3 ?k4 ?k5 ?kA ?kF ?kK ?k6 ?k7 ?k8 ?k9 ?kB ?_ ?c2 ?c3 ?c4 ?c5; k_extra "en")
  k_steps
  exact ret _ _ _ _ (by k_asm) (news_of (by k_asm) fun p hp => (hu _ _ p).mp hp) (by assumption) (by assumption)
theorem c_dpop {S R Xm Fl Me Sg : Addr} {rip : Int} {trip tbg : Tok} {dS : Addr} {hS0 hS1 hS2 hS3 hS4 hS5 hS6 hS7 hS8 : Int} {kS0 kS1 kS2 kS3 kS4 kS5 kS6 kS7 kS8 : Tok} {vsR : List Value} {ws : List Int} {nR : Nat} {H : Addr} {dMe : Addr} {hMe0 : Int} {kMe0 : Tok} {oH : Obj} {c : List (Int × Int)} {G : Addr} {wG : Str} {iG zG : Int} {uG0 uG1 uG2 uG3 : Tok} {dG : Addr} {hG0 hG1 hG2 hG3 : Int} {kG0 kG1 kG2 kG3 : Tok} {O : Addr} {uO0 : Tok} {dO : Addr} {hO0 hO1 : Int} {kO0 kO1 : Tok} {I Tp : Addr} {uI0 uI1 : Tok} {nTp : Nat} {dI : Addr} {hI0 hI1 hI2 : Int} {kI0 kI1 kI2 : Tok} {u : Obj → List (Addr × Obj)} (U : UpdF R (listOf vsR.toArray nR) news u) (hdp : dp + 18 < recursionLimit) (h1 : ws.length = 16) (i0 : 0 ≤ iG) (i1 : iG < 16) (z0 : 0 ≤ zG) (z1 : zG ≤ 64) (mSa : ∀ o, (S, instObj 546 dS) ∈ u o) (mSb : ∀ o, (dS, dictOf [⟨hS0, .str (Str.ofString "iset") kS0, .none⟩, ⟨hS1, .str (Str.ofString "regs") kS1, .ref R⟩, ⟨hS2, .str (Str.ofString "xmm") kS2, .ref Xm⟩, ⟨hS3, .str (Str.ofString "flags") kS3, .ref Fl⟩, ⟨hS4, .str (Str.ofString "memory") kS4, .ref Me⟩, ⟨hS5, .str (Str.ofString "rip") kS5, .int rip trip⟩, ⟨hS6, .str (Str.ofString "begin") kS6, .int 0 tbg⟩, ⟨hS7, .str (Str.ofString "segments") kS7, .ref Sg⟩, ⟨hS8, .str (Str.ofString "is_halted") kS8, .bool false⟩] 9) ∈ u o) (iR : IntsAre vsR ws) (mMea : ∀ o, (Me, instObj 429 dMe) ∈ u o) (mMeb : ∀ o, (dMe, dictOf [⟨hMe0, .str (Str.ofString "held") kMe0, .ref H⟩] 1) ∈ u o) (mH : ∀ o, (H, oH) ∈ u o) (D : DI w H oH c) (mGa : ∀ o, (G, instObj 314 dG) ∈ u o) (mGb : ∀ o, (dG, dictOf [⟨hG0, .str (Str.ofString "name") kG0, .str wG uG0⟩, ⟨hG1, .str (Str.ofString "kind") kG1, .str (Str.ofString "gpr") uG1⟩, ⟨hG2, .str (Str.ofString "number") kG2, .int iG uG2⟩, ⟨hG3, .str (Str.ofString "size") kG3, .int zG uG3⟩] 4) ∈ u o) (mOa : ∀ o, (O, instObj 623 dO) ∈ u o) (mOb : ∀ o, (dO, dictOf [⟨hO0, .str (Str.ofString "kind") kO0, .str (Str.ofString "reg") uO0⟩, ⟨hO1, .str (Str.ofString "register") kO1, .ref G⟩] 2) ∈ u o) (mIa : ∀ o, (I, instObj 804 dI) ∈ u o) (mIb : ∀ o, (dI, dictOf [⟨hI0, .str (Str.ofString "name") kI0, .str (Str.ofString "pop") uI0⟩, ⟨hI1, .str (Str.ofString "operands") kI1, .ref Tp⟩, ⟨hI2, .str (Str.ofString "prefix") kI2, .str (Str.ofString "") uI1⟩] 3) ∈ u o) (mTp : ∀ o, (Tp, { cls := .type "tuple", data := .seq (List.toArray [.ref O]) nTp }) ∈ u o)
    (ret : ∀ h' tk' vs', Fr h₀ L h' m → News h₀ L h' (u (listOf vs'.toArray nR)) → IntsAre vs' ((ws.set 4 (low (ws.getD 4 0 + zG.fdiv 8) 64)).set iG.toNat (joinedZ ((ws.set 4 (low (ws.getD 4 0 + zG.fdiv 8) 64)).getD iG.toNat 0) (low (rdM c (ws.getD 4 0) (zG.fdiv 8).toNat) zG) zG)) → Q (.bool true) ⟨h', stG, stD, tk', stO⟩) :
    wpAny (model PySem.Challenge.rw_nn0065_01.row.prog w) (ktrTop dp un gd cn cs L a ccd cl outer) (call (.ref 234) [.ref S, .ref I]) Q E ⟨stH, stG, stD, stT, stO⟩ := by
  obtain ⟨rest, hoR, hu, hn⟩ := upd_open U
  replace mSa := upd_rest hu mSa
  replace mSb := upd_rest hu mSb
  replace mMea := upd_rest hu mMea
  replace mMeb := upd_rest hu mMeb
  replace mH := upd_rest hu mH
  replace mGa := upd_rest hu mGa
  replace mGb := upd_rest hu mGb
  replace mOa := upd_rest hu mOa
  replace mOb := upd_rest hu mOb
  replace mIa := upd_rest hu mIa
  replace mIb := upd_rest hu mIb
  replace mTp := upd_rest hu mTp
  replace N := news_of N (fun p hp => (hn p).mpr hp)
  clear U hn
  have hfd := fdiv8 zG
  have hlen := (List.length_set .. : (ws.set 4 (low (ws.getD 4 0 + zG.fdiv 8) 64)).length = ws.length)
  k_dflt (refine' enter_def [(Str.ofString "state", .ref S), (Str.ofString "instruction", .ref I)] ?k1 ?k2 ?k3 ?k4 ?k5 ?kA ?kF ?kK ?k6 ?k7 ?k8 ?k9 ?kB ?_ ?c2 ?c3 ?c4 ?c5; k_extra "en")
  k_steps
  exact ret _ _ _ (by k_asm) (news_of (by k_asm) fun p hp => (hu _ p).mp hp) (by assumption)
theorem c_dpopM {S R Xm Fl Me Sg : Addr} {rip : Int} {trip tbg : Tok} {dS : Addr} {hS0 hS1 hS2 hS3 hS4 hS5 hS6 hS7 hS8 : Int} {kS0 kS1 kS2 kS3 kS4 kS5 kS6 kS7 kS8 : Tok} {vsR : List Value} {ws : List Int} {nR : Nat} {H : Addr} {dMe : Addr} {hMe0 : Int} {kMe0 : Tok} {oH : Obj} {c : List (Int × Int)} {G : Addr} {wG : Str} {iG zG : Int} {uG0 uG1 uG2 uG3 : Tok} {dG : Addr} {hG0 hG1 hG2 hG3 : Int} {kG0 kG1 kG2 kG3 : Tok} {O : Addr} {scO eO szO : Int} {uO0 uO1 uO2 uO3 uO4 uO5 : Tok} {dO : Addr} {hO0 hO1 hO2 hO3 hO4 hO5 hO6 hO7 : Int} {kO0 kO1 kO2 kO3 kO4 kO5 kO6 kO7 : Tok} {I Tp : Addr} {uI0 uI1 : Tok} {nTp : Nat} {dI : Addr} {hI0 hI1 hI2 : Int} {kI0 kI1 kI2 : Tok} {u1 : Obj → List (Addr × Obj)} {u : Obj → Obj → List (Addr × Obj)} (U1 : UpdF R (listOf vsR.toArray nR) news u1) (U : ∀ o, UpdF H oH (u1 o) (u o)) (hdp : dp + 18 < recursionLimit) (h1 : ws.length = 16) (i0 : 0 ≤ iG) (i1 : iG < 16) (z0 : 0 ≤ zG) (z1 : zG ≤ 64) (s0 : 0 < szO) (s1 : szO ≤ 64) (hc : c.length ≤ 100000) (mSa : ∀ o o2, (S, instObj 546 dS) ∈ u o o2) (mSb : ∀ o o2, (dS, dictOf [⟨hS0, .str (Str.ofString "iset") kS0, .none⟩, ⟨hS1, .str (Str.ofString "regs") kS1, .ref R⟩, ⟨hS2, .str (Str.ofString "xmm") kS2, .ref Xm⟩, ⟨hS3, .str (Str.ofString "flags") kS3, .ref Fl⟩, ⟨hS4, .str (Str.ofString "memory") kS4, .ref Me⟩, ⟨hS5, .str (Str.ofString "rip") kS5, .int rip trip⟩, ⟨hS6, .str (Str.ofString "begin") kS6, .int 0 tbg⟩, ⟨hS7, .str (Str.ofString "segments") kS7, .ref Sg⟩, ⟨hS8, .str (Str.ofString "is_halted") kS8, .bool false⟩] 9) ∈ u o o2) (iR : IntsAre vsR ws) (mMea : ∀ o o2, (Me, instObj 429 dMe) ∈ u o o2) (mMeb : ∀ o o2, (dMe, dictOf [⟨hMe0, .str (Str.ofString "held") kMe0, .ref H⟩] 1) ∈ u o o2) (D : DI w H oH c) (mGa : ∀ o o2, (G, instObj 314 dG) ∈ u o o2) (mGb : ∀ o o2, (dG, dictOf [⟨hG0, .str (Str.ofString "name") kG0, .str wG uG0⟩, ⟨hG1, .str (Str.ofString "kind") kG1, .str (Str.ofString "gpr") uG1⟩, ⟨hG2, .str (Str.ofString "number") kG2, .int iG uG2⟩, ⟨hG3, .str (Str.ofString "size") kG3, .int zG uG3⟩] 4) ∈ u o o2) (mOa : ∀ o o2, (O, instObj 751 dO) ∈ u o o2) (mOb : ∀ o o2, (dO, dictOf [⟨hO0, .str (Str.ofString "kind") kO0, .str (Str.ofString "mem") uO0⟩, ⟨hO1, .str (Str.ofString "base") kO1, .ref G⟩, ⟨hO2, .str (Str.ofString "index") kO2, .none⟩, ⟨hO3, .str (Str.ofString "scale") kO3, .int scO uO1⟩, ⟨hO4, .str (Str.ofString "worth") kO4, .int eO uO2⟩, ⟨hO5, .str (Str.ofString "size") kO5, .int szO uO3⟩, ⟨hO6, .str (Str.ofString "segment") kO6, .str (Str.ofString "") uO4⟩, ⟨hO7, .str (Str.ofString "name") kO7, .str (Str.ofString "") uO5⟩] 8) ∈ u o o2) (mIa : ∀ o o2, (I, instObj 804 dI) ∈ u o o2) (mIb : ∀ o o2, (dI, dictOf [⟨hI0, .str (Str.ofString "name") kI0, .str (Str.ofString "pop") uI0⟩, ⟨hI1, .str (Str.ofString "operands") kI1, .ref Tp⟩, ⟨hI2, .str (Str.ofString "prefix") kI2, .str (Str.ofString "") uI1⟩] 3) ∈ u o o2) (mTp : ∀ o o2, (Tp, { cls := .type "tuple", data := .seq (List.toArray [.ref O]) nTp }) ∈ u o o2)
    (ret : ∀ h' tk' vs' o', Fr h₀ L h' m → News h₀ L h' (u (listOf vs'.toArray nR) o') → IntsAre vs' (ws.set 4 (low (ws.getD 4 0 + szO.fdiv 8) 64)) → DI w H o' (wrM c (low (low (eO + low ((ws.set 4 (low (ws.getD 4 0 + szO.fdiv 8) 64)).getD iG.toNat 0) zG) 64 + 0) 64) (rdM c (ws.getD 4 0) (szO.fdiv 8).toNat) (szO.fdiv 8).toNat) → Q (.bool true) ⟨h', stG, stD, tk', stO⟩) :
    wpAny (model PySem.Challenge.rw_nn0065_01.row.prog w) (ktrTop dp un gd cn cs L a ccd cl outer) (call (.ref 234) [.ref S, .ref I]) Q E ⟨stH, stG, stD, stT, stO⟩ := by
  obtain ⟨rest, hRH, hoR, hoH, hu, hn⟩ := upd_open2 U1 U
  replace mSa := upd_rest2 hu mSa
  replace mSb := upd_rest2 hu mSb
  replace mMea := upd_rest2 hu mMea
  replace mMeb := upd_rest2 hu mMeb
  replace mGa := upd_rest2 hu mGa
  replace mGb := upd_rest2 hu mGb
  replace mOa := upd_rest2 hu mOa
  replace mOb := upd_rest2 hu mOb
  replace mIa := upd_rest2 hu mIa
  replace mIb := upd_rest2 hu mIb
  replace mTp := upd_rest2 hu mTp
  replace N := news_of N (fun p hp => (hn p).mpr hp)
  clear U1 U hn
  have hfd := fdiv8 szO
  have hlen := (List.length_set .. : (ws.set 4 (low (ws.getD 4 0 + szO.fdiv 8) 64)).length = ws.length)
  k_dflt (refine' enter_def [(Str.ofString "state", .ref S), (Str.ofString "instruction", .ref I)] ?k1 ?k2 ?k3 ?k4 ?k5 ?kA ?kF ?kK ?k6 ?k7 ?k8 ?k9 ?kB ?_ ?c2 ?c3 ?c4 ?c5; k_extra "en")
  k_steps
  exact ret _ _ _ _ (by k_asm) (news_of (by k_asm) fun p hp => (hu _ _ p).mp hp) (by assumption) (by assumption)
theorem c_dpushf {S R Xm Fl Me Sg : Addr} {rip : Int} {trip tbg : Tok} {dS : Addr} {hS0 hS1 hS2 hS3 hS4 hS5 hS6 hS7 hS8 : Int} {kS0 kS1 kS2 kS3 kS4 kS5 kS6 kS7 kS8 : Tok} {vsR : List Value} {ws : List Int} {nR : Nat} {H : Addr} {dMe : Addr} {hMe0 : Int} {kMe0 : Tok} {oH : Obj} {c : List (Int × Int)} {b0 b1 b2 b3 b4 b5 b6 : Int} {tf0 tf1 tf2 tf3 tf4 tf5 tf6 : Tok} {dFl : Addr} {hFl0 hFl1 hFl2 hFl3 hFl4 hFl5 hFl6 : Int} {kFl0 kFl1 kFl2 kFl3 kFl4 kFl5 kFl6 : Tok} {I Tp : Addr} {uI0 uI1 : Tok} {nTp : Nat} {dI : Addr} {hI0 hI1 hI2 : Int} {kI0 kI1 kI2 : Tok} {u1 : Obj → List (Addr × Obj)} {u : Obj → Obj → List (Addr × Obj)} (U1 : UpdF R (listOf vsR.toArray nR) news u1) (U : ∀ o, UpdF H oH (u1 o) (u o)) (hdp : dp + 18 < recursionLimit) (h1 : ws.length = 16) (hb : BitsOK b0 b1 b2 b3 b4 b5 b6) (hc : c.length ≤ 100000) (mSa : ∀ o o2, (S, instObj 546 dS) ∈ u o o2) (mSb : ∀ o o2, (dS, dictOf [⟨hS0, .str (Str.ofString "iset") kS0, .none⟩, ⟨hS1, .str (Str.ofString "regs") kS1, .ref R⟩, ⟨hS2, .str (Str.ofString "xmm") kS2, .ref Xm⟩, ⟨hS3, .str (Str.ofString "flags") kS3, .ref Fl⟩, ⟨hS4, .str (Str.ofString "memory") kS4, .ref Me⟩, ⟨hS5, .str (Str.ofString "rip") kS5, .int rip trip⟩, ⟨hS6, .str (Str.ofString "begin") kS6, .int 0 tbg⟩, ⟨hS7, .str (Str.ofString "segments") kS7, .ref Sg⟩, ⟨hS8, .str (Str.ofString "is_halted") kS8, .bool false⟩] 9) ∈ u o o2) (iR : IntsAre vsR ws) (mMea : ∀ o o2, (Me, instObj 429 dMe) ∈ u o o2) (mMeb : ∀ o o2, (dMe, dictOf [⟨hMe0, .str (Str.ofString "held") kMe0, .ref H⟩] 1) ∈ u o o2) (D : DI w H oH c) (mFla : ∀ o o2, (Fl, instObj 174 dFl) ∈ u o o2) (mFlb : ∀ o o2, (dFl, dictOf [⟨hFl0, .str (Str.ofString "cf") kFl0, .int b0 tf0⟩, ⟨hFl1, .str (Str.ofString "pf") kFl1, .int b1 tf1⟩, ⟨hFl2, .str (Str.ofString "af") kFl2, .int b2 tf2⟩, ⟨hFl3, .str (Str.ofString "zf") kFl3, .int b3 tf3⟩, ⟨hFl4, .str (Str.ofString "sf") kFl4, .int b4 tf4⟩, ⟨hFl5, .str (Str.ofString "of") kFl5, .int b5 tf5⟩, ⟨hFl6, .str (Str.ofString "df") kFl6, .int b6 tf6⟩] 7) ∈ u o o2) (mIa : ∀ o o2, (I, instObj 804 dI) ∈ u o o2) (mIb : ∀ o o2, (dI, dictOf [⟨hI0, .str (Str.ofString "name") kI0, .str (Str.ofString "pushfq") uI0⟩, ⟨hI1, .str (Str.ofString "operands") kI1, .ref Tp⟩, ⟨hI2, .str (Str.ofString "prefix") kI2, .str (Str.ofString "") uI1⟩] 3) ∈ u o o2) (mTp : ∀ o o2, (Tp, { cls := .type "tuple", data := .seq (List.toArray []) nTp }) ∈ u o o2)
    (ret : ∀ h' tk' vs' o', Fr h₀ L h' m → News h₀ L h' (u (listOf vs'.toArray nR) o') → IntsAre vs' (ws.set 4 (low (ws.getD 4 0 - 8) 64)) → DI w H o' (wrM c (low (ws.getD 4 0 - 8) 64) (packB b0 b1 b2 b3 b4 b5 b6) (Int.toNat 8)) → Q (.bool true) ⟨h', stG, stD, tk', stO⟩) :
    wpAny (model PySem.Challenge.rw_nn0065_01.row.prog w) (ktrTop dp un gd cn cs L a ccd cl outer) (call (.ref 234) [.ref S, .ref I]) Q E ⟨stH, stG, stD, stT, stO⟩ := by
  obtain ⟨rest, hRH, hoR, hoH, hu, hn⟩ := upd_open2 U1 U
  replace mSa := upd_rest2 hu mSa
  replace mSb := upd_rest2 hu mSb
  replace mMea := upd_rest2 hu mMea
  replace mMeb := upd_rest2 hu mMeb
  replace mFla := upd_rest2 hu mFla
  replace mFlb := upd_rest2 hu mFlb
  replace mIa := upd_rest2 hu mIa
  replace mIb := upd_rest2 hu mIb
  replace mTp := upd_rest2 hu mTp
  replace N := news_of N (fun p hp => (hn p).mpr hp)
  clear U1 U hn
  k_dflt (refine' enter_def [(Str.ofString "state", .ref S), (Str.ofString "instruction", .ref I)] ?k1 ?k2 ?k3 ?k4 ?k5 ?kA ?kF ?kK ?k6 ?k7 ?k8 ?k9 ?kB ?_ ?c2 ?c3 ?c4 ?c5; k_extra "en")
  k_steps
  exact ret _ _ _ _ (by k_asm) (news_of (by k_asm) fun p hp => (hu _ _ p).mp hp) (by assumption) (by assumption)
theorem c_dleave {S R Xm Fl Me Sg : Addr} {rip : Int} {trip tbg : Tok} {dS : Addr} {hS0 hS1 hS2 hS3 hS4 hS5 hS6 hS7 hS8 : Int} {kS0 kS1 kS2 kS3 kS4 kS5 kS6 kS7 kS8 : Tok} {vsR : List Value} {ws : List Int} {nR : Nat} {H : Addr} {dMe : Addr} {hMe0 : Int} {kMe0 : Tok} {oH : Obj} {c : List (Int × Int)} {I Tp : Addr} {uI0 uI1 : Tok} {nTp : Nat} {dI : Addr} {hI0 hI1 hI2 : Int} {kI0 kI1 kI2 : Tok} {u : Obj → List (Addr × Obj)} (U : UpdF R (listOf vsR.toArray nR) news u) (hdp : dp + 18 < recursionLimit) (h1 : ws.length = 16)  (mSa : ∀ o, (S, instObj 546 dS) ∈ u o) (mSb : ∀ o, (dS, dictOf [⟨hS0, .str (Str.ofString "iset") kS0, .none⟩, ⟨hS1, .str (Str.ofString "regs") kS1, .ref R⟩, ⟨hS2, .str (Str.ofString "xmm") kS2, .ref Xm⟩, ⟨hS3, .str (Str.ofString "flags") kS3, .ref Fl⟩, ⟨hS4, .str (Str.ofString "memory") kS4, .ref Me⟩, ⟨hS5, .str (Str.ofString "rip") kS5, .int rip trip⟩, ⟨hS6, .str (Str.ofString "begin") kS6, .int 0 tbg⟩, ⟨hS7, .str (Str.ofString "segments") kS7, .ref Sg⟩, ⟨hS8, .str (Str.ofString "is_halted") kS8, .bool false⟩] 9) ∈ u o) (iR : IntsAre vsR ws) (mMea : ∀ o, (Me, instObj 429 dMe) ∈ u o) (mMeb : ∀ o, (dMe, dictOf [⟨hMe0, .str (Str.ofString "held") kMe0, .ref H⟩] 1) ∈ u o) (mH : ∀ o, (H, oH) ∈ u o) (D : DI w H oH c) (mIa : ∀ o, (I, instObj 804 dI) ∈ u o) (mIb : ∀ o, (dI, dictOf [⟨hI0, .str (Str.ofString "name") kI0, .str (Str.ofString "leave") uI0⟩, ⟨hI1, .str (Str.ofString "operands") kI1, .ref Tp⟩, ⟨hI2, .str (Str.ofString "prefix") kI2, .str (Str.ofString "") uI1⟩] 3) ∈ u o) (mTp : ∀ o, (Tp, { cls := .type "tuple", data := .seq (List.toArray []) nTp }) ∈ u o)
    (ret : ∀ h' tk' vs', Fr h₀ L h' m → News h₀ L h' (u (listOf vs'.toArray nR)) → IntsAre vs' (((ws.set 4 (ws.getD 5 0)).set 4 (low ((ws.set 4 (ws.getD 5 0)).getD 4 0 + 8) 64)).set 5 (rdM c ((ws.set 4 (ws.getD 5 0)).getD 4 0) (Int.toNat 8))) → Q (.bool true) ⟨h', stG, stD, tk', stO⟩) :
    wpAny (model PySem.Challenge.rw_nn0065_01.row.prog w) (ktrTop dp un gd cn cs L a ccd cl outer) (call (.ref 234) [.ref S, .ref I]) Q E ⟨stH, stG, stD, stT, stO⟩ := by
  obtain ⟨rest, hoR, hu, hn⟩ := upd_open U
  replace mSa := upd_rest hu mSa
  replace mSb := upd_rest hu mSb
  replace mMea := upd_rest hu mMea
  replace mMeb := upd_rest hu mMeb
  replace mH := upd_rest hu mH
  replace mIa := upd_rest hu mIa
  replace mIb := upd_rest hu mIb
  replace mTp := upd_rest hu mTp
  replace N := news_of N (fun p hp => (hn p).mpr hp)
  clear U hn
  k_dflt (refine' enter_def [(Str.ofString "state", .ref S), (Str.ofString "instruction", .ref I)] ?k1 ?k2 ?k3 ?k4 ?k5 ?kA ?kF ?kK ?k6 ?k7 ?k8 ?k9 ?kB ?_ ?c2 ?c3 ?c4 ?c5; k_extra "en")
  k_steps
  exact ret _ _ _ (by k_asm) (news_of (by k_asm) fun p hp => (hu _ p).mp hp) (by assumption)
theorem c_dpopf {S R Xm Fl Me Sg : Addr} {rip : Int} {trip tbg : Tok} {dS : Addr} {hS0 hS1 hS2 hS3 hS4 hS5 hS6 hS7 hS8 : Int} {kS0 kS1 kS2 kS3 kS4 kS5 kS6 kS7 kS8 : Tok} {vsR : List Value} {ws : List Int} {nR : Nat} {H : Addr} {dMe : Addr} {hMe0 : Int} {kMe0 : Tok} {oH : Obj} {c : List (Int × Int)} {b0 b1 b2 b3 b4 b5 b6 : Int} {tf0 tf1 tf2 tf3 tf4 tf5 tf6 : Tok} {dFl : Addr} {hFl0 hFl1 hFl2 hFl3 hFl4 hFl5 hFl6 : Int} {kFl0 kFl1 kFl2 kFl3 kFl4 kFl5 kFl6 : Tok} {I Tp : Addr} {uI0 uI1 : Tok} {nTp : Nat} {dI : Addr} {hI0 hI1 hI2 : Int} {kI0 kI1 kI2 : Tok} {u1 : Obj → List (Addr × Obj)} {u : Obj → Obj → List (Addr × Obj)} (U1 : UpdF R (listOf vsR.toArray nR) news u1) (U : ∀ o, UpdF dFl (dictOf [⟨hFl0, .str (Str.ofString "cf") kFl0, .int b0 tf0⟩, ⟨hFl1, .str (Str.ofString "pf") kFl1, .int b1 tf1⟩, ⟨hFl2, .str (Str.ofString "af") kFl2, .int b2 tf2⟩, ⟨hFl3, .str (Str.ofString "zf") kFl3, .int b3 tf3⟩, ⟨hFl4, .str (Str.ofString "sf") kFl4, .int b4 tf4⟩, ⟨hFl5, .str (Str.ofString "of") kFl5, .int b5 tf5⟩, ⟨hFl6, .str (Str.ofString "df") kFl6, .int b6 tf6⟩] 7) (u1 o) (u o)) (hdp : dp + 18 < recursionLimit) (h1 : ws.length = 16) (mSa : ∀ o o2, (S, instObj 546 dS) ∈ u o o2) (mSb : ∀ o o2, (dS, dictOf [⟨hS0, .str (Str.ofString "iset") kS0, .none⟩, ⟨hS1, .str (Str.ofString "regs") kS1, .ref R⟩, ⟨hS2, .str (Str.ofString "xmm") kS2, .ref Xm⟩, ⟨hS3, .str (Str.ofString "flags") kS3, .ref Fl⟩, ⟨hS4, .str (Str.ofString "memory") kS4, .ref Me⟩, ⟨hS5, .str (Str.ofString "rip") kS5, .int rip trip⟩, ⟨hS6, .str (Str.ofString "begin") kS6, .int 0 tbg⟩, ⟨hS7, .str (Str.ofString "segments") kS7, .ref Sg⟩, ⟨hS8, .str (Str.ofString "is_halted") kS8, .bool false⟩] 9) ∈ u o o2) (iR : IntsAre vsR ws) (mMea : ∀ o o2, (Me, instObj 429 dMe) ∈ u o o2) (mMeb : ∀ o o2, (dMe, dictOf [⟨hMe0, .str (Str.ofString "held") kMe0, .ref H⟩] 1) ∈ u o o2) (mH : ∀ o o2, (H, oH) ∈ u o o2) (D : DI w H oH c) (mFla : ∀ o o2, (Fl, instObj 174 dFl) ∈ u o o2) (mIa : ∀ o o2, (I, instObj 804 dI) ∈ u o o2) (mIb : ∀ o o2, (dI, dictOf [⟨hI0, .str (Str.ofString "name") kI0, .str (Str.ofString "popfq") uI0⟩, ⟨hI1, .str (Str.ofString "operands") kI1, .ref Tp⟩, ⟨hI2, .str (Str.ofString "prefix") kI2, .str (Str.ofString "") uI1⟩] 3) ∈ u o o2) (mTp : ∀ o o2, (Tp, { cls := .type "tuple", data := .seq (List.toArray []) nTp }) ∈ u o o2)
    (ret : ∀ h' tk' vs' t0 t1 t2 t3 t4 t5 t6, Fr h₀ L h' m → News h₀ L h' (u (listOf vs'.toArray nR) (dictOf [⟨hFl0, .str (Str.ofString "cf") kFl0, .int (bitZ (rdM c (ws.getD 4 0) (Int.toNat 8)) 0) t0⟩, ⟨hFl1, .str (Str.ofString "pf") kFl1, .int (bitZ (rdM c (ws.getD 4 0) (Int.toNat 8)) 2) t1⟩, ⟨hFl2, .str (Str.ofString "af") kFl2, .int (bitZ (rdM c (ws.getD 4 0) (Int.toNat 8)) 4) t2⟩, ⟨hFl3, .str (Str.ofString "zf") kFl3, .int (bitZ (rdM c (ws.getD 4 0) (Int.toNat 8)) 6) t3⟩, ⟨hFl4, .str (Str.ofString "sf") kFl4, .int (bitZ (rdM c (ws.getD 4 0) (Int.toNat 8)) 7) t4⟩, ⟨hFl5, .str (Str.ofString "of") kFl5, .int (bitZ (rdM c (ws.getD 4 0) (Int.toNat 8)) 11) t5⟩, ⟨hFl6, .str (Str.ofString "df") kFl6, .int (bitZ (rdM c (ws.getD 4 0) (Int.toNat 8)) 10) t6⟩] 7)) → IntsAre vs' (ws.set 4 (low (ws.getD 4 0 + 8) 64)) → Q (.bool true) ⟨h', stG, stD, tk', stO⟩) :
    wpAny (model PySem.Challenge.rw_nn0065_01.row.prog w) (ktrTop dp un gd cn cs L a ccd cl outer) (call (.ref 234) [.ref S, .ref I]) Q E ⟨stH, stG, stD, stT, stO⟩ := by
  obtain ⟨rest, hRH, hoR, hoH, hu, hn⟩ := upd_open2 U1 U
  replace mSa := upd_rest2 hu mSa
  replace mSb := upd_rest2 hu mSb
  replace mMea := upd_rest2 hu mMea
  replace mMeb := upd_rest2 hu mMeb
  replace mH := upd_rest2 hu mH
  replace mFla := upd_rest2 hu mFla
  replace mIa := upd_rest2 hu mIa
  replace mIb := upd_rest2 hu mIb
  replace mTp := upd_rest2 hu mTp
  replace N := news_of N (fun p hp => (hn p).mpr hp)
  clear U1 U hn
  k_dflt (refine' enter_def [(Str.ofString "state", .ref S), (Str.ofString "instruction", .ref I)] ?k1 ?k2 ?k3 ?k4 ?k5 ?kA ?kF ?kK ?k6 ?k7 ?k8 ?k9 ?kB ?_ ?c2 ?c3 ?c4 ?c5; k_extra "en")
  k_steps
  (rename News h₀ L _ _ => N9)
  exact ret _ _ _ _ _ _ _ _ _ _ (by k_asm) (news_of N9 fun p hp => (hu _ _ p).mp hp) (by assumption)

end
section
variable {w : World} {dp un : Nat} {gd : Option (List Code)} {cn : Str} {cs : Scope} {a : Addr} {ccd : Value} {cl : List (Str × Addr)} {outer : List Env} {A₀ : Around} {base h₀ : Heap} {L : Addr} {m : Str → Option Value} {stH : Heap} {stG : Array GenState} {stD : Drawn} {stT : Nat} {stO : OsState} {Q E : Value → Shared → Prop} {p : Program} {loose : List Str} {mean : ExcName → Option Value} {mg mb : Str → Option Value} {news : List (Addr × Obj)}
    (B : Below A₀ base outer h₀) (F : Fr h₀ L stH m) (X : (hd.heap_39 w.params).In h₀) (T : Top p loose mean mg mb h₀) (hk : cs.kind = .function) (N : News h₀ L stH news)
include B F X T hk N
theorem c_dmov {S R Xm Fl Me Sg : Addr} {rip : Int} {trip tbg : Tok} {dS : Addr} {hS0 hS1 hS2 hS3 hS4 hS5 hS6 hS7 hS8 : Int} {kS0 kS1 kS2 kS3 kS4 kS5 kS6 kS7 kS8 : Tok} {vsR : List Value} {ws : List Int} {nR : Nat} {G : Addr} {wG : Str} {iG zG : Int} {uG0 uG1 uG2 uG3 : Tok} {dG : Addr} {hG0 hG1 hG2 hG3 : Int} {kG0 kG1 kG2 kG3 : Tok} {J : Addr} {wJ : Str} {iJ zJ : Int} {uJ0 uJ1 uJ2 uJ3 : Tok} {dJ : Addr} {hJ0 hJ1 hJ2 hJ3 : Int} {kJ0 kJ1 kJ2 kJ3 : Tok} {O : Addr} {uO0 : Tok} {dO : Addr} {hO0 hO1 : Int} {kO0 kO1 : Tok} {P : Addr} {uP0 : Tok} {dP : Addr} {hP0 hP1 : Int} {kP0 kP1 : Tok} {I Tp : Addr} {uI0 uI1 : Tok} {nTp : Nat} {dI : Addr} {hI0 hI1 hI2 : Int} {kI0 kI1 kI2 : Tok} {u : Obj → List (Addr × Obj)} (U : UpdF R (listOf vsR.toArray nR) news u) (hdp : dp + 18 < recursionLimit) (h1 : ws.length = 16) (i0 : 0 ≤ iG) (i1 : iG < 16) (z0 : 0 ≤ zG) (z1 : zG ≤ 64) (j0 : 0 ≤ iJ) (j1 : iJ < 16) (y0 : 0 ≤ zJ) (y1 : zJ ≤ 64) (mSa : ∀ o, (S, instObj 546 dS) ∈ u o) (mSb : ∀ o, (dS, dictOf [⟨hS0, .str (Str.ofString "iset") kS0, .none⟩, ⟨hS1, .str (Str.ofString "regs") kS1, .ref R⟩, ⟨hS2, .str (Str.ofString "xmm") kS2, .ref Xm⟩, ⟨hS3, .str (Str.ofString "flags") kS3, .ref Fl⟩, ⟨hS4, .str (Str.ofString "memory") kS4, .ref Me⟩, ⟨hS5, .str (Str.ofString "rip") kS5, .int rip trip⟩, ⟨hS6, .str (Str.ofString "begin") kS6, .int 0 tbg⟩, ⟨hS7, .str (Str.ofString "segments") kS7, .ref Sg⟩, ⟨hS8, .str (Str.ofString "is_halted") kS8, .bool false⟩] 9) ∈ u o) (iR : IntsAre vsR ws) (mGa : ∀ o, (G, instObj 314 dG) ∈ u o) (mGb : ∀ o, (dG, dictOf [⟨hG0, .str (Str.ofString "name") kG0, .str wG uG0⟩, ⟨hG1, .str (Str.ofString "kind") kG1, .str (Str.ofString "gpr") uG1⟩, ⟨hG2, .str (Str.ofString "number") kG2, .int iG uG2⟩, ⟨hG3, .str (Str.ofString "size") kG3, .int zG uG3⟩] 4) ∈ u o) (mJa : ∀ o, (J, instObj 314 dJ) ∈ u o) (mJb : ∀ o, (dJ, dictOf [⟨hJ0, .str (Str.ofString "name") kJ0, .str wJ uJ0⟩, ⟨hJ1, .str (Str.ofString "kind") kJ1, .str (Str.ofString "gpr") uJ1⟩, ⟨hJ2, .str (Str.ofString "number") kJ2, .int iJ uJ2⟩, ⟨hJ3, .str (Str.ofString "size") kJ3, .int zJ uJ3⟩] 4) ∈ u o) (mOa : ∀ o, (O, instObj 623 dO) ∈ u o) (mOb : ∀ o, (dO, dictOf [⟨hO0, .str (Str.ofString "kind") kO0, .str (Str.ofString "reg") uO0⟩, ⟨hO1, .str (Str.ofString "register") kO1, .ref G⟩] 2) ∈ u o) (mPa : ∀ o, (P, instObj 623 dP) ∈ u o) (mPb : ∀ o, (dP, dictOf [⟨hP0, .str (Str.ofString "kind") kP0, .str (Str.ofString "reg") uP0⟩, ⟨hP1, .str (Str.ofString "register") kP1, .ref J⟩] 2) ∈ u o) (mIa : ∀ o, (I, instObj 804 dI) ∈ u o) (mIb : ∀ o, (dI, dictOf [⟨hI0, .str (Str.ofString "name") kI0, .str (Str.ofString "mov") uI0⟩, ⟨hI1, .str (Str.ofString "operands") kI1, .ref Tp⟩, ⟨hI2, .str (Str.ofString "prefix") kI2, .str (Str.ofString "") uI1⟩] 3) ∈ u o) (mTp : ∀ o, (Tp, { cls := .type "tuple", data := .seq (List.toArray [.ref O, .ref P]) nTp }) ∈ u o)
    (ret : ∀ h' tk' vs', Fr h₀ L h' m → News h₀ L h' (u (listOf vs'.toArray nR)) → IntsAre vs' (ws.set iG.toNat (joinedZ (ws.getD iG.toNat 0) (low (low (low (ws.getD iJ.toNat 0) zJ) zG) zG) zG)) → Q (.bool true) ⟨h', stG, stD, tk', stO⟩) :
    wpAny (model PySem.Challenge.rw_nn0065_01.row.prog w) (ktrTop dp un gd cn cs L a ccd cl outer) (call (.ref 213) [.ref S, .ref I]) Q E ⟨stH, stG, stD, stT, stO⟩ := by
  obtain ⟨rest, hoR, hu, hn⟩ := upd_open U
  replace mSa := upd_rest hu mSa
  replace mSb := upd_rest hu mSb
  replace mGa := upd_rest hu mGa
  replace mGb := upd_rest hu mGb
  replace mJa := upd_rest hu mJa
  replace mJb := upd_rest hu mJb
  replace mOa := upd_rest hu mOa
  replace mOb := upd_rest hu mOb
  replace mPa := upd_rest hu mPa
  replace mPb := upd_rest hu mPb
  replace mIa := upd_rest hu mIa
  replace mIb := upd_rest hu mIb
  replace mTp := upd_rest hu mTp
  replace N := news_of N (fun p hp => (hn p).mpr hp)
  clear U hn
  k_dflt (refine' enter_def [(Str.ofString "state", .ref S), (Str.ofString "instruction", .ref I)] ?k1 ?k2 ?k3 ?k4 ?k5 ?kA ?kF ?kK ?k6 ?k7 ?k8 ?k9 ?kB ?_ ?c2 ?c3 ?c4 ?c5; k_extra "en")
  k_steps
  exact ret _ _ _ (by k_asm) (news_of (by k_asm) fun p hp => (hu _ p).mp hp) (by assumption)
theorem c_dxchg {S R Xm Fl Me Sg : Addr} {rip : Int} {trip tbg : Tok} {dS : Addr} {hS0 hS1 hS2 hS3 hS4 hS5 hS6 hS7 hS8 : Int} {kS0 kS1 kS2 kS3 kS4 kS5 kS6 kS7 kS8 : Tok} {vsR : List Value} {ws : List Int} {nR : Nat} {G : Addr} {wG : Str} {iG zG : Int} {uG0 uG1 uG2 uG3 : Tok} {dG : Addr} {hG0 hG1 hG2 hG3 : Int} {kG0 kG1 kG2 kG3 : Tok} {J : Addr} {wJ : Str} {iJ zJ : Int} {uJ0 uJ1 uJ2 uJ3 : Tok} {dJ : Addr} {hJ0 hJ1 hJ2 hJ3 : Int} {kJ0 kJ1 kJ2 kJ3 : Tok} {O : Addr} {uO0 : Tok} {dO : Addr} {hO0 hO1 : Int} {kO0 kO1 : Tok} {P : Addr} {uP0 : Tok} {dP : Addr} {hP0 hP1 : Int} {kP0 kP1 : Tok} {I Tp : Addr} {uI0 uI1 : Tok} {nTp : Nat} {dI : Addr} {hI0 hI1 hI2 : Int} {kI0 kI1 kI2 : Tok} {u : Obj → List (Addr × Obj)} (U : UpdF R (listOf vsR.toArray nR) news u) (hdp : dp + 18 < recursionLimit) (h1 : ws.length = 16) (i0 : 0 ≤ iG) (i1 : iG < 16) (z0 : 0 ≤ zG) (z1 : zG ≤ 64) (j0 : 0 ≤ iJ) (j1 : iJ < 16) (y0 : 0 ≤ zJ) (y1 : zJ ≤ 64) (mSa : ∀ o, (S, instObj 546 dS) ∈ u o) (mSb : ∀ o, (dS, dictOf [⟨hS0, .str (Str.ofString "iset") kS0, .none⟩, ⟨hS1, .str (Str.ofString "regs") kS1, .ref R⟩, ⟨hS2, .str (Str.ofString "xmm") kS2, .ref Xm⟩, ⟨hS3, .str (Str.ofString "flags") kS3, .ref Fl⟩, ⟨hS4, .str (Str.ofString "memory") kS4, .ref Me⟩, ⟨hS5, .str (Str.ofString "rip") kS5, .int rip trip⟩, ⟨hS6, .str (Str.ofString "begin") kS6, .int 0 tbg⟩, ⟨hS7, .str (Str.ofString "segments") kS7, .ref Sg⟩, ⟨hS8, .str (Str.ofString "is_halted") kS8, .bool false⟩] 9) ∈ u o) (iR : IntsAre vsR ws) (mGa : ∀ o, (G, instObj 314 dG) ∈ u o) (mGb : ∀ o, (dG, dictOf [⟨hG0, .str (Str.ofString "name") kG0, .str wG uG0⟩, ⟨hG1, .str (Str.ofString "kind") kG1, .str (Str.ofString "gpr") uG1⟩, ⟨hG2, .str (Str.ofString "number") kG2, .int iG uG2⟩, ⟨hG3, .str (Str.ofString "size") kG3, .int zG uG3⟩] 4) ∈ u o) (mJa : ∀ o, (J, instObj 314 dJ) ∈ u o) (mJb : ∀ o, (dJ, dictOf [⟨hJ0, .str (Str.ofString "name") kJ0, .str wJ uJ0⟩, ⟨hJ1, .str (Str.ofString "kind") kJ1, .str (Str.ofString "gpr") uJ1⟩, ⟨hJ2, .str (Str.ofString "number") kJ2, .int iJ uJ2⟩, ⟨hJ3, .str (Str.ofString "size") kJ3, .int zJ uJ3⟩] 4) ∈ u o) (mOa : ∀ o, (O, instObj 623 dO) ∈ u o) (mOb : ∀ o, (dO, dictOf [⟨hO0, .str (Str.ofString "kind") kO0, .str (Str.ofString "reg") uO0⟩, ⟨hO1, .str (Str.ofString "register") kO1, .ref G⟩] 2) ∈ u o) (mPa : ∀ o, (P, instObj 623 dP) ∈ u o) (mPb : ∀ o, (dP, dictOf [⟨hP0, .str (Str.ofString "kind") kP0, .str (Str.ofString "reg") uP0⟩, ⟨hP1, .str (Str.ofString "register") kP1, .ref J⟩] 2) ∈ u o) (mIa : ∀ o, (I, instObj 804 dI) ∈ u o) (mIb : ∀ o, (dI, dictOf [⟨hI0, .str (Str.ofString "name") kI0, .str (Str.ofString "xchg") uI0⟩, ⟨hI1, .str (Str.ofString "operands") kI1, .ref Tp⟩, ⟨hI2, .str (Str.ofString "prefix") kI2, .str (Str.ofString "") uI1⟩] 3) ∈ u o) (mTp : ∀ o, (Tp, { cls := .type "tuple", data := .seq (List.toArray [.ref O, .ref P]) nTp }) ∈ u o)
    (ret : ∀ h' tk' vs', Fr h₀ L h' m → News h₀ L h' (u (listOf vs'.toArray nR)) → IntsAre vs' ((ws.set iG.toNat (joinedZ (ws.getD iG.toNat 0) (low (low (low (ws.getD iJ.toNat 0) zJ) zG) zG) zG)).set iJ.toNat (joinedZ ((ws.set iG.toNat (joinedZ (ws.getD iG.toNat 0) (low (low (low (ws.getD iJ.toNat 0) zJ) zG) zG) zG)).getD iJ.toNat 0) (low (low (low (ws.getD iG.toNat 0) zG) zG) zJ) zJ)) → Q (.bool true) ⟨h', stG, stD, tk', stO⟩) :
    wpAny (model PySem.Challenge.rw_nn0065_01.row.prog w) (ktrTop dp un gd cn cs L a ccd cl outer) (call (.ref 213) [.ref S, .ref I]) Q E ⟨stH, stG, stD, stT, stO⟩ := by
  obtain ⟨rest, hoR, hu, hn⟩ := upd_open U
  replace mSa := upd_rest hu mSa
  replace mSb := upd_rest hu mSb
  replace mGa := upd_rest hu mGa
  replace mGb := upd_rest hu mGb
  replace mJa := upd_rest hu mJa
  replace mJb := upd_rest hu mJb
  replace mOa := upd_rest hu mOa
  replace mOb := upd_rest hu mOb
  replace mPa := upd_rest hu mPa
  replace mPb := upd_rest hu mPb
  replace mIa := upd_rest hu mIa
  replace mIb := upd_rest hu mIb
  replace mTp := upd_rest hu mTp
  replace N := news_of N (fun p hp => (hn p).mpr hp)
  clear U hn
  have hlen := (List.length_set .. : (ws.set iG.toNat (joinedZ (ws.getD iG.toNat 0) (low (low (low (ws.getD iJ.toNat 0) zJ) zG) zG) zG)).length = ws.length)
  k_dflt (refine' enter_def [(Str.ofString "state", .ref S), (Str.ofString "instruction", .ref I)] ?k1 ?k2 ?k3 ?k4 ?k5 ?kA ?kF ?kK ?k6 ?k7 ?k8 ?k9 ?kB ?_ ?c2 ?c3 ?c4 ?c5; k_extra "en")
  k_steps
  exact ret _ _ _ (by k_asm) (news_of (by k_asm) fun p hp => (hu _ p).mp hp) (by assumption)
theorem c_dlea {S R Xm Fl Me Sg : Addr} {rip : Int} {trip tbg : Tok} {dS : Addr} {hS0 hS1 hS2 hS3 hS4 hS5 hS6 hS7 hS8 : Int} {kS0 kS1 kS2 kS3 kS4 kS5 kS6 kS7 kS8 : Tok} {vsR : List Value} {ws : List Int} {nR : Nat} {G : Addr} {wG : Str} {iG zG : Int} {uG0 uG1 uG2 uG3 : Tok} {dG : Addr} {hG0 hG1 hG2 hG3 : Int} {kG0 kG1 kG2 kG3 : Tok} {B : Addr} {wB : Str} {iB zB : Int} {uB0 uB1 uB2 uB3 : Tok} {dB : Addr} {hB0 hB1 hB2 hB3 : Int} {kB0 kB1 kB2 kB3 : Tok} {J : Addr} {wJ : Str} {iJ zJ : Int} {uJ0 uJ1 uJ2 uJ3 : Tok} {dJ : Addr} {hJ0 hJ1 hJ2 hJ3 : Int} {kJ0 kJ1 kJ2 kJ3 : Tok} {O : Addr} {uO0 : Tok} {dO : Addr} {hO0 hO1 : Int} {kO0 kO1 : Tok} {P : Addr} {scP eP szP : Int} {uP0 uP1 uP2 uP3 uP4 uP5 : Tok} {dP : Addr} {hP0 hP1 hP2 hP3 hP4 hP5 hP6 hP7 : Int} {kP0 kP1 kP2 kP3 kP4 kP5 kP6 kP7 : Tok} {I Tp : Addr} {uI0 uI1 : Tok} {nTp : Nat} {dI : Addr} {hI0 hI1 hI2 : Int} {kI0 kI1 kI2 : Tok} {u : Obj → List (Addr × Obj)} (U : UpdF R (listOf vsR.toArray nR) news u) (hdp : dp + 18 < recursionLimit) (h1 : ws.length = 16) (i0 : 0 ≤ iG) (i1 : iG < 16) (z0 : 0 ≤ zG) (z1 : zG ≤ 64) (j0 : 0 ≤ iJ) (j1 : iJ < 16) (y0 : 0 ≤ zJ) (y1 : zJ ≤ 64) (b0 : 0 ≤ iB) (b1 : iB < 16) (x0 : 0 ≤ zB) (x1 : zB ≤ 64) (s0 : 0 ≤ scP) (s1 : scP ≤ 8) (mSa : ∀ o, (S, instObj 546 dS) ∈ u o) (mSb : ∀ o, (dS, dictOf [⟨hS0, .str (Str.ofString "iset") kS0, .none⟩, ⟨hS1, .str (Str.ofString "regs") kS1, .ref R⟩, ⟨hS2, .str (Str.ofString "xmm") kS2, .ref Xm⟩, ⟨hS3, .str (Str.ofString "flags") kS3, .ref Fl⟩, ⟨hS4, .str (Str.ofString "memory") kS4, .ref Me⟩, ⟨hS5, .str (Str.ofString "rip") kS5, .int rip trip⟩, ⟨hS6, .str (Str.ofString "begin") kS6, .int 0 tbg⟩, ⟨hS7, .str (Str.ofString "segments") kS7, .ref Sg⟩, ⟨hS8, .str (Str.ofString "is_halted") kS8, .bool false⟩] 9) ∈ u o) (iR : IntsAre vsR ws) (mGa : ∀ o, (G, instObj 314 dG) ∈ u o) (mGb : ∀ o, (dG, dictOf [⟨hG0, .str (Str.ofString "name") kG0, .str wG uG0⟩, ⟨hG1, .str (Str.ofString "kind") kG1, .str (Str.ofString "gpr") uG1⟩, ⟨hG2, .str (Str.ofString "number") kG2, .int iG uG2⟩, ⟨hG3, .str (Str.ofString "size") kG3, .int zG uG3⟩] 4) ∈ u o) (mBa : ∀ o, (B, instObj 314 dB) ∈ u o) (mBb : ∀ o, (dB, dictOf [⟨hB0, .str (Str.ofString "name") kB0, .str wB uB0⟩, ⟨hB1, .str (Str.ofString "kind") kB1, .str (Str.ofString "gpr") uB1⟩, ⟨hB2, .str (Str.ofString "number") kB2, .int iB uB2⟩, ⟨hB3, .str (Str.ofString "size") kB3, .int zB uB3⟩] 4) ∈ u o) (mJa : ∀ o, (J, instObj 314 dJ) ∈ u o) (mJb : ∀ o, (dJ, dictOf [⟨hJ0, .str (Str.ofString "name") kJ0, .str wJ uJ0⟩, ⟨hJ1, .str (Str.ofString "kind") kJ1, .str (Str.ofString "gpr") uJ1⟩, ⟨hJ2, .str (Str.ofString "number") kJ2, .int iJ uJ2⟩, ⟨hJ3, .str (Str.ofString "size") kJ3, .int zJ uJ3⟩] 4) ∈ u o) (mOa : ∀ o, (O, instObj 623 dO) ∈ u o) (mOb : ∀ o, (dO, dictOf [⟨hO0, .str (Str.ofString "kind") kO0, .str (Str.ofString "reg") uO0⟩, ⟨hO1, .str (Str.ofString "register") kO1, .ref G⟩] 2) ∈ u o) (mPa : ∀ o, (P, instObj 751 dP) ∈ u o) (mPb : ∀ o, (dP, dictOf [⟨hP0, .str (Str.ofString "kind") kP0, .str (Str.ofString "mem") uP0⟩, ⟨hP1, .str (Str.ofString "base") kP1, .ref B⟩, ⟨hP2, .str (Str.ofString "index") kP2, .ref J⟩, ⟨hP3, .str (Str.ofString "scale") kP3, .int scP uP1⟩, ⟨hP4, .str (Str.ofString "worth") kP4, .int eP uP2⟩, ⟨hP5, .str (Str.ofString "size") kP5, .int szP uP3⟩, ⟨hP6, .str (Str.ofString "segment") kP6, .str (Str.ofString "") uP4⟩, ⟨hP7, .str (Str.ofString "name") kP7, .str (Str.ofString "") uP5⟩] 8) ∈ u o) (mIa : ∀ o, (I, instObj 804 dI) ∈ u o) (mIb : ∀ o, (dI, dictOf [⟨hI0, .str (Str.ofString "name") kI0, .str (Str.ofString "lea") uI0⟩, ⟨hI1, .str (Str.ofString "operands") kI1, .ref Tp⟩, ⟨hI2, .str (Str.ofString "prefix") kI2, .str (Str.ofString "") uI1⟩] 3) ∈ u o) (mTp : ∀ o, (Tp, { cls := .type "tuple", data := .seq (List.toArray [.ref O, .ref P]) nTp }) ∈ u o)
    (ret : ∀ h' tk' vs', Fr h₀ L h' m → News h₀ L h' (u (listOf vs'.toArray nR)) → IntsAre vs' (ws.set iG.toNat (joinedZ (ws.getD iG.toNat 0) (low (low (eP + low (ws.getD iB.toNat 0) zB + low (ws.getD iJ.toNat 0) zJ * scP) 64) zG) zG)) → Q (.bool true) ⟨h', stG, stD, tk', stO⟩) :
    wpAny (model PySem.Challenge.rw_nn0065_01.row.prog w) (ktrTop dp un gd cn cs L a ccd cl outer) (call (.ref 213) [.ref S, .ref I]) Q E ⟨stH, stG, stD, stT, stO⟩ := by
  obtain ⟨rest, hoR, hu, hn⟩ := upd_open U
  replace mSa := upd_rest hu mSa
  replace mSb := upd_rest hu mSb
  replace mGa := upd_rest hu mGa
  replace mGb := upd_rest hu mGb
  replace mBa := upd_rest hu mBa
  replace mBb := upd_rest hu mBb
  replace mJa := upd_rest hu mJa
  replace mJb := upd_rest hu mJb
  replace mOa := upd_rest hu mOa
  replace mOb := upd_rest hu mOb
  replace mPa := upd_rest hu mPa
  replace mPb := upd_rest hu mPb
  replace mIa := upd_rest hu mIa
  replace mIb := upd_rest hu mIb
  replace mTp := upd_rest hu mTp
  replace N := news_of N (fun p hp => (hn p).mpr hp)
  clear U hn
  k_dflt (refine' enter_def [(Str.ofString "state", .ref S), (Str.ofString "instruction", .ref I)] ?k1 ?k2 ?k3 ?k4 ?k5 ?kA ?kF ?kK ?k6 ?k7 ?k8 ?k9 ?kB ?_ ?c2 ?c3 ?c4 ?c5; k_extra "en")
  k_steps
  exact ret _ _ _ (by k_asm) (news_of (by k_asm) fun p hp => (hu _ p).mp hp) (by assumption)
theorem c_dcallL {S R Xm Fl Me Sg : Addr} {rip : Int} {trip tbg : Tok} {dS : Addr} {hS0 hS1 hS2 hS3 hS4 hS5 hS6 hS7 hS8 : Int} {kS0 kS1 kS2 kS3 kS4 kS5 kS6 kS7 kS8 : Tok} {vsR : List Value} {ws : List Int} {nR : Nat} {H : Addr} {dMe : Addr} {hMe0 : Int} {kMe0 : Tok} {oH : Obj} {c : List (Int × Int)} {O : Addr} {eO : Int} {uO0 uO1 uO2 : Tok} {dO : Addr} {hO0 hO1 hO2 : Int} {kO0 kO1 kO2 : Tok} {I Tp : Addr} {uI0 uI1 : Tok} {nTp : Nat} {dI : Addr} {hI0 hI1 hI2 : Int} {kI0 kI1 kI2 : Tok} {u1 : Obj → List (Addr × Obj)} {u2 : Obj → Obj → List (Addr × Obj)} {u : Obj → Obj → Obj → List (Addr × Obj)} (U1 : UpdF R (listOf vsR.toArray nR) news u1) (U2 : ∀ o, UpdF H oH (u1 o) (u2 o)) (U3 : ∀ o o2, UpdF dS (dictOf [⟨hS0, .str (Str.ofString "iset") kS0, .none⟩, ⟨hS1, .str (Str.ofString "regs") kS1, .ref R⟩, ⟨hS2, .str (Str.ofString "xmm") kS2, .ref Xm⟩, ⟨hS3, .str (Str.ofString "flags") kS3, .ref Fl⟩, ⟨hS4, .str (Str.ofString "memory") kS4, .ref Me⟩, ⟨hS5, .str (Str.ofString "rip") kS5, .int rip trip⟩, ⟨hS6, .str (Str.ofString "begin") kS6, .int 0 tbg⟩, ⟨hS7, .str (Str.ofString "segments") kS7, .ref Sg⟩, ⟨hS8, .str (Str.ofString "is_halted") kS8, .bool false⟩] 9) (u2 o o2) (u o o2)) (hdp : dp + 18 < recursionLimit) (h1 : ws.length = 16)  (hc : c.length ≤ 100000) (qS : (dS, dictOf [⟨hS0, .str (Str.ofString "iset") kS0, .none⟩, ⟨hS1, .str (Str.ofString "regs") kS1, .ref R⟩, ⟨hS2, .str (Str.ofString "xmm") kS2, .ref Xm⟩, ⟨hS3, .str (Str.ofString "flags") kS3, .ref Fl⟩, ⟨hS4, .str (Str.ofString "memory") kS4, .ref Me⟩, ⟨hS5, .str (Str.ofString "rip") kS5, .int rip trip⟩, ⟨hS6, .str (Str.ofString "begin") kS6, .int 0 tbg⟩, ⟨hS7, .str (Str.ofString "segments") kS7, .ref Sg⟩, ⟨hS8, .str (Str.ofString "is_halted") kS8, .bool false⟩] 9) ∈ news) (mSa : ∀ o o2 o3, (S, instObj 546 dS) ∈ u o o2 o3) (iR : IntsAre vsR ws) (mMea : ∀ o o2 o3, (Me, instObj 429 dMe) ∈ u o o2 o3) (mMeb : ∀ o o2 o3, (dMe, dictOf [⟨hMe0, .str (Str.ofString "held") kMe0, .ref H⟩] 1) ∈ u o o2 o3) (D : DI w H oH c) (mOa : ∀ o o2 o3, (O, instObj 698 dO) ∈ u o o2 o3) (mOb : ∀ o o2 o3, (dO, dictOf [⟨hO0, .str (Str.ofString "kind") kO0, .str (Str.ofString "rel") uO0⟩, ⟨hO1, .str (Str.ofString "worth") kO1, .int eO uO1⟩, ⟨hO2, .str (Str.ofString "name") kO2, .str (Str.ofString "") uO2⟩] 3) ∈ u o o2 o3) (mIa : ∀ o o2 o3, (I, instObj 804 dI) ∈ u o o2 o3) (mIb : ∀ o o2 o3, (dI, dictOf [⟨hI0, .str (Str.ofString "name") kI0, .str (Str.ofString "call") uI0⟩, ⟨hI1, .str (Str.ofString "operands") kI1, .ref Tp⟩, ⟨hI2, .str (Str.ofString "prefix") kI2, .str (Str.ofString "") uI1⟩] 3) ∈ u o o2 o3) (mTp : ∀ o o2 o3, (Tp, { cls := .type "tuple", data := .seq (List.toArray [.ref O]) nTp }) ∈ u o o2 o3)
    (ret : ∀ h' tk' vs' o' t', Fr h₀ L h' m → News h₀ L h' (u (listOf vs'.toArray nR) o' (dictOf [⟨hS0, .str (Str.ofString "iset") kS0, .none⟩, ⟨hS1, .str (Str.ofString "regs") kS1, .ref R⟩, ⟨hS2, .str (Str.ofString "xmm") kS2, .ref Xm⟩, ⟨hS3, .str (Str.ofString "flags") kS3, .ref Fl⟩, ⟨hS4, .str (Str.ofString "memory") kS4, .ref Me⟩, ⟨hS5, .str (Str.ofString "rip") kS5, .int (low (rip + eO) 64) t'⟩, ⟨hS6, .str (Str.ofString "begin") kS6, .int 0 tbg⟩, ⟨hS7, .str (Str.ofString "segments") kS7, .ref Sg⟩, ⟨hS8, .str (Str.ofString "is_halted") kS8, .bool false⟩] 9)) → IntsAre vs' (ws.set 4 (low (ws.getD 4 0 - 8) 64)) → DI w H o' (wrM c (low (ws.getD 4 0 - 8) 64) rip (Int.toNat 8)) → Q (.bool true) ⟨h', stG, stD, tk', stO⟩) :
    wpAny (model PySem.Challenge.rw_nn0065_01.row.prog w) (ktrTop dp un gd cn cs L a ccd cl outer) (call (.ref 262) [.ref S, .ref I]) Q E ⟨stH, stG, stD, stT, stO⟩ := by
  obtain ⟨rest, hRH, hRD, hHD, hoR, hoH, hoD, hu, hn⟩ := upd_open3 U1 U2 U3
  replace mSa := upd_rest3 hu mSa
  replace mMea := upd_rest3 hu mMea
  replace mMeb := upd_rest3 hu mMeb
  replace mOa := upd_rest3 hu mOa
  replace mOb := upd_rest3 hu mOb
  replace mIa := upd_rest3 hu mIa
  replace mIb := upd_rest3 hu mIb
  replace mTp := upd_rest3 hu mTp
  replace N := news_of N (fun p hp => (hn p).mpr hp)
  clear U1 U2 U3 hn qS
  k_dflt (refine' enter_def [(Str.ofString "state", .ref S), (Str.ofString "instruction", .ref I)] ?k1 ?k2 ?k3 ?k4 ?k5 ?kA ?kF ?kK ?k6 ?k7 ?k8 ?k9 ?kB ?_ ?c2 ?c3 ?c4 ?c5; k_extra "en")
  k_steps
  exact ret _ _ _ _ _ (by k_asm) (news_of (by k_asm) fun p hp => (hu _ _ _ p).mp hp) (by assumption) (by assumption)
theorem c_dcallR {S R Xm Fl Me Sg : Addr} {rip : Int} {trip tbg : Tok} {dS : Addr} {hS0 hS1 hS2 hS3 hS4 hS5 hS6 hS7 hS8 : Int} {kS0 kS1 kS2 kS3 kS4 kS5 kS6 kS7 kS8 : Tok} {vsR : List Value} {ws : List Int} {nR : Nat} {H : Addr} {dMe : Addr} {hMe0 : Int} {kMe0 : Tok} {oH : Obj} {c : List (Int × Int)} {G : Addr} {wG : Str} {iG zG : Int} {uG0 uG1 uG2 uG3 : Tok} {dG : Addr} {hG0 hG1 hG2 hG3 : Int} {kG0 kG1 kG2 kG3 : Tok} {O : Addr} {uO0 : Tok} {dO : Addr} {hO0 hO1 : Int} {kO0 kO1 : Tok} {I Tp : Addr} {uI0 uI1 : Tok} {nTp : Nat} {dI : Addr} {hI0 hI1 hI2 : Int} {kI0 kI1 kI2 : Tok} {u1 : Obj → List (Addr × Obj)} {u2 : Obj → Obj → List (Addr × Obj)} {u : Obj → Obj → Obj → List (Addr × Obj)} (U1 : UpdF R (listOf vsR.toArray nR) news u1) (U2 : ∀ o, UpdF H oH (u1 o) (u2 o)) (U3 : ∀ o o2, UpdF dS (dictOf [⟨hS0, .str (Str.ofString "iset") kS0, .none⟩, ⟨hS1, .str (Str.ofString "regs") kS1, .ref R⟩, ⟨hS2, .str (Str.ofString "xmm") kS2, .ref Xm⟩, ⟨hS3, .str (Str.ofString "flags") kS3, .ref Fl⟩, ⟨hS4, .str (Str.ofString "memory") kS4, .ref Me⟩, ⟨hS5, .str (Str.ofString "rip") kS5, .int rip trip⟩, ⟨hS6, .str (Str.ofString "begin") kS6, .int 0 tbg⟩, ⟨hS7, .str (Str.ofString "segments") kS7, .ref Sg⟩, ⟨hS8, .str (Str.ofString "is_halted") kS8, .bool false⟩] 9) (u2 o o2) (u o o2)) (hdp : dp + 18 < recursionLimit) (h1 : ws.length = 16) (i0 : 0 ≤ iG) (i1 : iG < 16) (z0 : 0 ≤ zG) (z1 : zG ≤ 64) (hc : c.length ≤ 100000) (qS : (dS, dictOf [⟨hS0, .str (Str.ofString "iset") kS0, .none⟩, ⟨hS1, .str (Str.ofString "regs") kS1, .ref R⟩, ⟨hS2, .str (Str.ofString "xmm") kS2, .ref Xm⟩, ⟨hS3, .str (Str.ofString "flags") kS3, .ref Fl⟩, ⟨hS4, .str (Str.ofString "memory") kS4, .ref Me⟩, ⟨hS5, .str (Str.ofString "rip") kS5, .int rip trip⟩, ⟨hS6, .str (Str.ofString "begin") kS6, .int 0 tbg⟩, ⟨hS7, .str (Str.ofString "segments") kS7, .ref Sg⟩, ⟨hS8, .str (Str.ofString "is_halted") kS8, .bool false⟩] 9) ∈ news) (mSa : ∀ o o2 o3, (S, instObj 546 dS) ∈ u o o2 o3) (iR : IntsAre vsR ws) (mMea : ∀ o o2 o3, (Me, instObj 429 dMe) ∈ u o o2 o3) (mMeb : ∀ o o2 o3, (dMe, dictOf [⟨hMe0, .str (Str.ofString "held") kMe0, .ref H⟩] 1) ∈ u o o2 o3) (D : DI w H oH c) (mGa : ∀ o o2 o3, (G, instObj 314 dG) ∈ u o o2 o3) (mGb : ∀ o o2 o3, (dG, dictOf [⟨hG0, .str (Str.ofString "name") kG0, .str wG uG0⟩, ⟨hG1, .str (Str.ofString "kind") kG1, .str (Str.ofString "gpr") uG1⟩, ⟨hG2, .str (Str.ofString "number") kG2, .int iG uG2⟩, ⟨hG3, .str (Str.ofString "size") kG3, .int zG uG3⟩] 4) ∈ u o o2 o3) (mOa : ∀ o o2 o3, (O, instObj 623 dO) ∈ u o o2 o3) (mOb : ∀ o o2 o3, (dO, dictOf [⟨hO0, .str (Str.ofString "kind") kO0, .str (Str.ofString "reg") uO0⟩, ⟨hO1, .str (Str.ofString "register") kO1, .ref G⟩] 2) ∈ u o o2 o3) (mIa : ∀ o o2 o3, (I, instObj 804 dI) ∈ u o o2 o3) (mIb : ∀ o o2 o3, (dI, dictOf [⟨hI0, .str (Str.ofString "name") kI0, .str (Str.ofString "call") uI0⟩, ⟨hI1, .str (Str.ofString "operands") kI1, .ref Tp⟩, ⟨hI2, .str (Str.ofString "prefix") kI2, .str (Str.ofString "") uI1⟩] 3) ∈ u o o2 o3) (mTp : ∀ o o2 o3, (Tp, { cls := .type "tuple", data := .seq (List.toArray [.ref O]) nTp }) ∈ u o o2 o3)
    (ret : ∀ h' tk' vs' o' t', Fr h₀ L h' m → News h₀ L h' (u (listOf vs'.toArray nR) o' (dictOf [⟨hS0, .str (Str.ofString "iset") kS0, .none⟩, ⟨hS1, .str (Str.ofString "regs") kS1, .ref R⟩, ⟨hS2, .str (Str.ofString "xmm") kS2, .ref Xm⟩, ⟨hS3, .str (Str.ofString "flags") kS3, .ref Fl⟩, ⟨hS4, .str (Str.ofString "memory") kS4, .ref Me⟩, ⟨hS5, .str (Str.ofString "rip") kS5, .int (low (low (ws.getD iG.toNat 0) zG) 64) t'⟩, ⟨hS6, .str (Str.ofString "begin") kS6, .int 0 tbg⟩, ⟨hS7, .str (Str.ofString "segments") kS7, .ref Sg⟩, ⟨hS8, .str (Str.ofString "is_halted") kS8, .bool false⟩] 9)) → IntsAre vs' (ws.set 4 (low (ws.getD 4 0 - 8) 64)) → DI w H o' (wrM c (low (ws.getD 4 0 - 8) 64) rip (Int.toNat 8)) → Q (.bool true) ⟨h', stG, stD, tk', stO⟩) :
    wpAny (model PySem.Challenge.rw_nn0065_01.row.prog w) (ktrTop dp un gd cn cs L a ccd cl outer) (call (.ref 262) [.ref S, .ref I]) Q E ⟨stH, stG, stD, stT, stO⟩ := by
  obtain ⟨rest, hRH, hRD, hHD, hoR, hoH, hoD, hu, hn⟩ := upd_open3 U1 U2 U3
  replace mSa := upd_rest3 hu mSa
  replace mMea := upd_rest3 hu mMea
  replace mMeb := upd_rest3 hu mMeb
  replace mGa := upd_rest3 hu mGa
  replace mGb := upd_rest3 hu mGb
  replace mOa := upd_rest3 hu mOa
  replace mOb := upd_rest3 hu mOb
  replace mIa := upd_rest3 hu mIa
  replace mIb := upd_rest3 hu mIb
  replace mTp := upd_rest3 hu mTp
  replace N := news_of N (fun p hp => (hn p).mpr hp)
  clear U1 U2 U3 hn qS
  k_dflt (refine' enter_def [(Str.ofString "state", .ref S), (Str.ofString "instruction", .ref I)] ?k1 ?k2 ?k3 ?k4 ?k5 ?kA ?kF ?kK ?k6 ?k7 ?k8 ?k9 ?kB ?_ ?c2 ?c3 ?c4 ?c5; k_extra "en")
  k_steps
  exact ret _ _ _ _ _ (by k_asm) (news_of (by k_asm) fun p hp => (hu _ _ _ p).mp hp) (by assumption) (by assumption)
theorem c_dret {S R Xm Fl Me Sg : Addr} {rip : Int} {trip tbg : Tok} {dS : Addr} {hS0 hS1 hS2 hS3 hS4 hS5 hS6 hS7 hS8 : Int} {kS0 kS1 kS2 kS3 kS4 kS5 kS6 kS7 kS8 : Tok} {vsR : List Value} {ws : List Int} {nR : Nat} {H : Addr} {dMe : Addr} {hMe0 : Int} {kMe0 : Tok} {oH : Obj} {c : List (Int × Int)} {I Tp : Addr} {uI0 uI1 : Tok} {nTp : Nat} {dI : Addr} {hI0 hI1 hI2 : Int} {kI0 kI1 kI2 : Tok} {u1 : Obj → List (Addr × Obj)} {u : Obj → Obj → List (Addr × Obj)} (U1 : UpdF R (listOf vsR.toArray nR) news u1) (U : ∀ o, UpdF dS (dictOf [⟨hS0, .str (Str.ofString "iset") kS0, .none⟩, ⟨hS1, .str (Str.ofString "regs") kS1, .ref R⟩, ⟨hS2, .str (Str.ofString "xmm") kS2, .ref Xm⟩, ⟨hS3, .str (Str.ofString "flags") kS3, .ref Fl⟩, ⟨hS4, .str (Str.ofString "memory") kS4, .ref Me⟩, ⟨hS5, .str (Str.ofString "rip") kS5, .int rip trip⟩, ⟨hS6, .str (Str.ofString "begin") kS6, .int 0 tbg⟩, ⟨hS7, .str (Str.ofString "segments") kS7, .ref Sg⟩, ⟨hS8, .str (Str.ofString "is_halted") kS8, .bool false⟩] 9) (u1 o) (u o)) (hdp : dp + 18 < recursionLimit) (h1 : ws.length = 16)  (qS : (dS, dictOf [⟨hS0, .str (Str.ofString "iset") kS0, .none⟩, ⟨hS1, .str (Str.ofString "regs") kS1, .ref R⟩, ⟨hS2, .str (Str.ofString "xmm") kS2, .ref Xm⟩, ⟨hS3, .str (Str.ofString "flags") kS3, .ref Fl⟩, ⟨hS4, .str (Str.ofString "memory") kS4, .ref Me⟩, ⟨hS5, .str (Str.ofString "rip") kS5, .int rip trip⟩, ⟨hS6, .str (Str.ofString "begin") kS6, .int 0 tbg⟩, ⟨hS7, .str (Str.ofString "segments") kS7, .ref Sg⟩, ⟨hS8, .str (Str.ofString "is_halted") kS8, .bool false⟩] 9) ∈ news) (mSa : ∀ o o2, (S, instObj 546 dS) ∈ u o o2) (iR : IntsAre vsR ws) (mMea : ∀ o o2, (Me, instObj 429 dMe) ∈ u o o2) (mMeb : ∀ o o2, (dMe, dictOf [⟨hMe0, .str (Str.ofString "held") kMe0, .ref H⟩] 1) ∈ u o o2) (mH : ∀ o o2, (H, oH) ∈ u o o2) (D : DI w H oH c) (mIa : ∀ o o2, (I, instObj 804 dI) ∈ u o o2) (mIb : ∀ o o2, (dI, dictOf [⟨hI0, .str (Str.ofString "name") kI0, .str (Str.ofString "ret") uI0⟩, ⟨hI1, .str (Str.ofString "operands") kI1, .ref Tp⟩, ⟨hI2, .str (Str.ofString "prefix") kI2, .str (Str.ofString "") uI1⟩] 3) ∈ u o o2) (mTp : ∀ o o2, (Tp, { cls := .type "tuple", data := .seq (List.toArray []) nTp }) ∈ u o o2)
    (ret : ∀ h' tk' vs' t', Fr h₀ L h' m → News h₀ L h' (u (listOf vs'.toArray nR) (dictOf [⟨hS0, .str (Str.ofString "iset") kS0, .none⟩, ⟨hS1, .str (Str.ofString "regs") kS1, .ref R⟩, ⟨hS2, .str (Str.ofString "xmm") kS2, .ref Xm⟩, ⟨hS3, .str (Str.ofString "flags") kS3, .ref Fl⟩, ⟨hS4, .str (Str.ofString "memory") kS4, .ref Me⟩, ⟨hS5, .str (Str.ofString "rip") kS5, .int (rdM c (ws.getD 4 0) (Int.toNat 8)) t'⟩, ⟨hS6, .str (Str.ofString "begin") kS6, .int 0 tbg⟩, ⟨hS7, .str (Str.ofString "segments") kS7, .ref Sg⟩, ⟨hS8, .str (Str.ofString "is_halted") kS8, .bool false⟩] 9)) → IntsAre vs' (ws.set 4 (low (ws.getD 4 0 + 8) 64)) → Q (.bool true) ⟨h', stG, stD, tk', stO⟩) :
    wpAny (model PySem.Challenge.rw_nn0065_01.row.prog w) (ktrTop dp un gd cn cs L a ccd cl outer) (call (.ref 262) [.ref S, .ref I]) Q E ⟨stH, stG, stD, stT, stO⟩ := by
  obtain ⟨rest, hRH, hoR, hoH, hu, hn⟩ := upd_open2 U1 U
  replace mSa := upd_rest2 hu mSa
  replace mMea := upd_rest2 hu mMea
  replace mMeb := upd_rest2 hu mMeb
  replace mH := upd_rest2 hu mH
  replace mIa := upd_rest2 hu mIa
  replace mIb := upd_rest2 hu mIb
  replace mTp := upd_rest2 hu mTp
  replace N := news_of N (fun p hp => (hn p).mpr hp)
  clear U1 U hn qS
  k_dflt (refine' enter_def [(Str.ofString "state", .ref S), (Str.ofString "instruction", .ref I)] ?k1 ?k2 ?k3 ?k4 ?k5 ?kA ?kF ?kK ?k6 ?k7 ?k8 ?k9 ?kB ?_ ?c2 ?c3 ?c4 ?c5; k_extra "en")
  k_steps
  exact ret _ _ _ _ (by k_asm) (news_of (by k_asm) fun p hp => (hu _ _ p).mp hp) (by assumption)
theorem c_dretI {S R Xm Fl Me Sg : Addr} {rip : Int} {trip tbg : Tok} {dS : Addr} {hS0 hS1 hS2 hS3 hS4 hS5 hS6 hS7 hS8 : Int} {kS0 kS1 kS2 kS3 kS4 kS5 kS6 kS7 kS8 : Tok} {vsR : List Value} {ws : List Int} {nR : Nat} {H : Addr} {dMe : Addr} {hMe0 : Int} {kMe0 : Tok} {oH : Obj} {c : List (Int × Int)} {O : Addr} {eO : Int} {uO0 uO1 uO2 : Tok} {dO : Addr} {hO0 hO1 hO2 : Int} {kO0 kO1 kO2 : Tok} {I Tp : Addr} {uI0 uI1 : Tok} {nTp : Nat} {dI : Addr} {hI0 hI1 hI2 : Int} {kI0 kI1 kI2 : Tok} {u1 : Obj → List (Addr × Obj)} {u : Obj → Obj → List (Addr × Obj)} (U1 : UpdF R (listOf vsR.toArray nR) news u1) (U : ∀ o, UpdF dS (dictOf [⟨hS0, .str (Str.ofString "iset") kS0, .none⟩, ⟨hS1, .str (Str.ofString "regs") kS1, .ref R⟩, ⟨hS2, .str (Str.ofString "xmm") kS2, .ref Xm⟩, ⟨hS3, .str (Str.ofString "flags") kS3, .ref Fl⟩, ⟨hS4, .str (Str.ofString "memory") kS4, .ref Me⟩, ⟨hS5, .str (Str.ofString "rip") kS5, .int rip trip⟩, ⟨hS6, .str (Str.ofString "begin") kS6, .int 0 tbg⟩, ⟨hS7, .str (Str.ofString "segments") kS7, .ref Sg⟩, ⟨hS8, .str (Str.ofString "is_halted") kS8, .bool false⟩] 9) (u1 o) (u o)) (hdp : dp + 18 < recursionLimit) (h1 : ws.length = 16)  (qS : (dS, dictOf [⟨hS0, .str (Str.ofString "iset") kS0, .none⟩, ⟨hS1, .str (Str.ofString "regs") kS1, .ref R⟩, ⟨hS2, .str (Str.ofString "xmm") kS2, .ref Xm⟩, ⟨hS3, .str (Str.ofString "flags") kS3, .ref Fl⟩, ⟨hS4, .str (Str.ofString "memory") kS4, .ref Me⟩, ⟨hS5, .str (Str.ofString "rip") kS5, .int rip trip⟩, ⟨hS6, .str (Str.ofString "begin") kS6, .int 0 tbg⟩, ⟨hS7, .str (Str.ofString "segments") kS7, .ref Sg⟩, ⟨hS8, .str (Str.ofString "is_halted") kS8, .bool false⟩] 9) ∈ news) (mSa : ∀ o o2, (S, instObj 546 dS) ∈ u o o2) (iR : IntsAre vsR ws) (mMea : ∀ o o2, (Me, instObj 429 dMe) ∈ u o o2) (mMeb : ∀ o o2, (dMe, dictOf [⟨hMe0, .str (Str.ofString "held") kMe0, .ref H⟩] 1) ∈ u o o2) (mH : ∀ o o2, (H, oH) ∈ u o o2) (D : DI w H oH c) (mOa : ∀ o o2, (O, instObj 657 dO) ∈ u o o2) (mOb : ∀ o o2, (dO, dictOf [⟨hO0, .str (Str.ofString "kind") kO0, .str (Str.ofString "imm") uO0⟩, ⟨hO1, .str (Str.ofString "worth") kO1, .int eO uO1⟩, ⟨hO2, .str (Str.ofString "name") kO2, .str (Str.ofString "") uO2⟩] 3) ∈ u o o2) (mIa : ∀ o o2, (I, instObj 804 dI) ∈ u o o2) (mIb : ∀ o o2, (dI, dictOf [⟨hI0, .str (Str.ofString "name") kI0, .str (Str.ofString "ret") uI0⟩, ⟨hI1, .str (Str.ofString "operands") kI1, .ref Tp⟩, ⟨hI2, .str (Str.ofString "prefix") kI2, .str (Str.ofString "") uI1⟩] 3) ∈ u o o2) (mTp : ∀ o o2, (Tp, { cls := .type "tuple", data := .seq (List.toArray [.ref O]) nTp }) ∈ u o o2)
    (ret : ∀ h' tk' vs' t', Fr h₀ L h' m → News h₀ L h' (u (listOf vs'.toArray nR) (dictOf [⟨hS0, .str (Str.ofString "iset") kS0, .none⟩, ⟨hS1, .str (Str.ofString "regs") kS1, .ref R⟩, ⟨hS2, .str (Str.ofString "xmm") kS2, .ref Xm⟩, ⟨hS3, .str (Str.ofString "flags") kS3, .ref Fl⟩, ⟨hS4, .str (Str.ofString "memory") kS4, .ref Me⟩, ⟨hS5, .str (Str.ofString "rip") kS5, .int (rdM c (ws.getD 4 0) (Int.toNat 8)) t'⟩, ⟨hS6, .str (Str.ofString "begin") kS6, .int 0 tbg⟩, ⟨hS7, .str (Str.ofString "segments") kS7, .ref Sg⟩, ⟨hS8, .str (Str.ofString "is_halted") kS8, .bool false⟩] 9)) → IntsAre vs' ((ws.set 4 (low (ws.getD 4 0 + 8) 64)).set 4 (low ((ws.set 4 (low (ws.getD 4 0 + 8) 64)).getD 4 0 + eO) 64)) → Q (.bool true) ⟨h', stG, stD, tk', stO⟩) :
    wpAny (model PySem.Challenge.rw_nn0065_01.row.prog w) (ktrTop dp un gd cn cs L a ccd cl outer) (call (.ref 262) [.ref S, .ref I]) Q E ⟨stH, stG, stD, stT, stO⟩ := by
  obtain ⟨rest, hRH, hoR, hoH, hu, hn⟩ := upd_open2 U1 U
  replace mSa := upd_rest2 hu mSa
  replace mMea := upd_rest2 hu mMea
  replace mMeb := upd_rest2 hu mMeb
  replace mH := upd_rest2 hu mH
  replace mOa := upd_rest2 hu mOa
  replace mOb := upd_rest2 hu mOb
  replace mIa := upd_rest2 hu mIa
  replace mIb := upd_rest2 hu mIb
  replace mTp := upd_rest2 hu mTp
  replace N := news_of N (fun p hp => (hn p).mpr hp)
  clear U1 U hn qS
  k_dflt (refine' enter_def [(Str.ofString "state", .ref S), (Str.ofString "instruction", .ref I)] ?k1 ?k2 ?k3 ?k4 ?k5 ?kA ?kF ?kK ?k6 ?k7 ?k8 ?k9 ?kB ?_ ?c2 ?c3 ?c4 ?c5; k_extra "en")
  k_steps
  exact ret _ _ _ _ (by k_asm) (news_of (by k_asm) fun p hp => (hu _ _ p).mp hp) (by assumption)

end
example : True := by
  k_with "call ref" => ((k_here; (with_reducible show wpAny _ _ (PySem.call (Value.ref 314) _ _) _ _ _); k_dflt (refine' call_cls ?k1 ?k2 ?k3 ?k4 ?k5 ?k6 ?_; (case k1 => k_asm); (case k2 => k_asm); (case k3 => k_asm); (case k4 => k_is); (case k5 => k_is); (case k6 => k_is); k_whole; intro x' d' h' F' N' l1 l2; (try k_lt l1); (try k_lt2 l2); (try k_sweep); refine' Mine.code_zip [Str.ofString "self", Str.ofString "name", Str.ofString "kind", Str.ofString "number", Str.ofString "size"] ?k1 ?k2 ?k3 ?k4 ?k5 ?kA ?kF ?kK ?k6 ?k7 ?k8 ?k9 ?kB ?_ ?c2 ?c3 ?c4 ?c5; (case kA => exact rfl); (case kF => exact rfl); (case kK => first | exact rfl | assumption); (case k1 => k_asm); (case k2 => k_asm); (case k3 => k_asm); (case k4 => k_asm); (case k5 => k_asm); (case k6 => k_is); (case k7 => k_is); (case k8 => ktr_room); (case k9 => first | exact BindsTo.of_eq rfl); (case c5 => decide); (case kB => exact locs rfl); (case c2 => exact rfl); (case c3 => exact rfl); (case c4 => exact rfl); k_whole; intro g' L' h' tk' FG' F' N' B' X' T'; (dsimp only [Mine.mapL, List.zip, List.zipWith, List.zip_cons_cons, List.zip_nil_left, List.zip_nil_right, List.reverse_cons, List.reverse_nil, List.reverse, List.reverseAux, List.nil_append, List.cons_append] at F'); (try dsimp only); (try k_fold))))
  k_with "call ref" => ((k_here; (with_reducible show wpAny _ _ (PySem.call (Value.ref 623) _ _) _ _ _); k_dflt (refine' call_cls ?k1 ?k2 ?k3 ?k4 ?k5 ?k6 ?_; (case k1 => k_asm); (case k2 => k_asm); (case k3 => k_asm); (case k4 => k_is); (case k5 => k_is); (case k6 => k_is); k_whole; intro x' d' h' F' N' l1 l2; (try k_lt l1); (try k_lt2 l2); (try k_sweep); refine' Mine.code_zip [Str.ofString "self", Str.ofString "register"] ?k1 ?k2 ?k3 ?k4 ?k5 ?kA ?kF ?kK ?k6 ?k7 ?k8 ?k9 ?kB ?_ ?c2 ?c3 ?c4 ?c5; (case kA => exact rfl); (case kF => exact rfl); (case kK => first | exact rfl | assumption); (case k1 => k_asm); (case k2 => k_asm); (case k3 => k_asm); (case k4 => k_asm); (case k5 => k_asm); (case k6 => k_is); (case k7 => k_is); (case k8 => ktr_room); (case k9 => first | exact BindsTo.of_eq rfl); (case c5 => decide); (case kB => exact locs rfl); (case c2 => exact rfl); (case c3 => exact rfl); (case c4 => exact rfl); k_whole; intro g' L' h' tk' FG' F' N' B' X' T'; (dsimp only [Mine.mapL, List.zip, List.zipWith, List.zip_cons_cons, List.zip_nil_left, List.zip_nil_right, List.reverse_cons, List.reverse_nil, List.reverse, List.reverseAux, List.nil_append, List.cons_append] at F'); (try dsimp only); (try k_fold))))
  k_with "call ref" => ((k_here; (with_reducible show wpAny _ _ (PySem.call (Value.ref 657) _ _) _ _ _); k_dflt (refine' call_cls ?k1 ?k2 ?k3 ?k4 ?k5 ?k6 ?_; (case k1 => k_asm); (case k2 => k_asm); (case k3 => k_asm); (case k4 => k_is); (case k5 => k_is); (case k6 => k_is); k_whole; intro x' d' h' F' N' l1 l2; (try k_lt l1); (try k_lt2 l2); (try k_sweep); refine' Mine.code_zipD [Str.ofString "self", Str.ofString "worth", Str.ofString "name"] [.str (Str.ofString "") 1027] ?k1 ?k2 ?k3 ?k4 ?k5 ?kA ?kF ?kK ?k6 ?k7 ?k8 ?k9 ?kB ?_ ?c2 ?c3 ?c4 ?c5; (case kA => exact rfl); (case kF => exact rfl); (case kK => first | exact rfl | assumption); (case k1 => k_asm); (case k2 => k_asm); (case k3 => k_asm); (case k4 => k_asm); (case k5 => k_asm); (case k6 => k_is); (case k7 => k_is); (case k8 => ktr_room); (case k9 => exact binds_K (by k_in) rfl (by k_is) rfl rfl rfl); (case c5 => decide); (case kB => exact locs rfl); (case c2 => exact rfl); (case c3 => exact rfl); (case c4 => exact rfl); k_whole; intro g' L' h' tk' FG' F' N' B' X' T'; (dsimp only [Mine.mapL, List.zip, List.zipWith, List.zip_cons_cons, List.zip_nil_left, List.zip_nil_right, List.reverse_cons, List.reverse_nil, List.reverse, List.reverseAux, List.nil_append, List.cons_append] at F'); (try dsimp only); (try k_fold))))
  k_with "call ref" => ((k_here; (with_reducible show wpAny _ _ (PySem.call (Value.ref 698) _ _) _ _ _); k_dflt (refine' call_cls ?k1 ?k2 ?k3 ?k4 ?k5 ?k6 ?_; (case k1 => k_asm); (case k2 => k_asm); (case k3 => k_asm); (case k4 => k_is); (case k5 => k_is); (case k6 => k_is); k_whole; intro x' d' h' F' N' l1 l2; (try k_lt l1); (try k_lt2 l2); (try k_sweep); refine' Mine.code_zipD [Str.ofString "self", Str.ofString "worth", Str.ofString "name"] [.str (Str.ofString "") 1069] ?k1 ?k2 ?k3 ?k4 ?k5 ?kA ?kF ?kK ?k6 ?k7 ?k8 ?k9 ?kB ?_ ?c2 ?c3 ?c4 ?c5; (case kA => exact rfl); (case kF => exact rfl); (case kK => first | exact rfl | assumption); (case k1 => k_asm); (case k2 => k_asm); (case k3 => k_asm); (case k4 => k_asm); (case k5 => k_asm); (case k6 => k_is); (case k7 => k_is); (case k8 => ktr_room); (case k9 => exact binds_K (by k_in) rfl (by k_is) rfl rfl rfl); (case c5 => decide); (case kB => exact locs rfl); (case c2 => exact rfl); (case c3 => exact rfl); (case c4 => exact rfl); k_whole; intro g' L' h' tk' FG' F' N' B' X' T'; (dsimp only [Mine.mapL, List.zip, List.zipWith, List.zip_cons_cons, List.zip_nil_left, List.zip_nil_right, List.reverse_cons, List.reverse_nil, List.reverse, List.reverseAux, List.nil_append, List.cons_append] at F'); (try dsimp only); (try k_fold))))
  k_with "call ref" => ((k_here; (with_reducible show wpAny _ _ (PySem.call (Value.ref 751) _ _) _ _ _); k_dflt (refine' call_cls ?k1 ?k2 ?k3 ?k4 ?k5 ?k6 ?_; (case k1 => k_asm); (case k2 => k_asm); (case k3 => k_asm); (case k4 => k_is); (case k5 => k_is); (case k6 => k_is); k_whole; intro x' d' h' F' N' l1 l2; (try k_lt l1); (try k_lt2 l2); (try k_sweep); refine' Mine.code_zipD [Str.ofString "self", Str.ofString "base", Str.ofString "index", Str.ofString "scale", Str.ofString "worth", Str.ofString "size", Str.ofString "segment", Str.ofString "name"] [.str (Str.ofString "") 1120, .str (Str.ofString "") 1121] ?k1 ?k2 ?k3 ?k4 ?k5 ?kA ?kF ?kK ?k6 ?k7 ?k8 ?k9 ?kB ?_ ?c2 ?c3 ?c4 ?c5; (case kA => exact rfl); (case kF => exact rfl); (case kK => first | exact rfl | assumption); (case k1 => k_asm); (case k2 => k_asm); (case k3 => k_asm); (case k4 => k_asm); (case k5 => k_asm); (case k6 => k_is); (case k7 => k_is); (case k8 => ktr_room); (case k9 => exact binds_K (by k_in) rfl (by k_is) rfl rfl rfl); (case c5 => decide); (case kB => exact locs rfl); (case c2 => exact rfl); (case c3 => exact rfl); (case c4 => exact rfl); k_whole; intro g' L' h' tk' FG' F' N' B' X' T'; (dsimp only [Mine.mapL, List.zip, List.zipWith, List.zip_cons_cons, List.zip_nil_left, List.zip_nil_right, List.reverse_cons, List.reverse_nil, List.reverse, List.reverseAux, List.nil_append, List.cons_append] at F'); (try dsimp only); (try k_fold))))
  k_with "call ref" => ((k_here; (with_reducible show wpAny _ _ (PySem.call (Value.ref 751) _ _) _ _ _); k_dflt (refine' call_cls ?k1 ?k2 ?k3 ?k4 ?k5 ?k6 ?_; (case k1 => k_asm); (case k2 => k_asm); (case k3 => k_asm); (case k4 => k_is); (case k5 => k_is); (case k6 => k_is); k_whole; intro x' d' h' F' N' l1 l2; (try k_lt l1); (try k_lt2 l2); (try k_sweep); refine' Mine.code_zipD [Str.ofString "self", Str.ofString "base", Str.ofString "index", Str.ofString "scale", Str.ofString "worth", Str.ofString "size", Str.ofString "segment", Str.ofString "name"] [.int 0 1119, .str (Str.ofString "") 1120, .str (Str.ofString "") 1121] ?k1 ?k2 ?k3 ?k4 ?k5 ?kA ?kF ?kK ?k6 ?k7 ?k8 ?k9 ?kB ?_ ?c2 ?c3 ?c4 ?c5; (case kA => exact rfl); (case kF => exact rfl); (case kK => first | exact rfl | assumption); (case k1 => k_asm); (case k2 => k_asm); (case k3 => k_asm); (case k4 => k_asm); (case k5 => k_asm); (case k6 => k_is); (case k7 => k_is); (case k8 => ktr_room); (case k9 => exact binds_K (by k_in) rfl (by k_is) rfl rfl rfl); (case c5 => decide); (case kB => exact locs rfl); (case c2 => exact rfl); (case c3 => exact rfl); (case c4 => exact rfl); k_whole; intro g' L' h' tk' FG' F' N' B' X' T'; (dsimp only [Mine.mapL, List.zip, List.zipWith, List.zip_cons_cons, List.zip_nil_left, List.zip_nil_right, List.reverse_cons, List.reverse_nil, List.reverse, List.reverseAux, List.nil_append, List.cons_append] at F'); (try dsimp only); (try k_fold))))
  k_with "call ref" => ((k_here; (with_reducible show wpAny _ _ (PySem.call (Value.ref 804) _ _) _ _ _); k_dflt (refine' call_cls ?k1 ?k2 ?k3 ?k4 ?k5 ?k6 ?_; (case k1 => k_asm); (case k2 => k_asm); (case k3 => k_asm); (case k4 => k_is); (case k5 => k_is); (case k6 => k_is); k_whole; intro x' d' h' F' N' l1 l2; (try k_lt l1); (try k_lt2 l2); (try k_sweep); refine' Mine.code_zipD [Str.ofString "self", Str.ofString "name", Str.ofString "operands", Str.ofString "prefix"] [.str (Str.ofString "") 1195] ?k1 ?k2 ?k3 ?k4 ?k5 ?kA ?kF ?kK ?k6 ?k7 ?k8 ?k9 ?kB ?_ ?c2 ?c3 ?c4 ?c5; (case kA => exact rfl); (case kF => exact rfl); (case kK => first | exact rfl | assumption); (case k1 => k_asm); (case k2 => k_asm); (case k3 => k_asm); (case k4 => k_asm); (case k5 => k_asm); (case k6 => k_is); (case k7 => k_is); (case k8 => ktr_room); (case k9 => exact binds_K (by k_in) rfl (by k_is) rfl rfl rfl); (case c5 => decide); (case kB => exact locs rfl); (case c2 => exact rfl); (case c3 => exact rfl); (case c4 => exact rfl); k_whole; intro g' L' h' tk' FG' F' N' B' X' T'; (dsimp only [Mine.mapL, List.zip, List.zipWith, List.zip_cons_cons, List.zip_nil_left, List.zip_nil_right, List.reverse_cons, List.reverse_nil, List.reverse, List.reverseAux, List.nil_append, List.cons_append] at F'); (try dsimp only); (try k_fold))))
  k_with "call ref" => ((k_here; (with_reducible show wpAny _ _ (PySem.call (Value.ref 564) _ _) _ _ _); k_dflt (refine' Mine.enter_zip [Str.ofString "self", Str.ofString "kind"] ?k1 ?k2 ?k3 ?k4 ?k5 ?kA ?kF ?kK ?k6 ?k7 ?k8 ?k9 ?kB ?_ ?c2 ?c3 ?c4 ?c5; (case kA => exact rfl); (case kF => exact rfl); (case kK => first | exact rfl | assumption); (case k1 => k_asm); (case k2 => k_asm); (case k3 => k_asm); (case k4 => k_asm); (case k5 => k_asm); (case k6 => k_is); (case k7 => k_is); (case k8 => ktr_room); (case k9 => exact BindsTo.of_eq rfl); (case c5 => decide); (case kB => exact locs rfl); (case c2 => exact rfl); (case c3 => exact rfl); (case c4 => exact rfl); k_whole; intro g' L' h' tk' FG' F' N' B' X' T'; (dsimp only [Mine.mapL, List.zip, List.zipWith, List.zip_cons_cons, List.zip_nil_left, List.zip_nil_right, List.reverse_cons, List.reverse_nil, List.reverse, List.reverseAux, List.nil_append, List.cons_append] at F'); (try dsimp only); (try k_fold))))
  k_with "call ref" => ((k_here; (with_reducible show wpAny _ _ (PySem.call (Value.ref 314) _ _) _ _ _); k_dflt (refine' Mine.c_Register ?B ?F ?X ?T ?k ?N ?d ?_; (case B => k_asm); (case F => k_asm); (case X => k_asm); (case T => k_asm); (case k => first | exact rfl | assumption); (case N => k_asm); (case d => ktr_room)); intro G' dG' hg0 hg1 hg2 hg3 kg0 kg1 kg2 kg3 ug0 ug1 ug2 ug3 h' tk' F' N' l1 l2; (try dsimp only at N'); (try k_lt l1); (try k_lt2 l2); (try k_sweep)))
  k_with "call ref" => ((k_here; (with_reducible show wpAny _ _ (PySem.call (Value.ref 623) _ _) _ _ _); k_dflt (refine' Mine.c_Reg ?B ?F ?X ?T ?k ?N ?d ?_; (case B => k_asm); (case F => k_asm); (case X => k_asm); (case T => k_asm); (case k => first | exact rfl | assumption); (case N => k_asm); (case d => ktr_room)); intro O' dO' ho0 ho1 ko0 ko1 uo0 h' tk' F' N' l1 l2; (try dsimp only at N'); (try k_lt l1); (try k_lt2 l2); (try k_sweep)))
  k_with "call ref" => ((k_here; (with_reducible show wpAny _ _ (PySem.call (Value.ref 657) _ _) _ _ _); k_dflt (refine' Mine.c_Imm ?B ?F ?X ?T ?k ?N ?d ?_; (case B => k_asm); (case F => k_asm); (case X => k_asm); (case T => k_asm); (case k => first | exact rfl | assumption); (case N => k_asm); (case d => ktr_room)); intro O' dO' ho0 ho1 ho2 ko0 ko1 ko2 uo0 uo1 uo2 h' tk' F' N' l1 l2; (try dsimp only at N'); (try k_lt l1); (try k_lt2 l2); (try k_sweep)))
  k_with "call ref" => ((k_here; (with_reducible show wpAny _ _ (PySem.call (Value.ref 698) _ _) _ _ _); k_dflt (refine' Mine.c_Rel ?B ?F ?X ?T ?k ?N ?d ?_; (case B => k_asm); (case F => k_asm); (case X => k_asm); (case T => k_asm); (case k => first | exact rfl | assumption); (case N => k_asm); (case d => ktr_room)); intro O' dO' ho0 ho1 ho2 ko0 ko1 ko2 uo0 uo1 uo2 h' tk' F' N' l1 l2; (try dsimp only at N'); (try k_lt l1); (try k_lt2 l2); (try k_sweep)))
  k_with "call ref" => ((k_here; (with_reducible show wpAny _ _ (PySem.call (Value.ref 751) _ _) _ _ _); k_dflt (refine' Mine.c_Mem ?B ?F ?X ?T ?k ?N ?d ?_; (case B => k_asm); (case F => k_asm); (case X => k_asm); (case T => k_asm); (case k => first | exact rfl | assumption); (case N => k_asm); (case d => ktr_room)); intro O' dO' ho0 ho1 ho2 ho3 ho4 ho5 ho6 ho7 ko0 ko1 ko2 ko3 ko4 ko5 ko6 ko7 uo0 uo1 uo2 uo3 uo4 uo5 h' tk' F' N' l1 l2; (try dsimp only at N'); (try k_lt l1); (try k_lt2 l2); (try k_sweep)))
  k_with "call ref" => ((k_here; (with_reducible show wpAny _ _ (PySem.call (Value.ref 751) _ _) _ _ _); k_dflt (refine' Mine.c_Mem2 ?B ?F ?X ?T ?k ?N ?d ?_; (case B => k_asm); (case F => k_asm); (case X => k_asm); (case T => k_asm); (case k => first | exact rfl | assumption); (case N => k_asm); (case d => ktr_room)); intro O' dO' ho0 ho1 ho2 ho3 ho4 ho5 ho6 ho7 ko0 ko1 ko2 ko3 ko4 ko5 ko6 ko7 uo0 uo1 uo2 uo3 uo4 uo5 h' tk' F' N' l1 l2; (try dsimp only at N'); (try k_lt l1); (try k_lt2 l2); (try k_sweep)))
  k_with "call ref" => ((k_here; (with_reducible show wpAny _ _ (PySem.call (Value.ref 804) _ _) _ _ _); k_dflt (refine' Mine.c_I0 ?B ?F ?X ?T ?k ?N ?d ?m ?_; (case B => k_asm); (case F => k_asm); (case X => k_asm); (case T => k_asm); (case k => first | exact rfl | assumption); (case N => k_asm); (case m => k_mem); (case d => ktr_room)); intro I' dI' Tp' hi0 hi1 hi2 ki0 ki1 ki2 ui0 ui1 nTp' h' tk' F' N' l1 l2 l3; (try dsimp only at N'); (try k_lt l1); (try k_lt2 l2); (try k_lt2 l3); (try k_sweep)))
  k_with "call ref" => ((k_here; (with_reducible show wpAny _ _ (PySem.call (Value.ref 804) _ _) _ _ _); k_dflt (refine' Mine.c_I1 ?B ?F ?X ?T ?k ?N ?d ?m ?_; (case B => k_asm); (case F => k_asm); (case X => k_asm); (case T => k_asm); (case k => first | exact rfl | assumption); (case N => k_asm); (case m => k_mem); (case d => ktr_room)); intro I' dI' Tp' hi0 hi1 hi2 ki0 ki1 ki2 ui0 ui1 nTp' h' tk' F' N' l1 l2 l3; (try dsimp only at N'); (try k_lt l1); (try k_lt2 l2); (try k_lt2 l3); (try k_sweep)))
  k_with "call ref" => ((k_here; (with_reducible show wpAny _ _ (PySem.call (Value.ref 804) _ _) _ _ _); k_dflt (refine' Mine.c_I2 ?B ?F ?X ?T ?k ?N ?d ?m ?_; (case B => k_asm); (case F => k_asm); (case X => k_asm); (case T => k_asm); (case k => first | exact rfl | assumption); (case N => k_asm); (case m => k_mem); (case d => ktr_room)); intro I' dI' Tp' hi0 hi1 hi2 ki0 ki1 ki2 ui0 ui1 nTp' h' tk' F' N' l1 l2 l3; (try dsimp only at N'); (try k_lt l1); (try k_lt2 l2); (try k_lt2 l3); (try k_sweep)))
  trivial
section
variable {w : World} {dp un : Nat} {gd : Option (List Code)} {cn : Str} {cs : Scope} {a : Addr} {ccd : Value} {cl : List (Str × Addr)} {outer : List Env} {A₀ : Around} {base h₀ : Heap} {L : Addr} {m : Str → Option Value} {stH : Heap} {stG : Array GenState} {stD : Drawn} {stT : Nat} {stO : OsState} {Q E : Value → Shared → Prop} {p : Program} {loose : List Str} {mean : ExcName → Option Value} {mg mb : Str → Option Value} {news : List (Addr × Obj)}
    (B : Below A₀ base outer h₀) (F : Fr h₀ L stH m) (X : (hd.heap_39 w.params).In h₀) (T : Top p loose mean mg mb h₀) (hk : cs.kind = .function) (N : News h₀ L stH news)
include B F X T hk N
theorem c_Register {nm : Str} {iG zG : Int} {t0 t1 t2 t3 : Tok} (hdp : dp + 6 < recursionLimit)
    (ret : ∀ G dG hG0 hG1 hG2 hG3 kG0 kG1 kG2 kG3 uG0 uG1 uG2 uG3 h' tk', Fr h₀ L h' m → News h₀ L h' ((G, instObj 314 dG) :: (dG, dictOf [⟨hG0, .str (Str.ofString "name") kG0, .str nm uG0⟩, ⟨hG1, .str (Str.ofString "kind") kG1, .str (Str.ofString "gpr") uG1⟩, ⟨hG2, .str (Str.ofString "number") kG2, .int iG uG2⟩, ⟨hG3, .str (Str.ofString "size") kG3, .int zG uG3⟩] 4) :: news) → (∀ p ∈ news, p.1 < dG) → dG < G → Q (.ref G) ⟨h', stG, stD, tk', stO⟩) :
    wpAny (model PySem.Challenge.rw_nn0065_01.row.prog w) (ktrTop dp un gd cn cs L a ccd cl outer) (call (.ref 314) [.str nm t0, .str (Str.ofString "gpr") t1, .int iG t2, .int zG t3]) Q E ⟨stH, stG, stD, stT, stO⟩ := by
  k_steps
  exact ret _ _ _ _ _ _ _ _ _ _ _ _ _ _ _ _ (by k_asm) (by k_asm) (by first | assumption | exact kst_ltOf (by assumption)) (by assumption)
theorem c_Reg {G : Addr} (hdp : dp + 6 < recursionLimit)
    (ret : ∀ O dO hO0 hO1 kO0 kO1 uO0 h' tk', Fr h₀ L h' m → News h₀ L h' ((O, instObj 623 dO) :: (dO, dictOf [⟨hO0, .str (Str.ofString "kind") kO0, .str (Str.ofString "reg") uO0⟩, ⟨hO1, .str (Str.ofString "register") kO1, .ref G⟩] 2) :: news) → (∀ p ∈ news, p.1 < dO) → dO < O → Q (.ref O) ⟨h', stG, stD, tk', stO⟩) :
    wpAny (model PySem.Challenge.rw_nn0065_01.row.prog w) (ktrTop dp un gd cn cs L a ccd cl outer) (call (.ref 623) [.ref G]) Q E ⟨stH, stG, stD, stT, stO⟩ := by
  k_steps
  exact ret _ _ _ _ _ _ _ _ _ (by k_asm) (by k_asm) (by first | assumption | exact kst_ltOf (by assumption)) (by assumption)
theorem c_Imm {e : Int} {t : Tok} (hdp : dp + 6 < recursionLimit)
    (ret : ∀ O dO hO0 hO1 hO2 kO0 kO1 kO2 uO0 uO1 uO2 h' tk', Fr h₀ L h' m → News h₀ L h' ((O, instObj 657 dO) :: (dO, dictOf [⟨hO0, .str (Str.ofString "kind") kO0, .str (Str.ofString "imm") uO0⟩, ⟨hO1, .str (Str.ofString "worth") kO1, .int e uO1⟩, ⟨hO2, .str (Str.ofString "name") kO2, .str (Str.ofString "") uO2⟩] 3) :: news) → (∀ p ∈ news, p.1 < dO) → dO < O → Q (.ref O) ⟨h', stG, stD, tk', stO⟩) :
    wpAny (model PySem.Challenge.rw_nn0065_01.row.prog w) (ktrTop dp un gd cn cs L a ccd cl outer) (call (.ref 657) [.int e t]) Q E ⟨stH, stG, stD, stT, stO⟩ := by
  k_steps
  exact ret _ _ _ _ _ _ _ _ _ _ _ _ _ (by k_asm) (by k_asm) (by first | assumption | exact kst_ltOf (by assumption)) (by assumption)
theorem c_Rel {e : Int} {t : Tok} (hdp : dp + 6 < recursionLimit)
    (ret : ∀ O dO hO0 hO1 hO2 kO0 kO1 kO2 uO0 uO1 uO2 h' tk', Fr h₀ L h' m → News h₀ L h' ((O, instObj 698 dO) :: (dO, dictOf [⟨hO0, .str (Str.ofString "kind") kO0, .str (Str.ofString "rel") uO0⟩, ⟨hO1, .str (Str.ofString "worth") kO1, .int e uO1⟩, ⟨hO2, .str (Str.ofString "name") kO2, .str (Str.ofString "") uO2⟩] 3) :: news) → (∀ p ∈ news, p.1 < dO) → dO < O → Q (.ref O) ⟨h', stG, stD, tk', stO⟩) :
    wpAny (model PySem.Challenge.rw_nn0065_01.row.prog w) (ktrTop dp un gd cn cs L a ccd cl outer) (call (.ref 698) [.int e t]) Q E ⟨stH, stG, stD, stT, stO⟩ := by
  k_steps
  exact ret _ _ _ _ _ _ _ _ _ _ _ _ _ (by k_asm) (by k_asm) (by first | assumption | exact kst_ltOf (by assumption)) (by assumption)
theorem c_Mem {G : Addr} {sc e sz : Int} {t t2 t3 : Tok} (hdp : dp + 6 < recursionLimit)
    (ret : ∀ O dO hO0 hO1 hO2 hO3 hO4 hO5 hO6 hO7 kO0 kO1 kO2 kO3 kO4 kO5 kO6 kO7 uO0 uO1 uO2 uO3 uO4 uO5 h' tk', Fr h₀ L h' m → News h₀ L h' ((O, instObj 751 dO) :: (dO, dictOf [⟨hO0, .str (Str.ofString "kind") kO0, .str (Str.ofString "mem") uO0⟩, ⟨hO1, .str (Str.ofString "base") kO1, .ref G⟩, ⟨hO2, .str (Str.ofString "index") kO2, .none⟩, ⟨hO3, .str (Str.ofString "scale") kO3, .int sc uO1⟩, ⟨hO4, .str (Str.ofString "worth") kO4, .int e uO2⟩, ⟨hO5, .str (Str.ofString "size") kO5, .int sz uO3⟩, ⟨hO6, .str (Str.ofString "segment") kO6, .str (Str.ofString "") uO4⟩, ⟨hO7, .str (Str.ofString "name") kO7, .str (Str.ofString "") uO5⟩] 8) :: news) → (∀ p ∈ news, p.1 < dO) → dO < O → Q (.ref O) ⟨h', stG, stD, tk', stO⟩) :
    wpAny (model PySem.Challenge.rw_nn0065_01.row.prog w) (ktrTop dp un gd cn cs L a ccd cl outer) (call (.ref 751) [.ref G, .none, .int sc t, .int e t2, .int sz t3]) Q E ⟨stH, stG, stD, stT, stO⟩ := by
  k_steps
  exact ret _ _ _ _ _ _ _ _ _ _ _ _ _ _ _ _ _ _ _ _ _ _ _ _ _ _ (by k_asm) (by k_asm) (by first | assumption | exact kst_ltOf (by assumption)) (by assumption)
theorem c_Mem2 {G J : Addr} {sc e : Int} {t t2 : Tok} (hdp : dp + 6 < recursionLimit)
    (ret : ∀ O dO hO0 hO1 hO2 hO3 hO4 hO5 hO6 hO7 kO0 kO1 kO2 kO3 kO4 kO5 kO6 kO7 uO0 uO1 uO2 uO3 uO4 uO5 h' tk', Fr h₀ L h' m → News h₀ L h' ((O, instObj 751 dO) :: (dO, dictOf [⟨hO0, .str (Str.ofString "kind") kO0, .str (Str.ofString "mem") uO0⟩, ⟨hO1, .str (Str.ofString "base") kO1, .ref G⟩, ⟨hO2, .str (Str.ofString "index") kO2, .ref J⟩, ⟨hO3, .str (Str.ofString "scale") kO3, .int sc uO1⟩, ⟨hO4, .str (Str.ofString "worth") kO4, .int e uO2⟩, ⟨hO5, .str (Str.ofString "size") kO5, .int 0 uO3⟩, ⟨hO6, .str (Str.ofString "segment") kO6, .str (Str.ofString "") uO4⟩, ⟨hO7, .str (Str.ofString "name") kO7, .str (Str.ofString "") uO5⟩] 8) :: news) → (∀ p ∈ news, p.1 < dO) → dO < O → Q (.ref O) ⟨h', stG, stD, tk', stO⟩) :
    wpAny (model PySem.Challenge.rw_nn0065_01.row.prog w) (ktrTop dp un gd cn cs L a ccd cl outer) (call (.ref 751) [.ref G, .ref J, .int sc t, .int e t2]) Q E ⟨stH, stG, stD, stT, stO⟩ := by
  k_steps
  exact ret _ _ _ _ _ _ _ _ _ _ _ _ _ _ _ _ _ _ _ _ _ _ _ _ _ _ (by k_asm) (by k_asm) (by first | assumption | exact kst_ltOf (by assumption)) (by assumption)
theorem c_I0 {Ls : Addr} {nL : Nat} {nm : Str} {t : Tok} (hdp : dp + 6 < recursionLimit) (mL : (Ls, listOf (List.toArray []) nL) ∈ news)
    (ret : ∀ I dI Tp hI0 hI1 hI2 kI0 kI1 kI2 uI0 uI1 nTp h' tk', Fr h₀ L h' m → News h₀ L h' ((Tp, { cls := .type "tuple", data := .seq (List.toArray []) nTp }) :: (I, instObj 804 dI) :: (dI, dictOf [⟨hI0, .str (Str.ofString "name") kI0, .str nm uI0⟩, ⟨hI1, .str (Str.ofString "operands") kI1, .ref Tp⟩, ⟨hI2, .str (Str.ofString "prefix") kI2, .str (Str.ofString "") uI1⟩] 3) :: news) → (∀ p ∈ news, p.1 < dI) → dI < I → I < Tp → Q (.ref I) ⟨h', stG, stD, tk', stO⟩) :
    wpAny (model PySem.Challenge.rw_nn0065_01.row.prog w) (ktrTop dp un gd cn cs L a ccd cl outer) (call (.ref 804) [.str nm t, .ref Ls]) Q E ⟨stH, stG, stD, stT, stO⟩ := by
  k_steps
  exact ret _ _ _ _ _ _ _ _ _ _ _ _ _ _ (by k_asm) (by k_asm) (by first | assumption | exact kst_ltOf (by assumption)) (by assumption) (by show @LT.lt Nat _ _ _; omega)
theorem c_I1 {O : Addr} {Ls : Addr} {nL : Nat} {nm : Str} {t : Tok} (hdp : dp + 6 < recursionLimit) (mL : (Ls, listOf (List.toArray [.ref O]) nL) ∈ news)
    (ret : ∀ I dI Tp hI0 hI1 hI2 kI0 kI1 kI2 uI0 uI1 nTp h' tk', Fr h₀ L h' m → News h₀ L h' ((Tp, { cls := .type "tuple", data := .seq (List.toArray [.ref O]) nTp }) :: (I, instObj 804 dI) :: (dI, dictOf [⟨hI0, .str (Str.ofString "name") kI0, .str nm uI0⟩, ⟨hI1, .str (Str.ofString "operands") kI1, .ref Tp⟩, ⟨hI2, .str (Str.ofString "prefix") kI2, .str (Str.ofString "") uI1⟩] 3) :: news) → (∀ p ∈ news, p.1 < dI) → dI < I → I < Tp → Q (.ref I) ⟨h', stG, stD, tk', stO⟩) :
    wpAny (model PySem.Challenge.rw_nn0065_01.row.prog w) (ktrTop dp un gd cn cs L a ccd cl outer) (call (.ref 804) [.str nm t, .ref Ls]) Q E ⟨stH, stG, stD, stT, stO⟩ := by
  k_steps
  exact ret _ _ _ _ _ _ _ _ _ _ _ _ _ _ (by k_asm) (by k_asm) (by first | assumption | exact kst_ltOf (by assumption)) (by assumption) (by show @LT.lt Nat _ _ _; omega)
theorem c_I2 {O P : Addr} {Ls : Addr} {nL : Nat} {nm : Str} {t : Tok} (hdp : dp + 6 < recursionLimit) (mL : (Ls, listOf (List.toArray [.ref O, .ref P]) nL) ∈ news)
    (ret : ∀ I dI Tp hI0 hI1 hI2 kI0 kI1 kI2 uI0 uI1 nTp h' tk', Fr h₀ L h' m → News h₀ L h' ((Tp, { cls := .type "tuple", data := .seq (List.toArray [.ref O, .ref P]) nTp }) :: (I, instObj 804 dI) :: (dI, dictOf [⟨hI0, .str (Str.ofString "name") kI0, .str nm uI0⟩, ⟨hI1, .str (Str.ofString "operands") kI1, .ref Tp⟩, ⟨hI2, .str (Str.ofString "prefix") kI2, .str (Str.ofString "") uI1⟩] 3) :: news) → (∀ p ∈ news, p.1 < dI) → dI < I → I < Tp → Q (.ref I) ⟨h', stG, stD, tk', stO⟩) :
    wpAny (model PySem.Challenge.rw_nn0065_01.row.prog w) (ktrTop dp un gd cn cs L a ccd cl outer) (call (.ref 804) [.str nm t, .ref Ls]) Q E ⟨stH, stG, stD, stT, stO⟩ := by
  k_steps
  exact ret _ _ _ _ _ _ _ _ _ _ _ _ _ _ (by k_asm) (by k_asm) (by first | assumption | exact kst_ltOf (by assumption)) (by assumption) (by show @LT.lt Nat _ _ _; omega)
end
example : True := by
  k_with "call ref" => ((k_here; (with_reducible show wpAny _ _ (PySem.call (Value.ref 325) _ _) _ _ _); k_dflt (refine' Mine.enter_zip [Str.ofString "size"] ?k1 ?k2 ?k3 ?k4 ?k5 ?kA ?kF ?kK ?k6 ?k7 ?k8 ?k9 ?kB ?_ ?c2 ?c3 ?c4 ?c5; (case kA => exact rfl); (case kF => exact rfl); (case kK => first | exact rfl | assumption); (case k1 => k_asm); (case k2 => k_asm); (case k3 => k_asm); (case k4 => k_asm); (case k5 => k_asm); (case k6 => k_is); (case k7 => k_is); (case k8 => ktr_room); (case k9 => exact BindsTo.of_eq rfl); (case c5 => decide); (case kB => exact locs rfl); (case c2 => exact rfl); (case c3 => exact rfl); (case c4 => exact rfl); k_whole; intro g' L' h' tk' FG' F' N' B' X' T'; (dsimp only [Mine.mapL, List.zip, List.zipWith, List.zip_cons_cons, List.zip_nil_left, List.zip_nil_right, List.reverse_cons, List.reverse_nil, List.reverse, List.reverseAux, List.nil_append, List.cons_append] at F'); (try dsimp only); (try k_fold))))
  k_with "call ref" => ((k_here; (with_reducible show wpAny _ _ (PySem.call (Value.ref 332) _ _) _ _ _); k_dflt (refine' Mine.enter_zip [Str.ofString "size"] ?k1 ?k2 ?k3 ?k4 ?k5 ?kA ?kF ?kK ?k6 ?k7 ?k8 ?k9 ?kB ?_ ?c2 ?c3 ?c4 ?c5; (case kA => exact rfl); (case kF => exact rfl); (case kK => first | exact rfl | assumption); (case k1 => k_asm); (case k2 => k_asm); (case k3 => k_asm); (case k4 => k_asm); (case k5 => k_asm); (case k6 => k_is); (case k7 => k_is); (case k8 => ktr_room); (case k9 => exact BindsTo.of_eq rfl); (case c5 => decide); (case kB => exact locs rfl); (case c2 => exact rfl); (case c3 => exact rfl); (case c4 => exact rfl); k_whole; intro g' L' h' tk' FG' F' N' B' X' T'; (dsimp only [Mine.mapL, List.zip, List.zipWith, List.zip_cons_cons, List.zip_nil_left, List.zip_nil_right, List.reverse_cons, List.reverse_nil, List.reverse, List.reverseAux, List.nil_append, List.cons_append] at F'); (try dsimp only); (try k_fold))))
  k_with "call builtin:str.split" => ((k_here; (with_reducible show wpAny _ _ (call (Value.builtin "str.split") _) _ _ _); k_dflt (first | (refine' Mine.split_w ?F ?N ?w ?z ?_; (case F => k_asm); (case N => k_asm); (case w => first | with_reducible exact Mine.w64 | with_reducible exact Mine.w32 | with_reducible exact Mine.w16 | with_reducible exact Mine.w8); (case z => kspl_size); k_whole) | (refine' Mine.split_b ?F ?N ?w ?y ?z ?_; (case F => k_asm); (case N => k_asm); (case w => with_reducible exact Mine.wsp); (case y => decide); (case z => kspl_size); k_whole)); intro D' ts' h' k' a' F' N' l1; (try k_lt l1); (dsimp only [Mine.wordsV, Nat.reduceAdd] at N' a'); (try dsimp only)))
  k_with "compareOp Eq ref ref" => ((k_here; (with_reducible show wpAny _ _ (compareOp CmpOp.Eq (Value.ref _) (Value.ref _)) _ _ _); k_dflt ((refine eq_dataH (by ke_read) (by ke_read) (by ke_shaped) (by ke_shaped) (by ktr_units) ?_); ke_norm)))
  k_with "belowN" => (first | assumption | exact kst_ltOf (by assumption) | exact kst_ltOf (And.right (by assumption)) | exact kst_ltOf (And.right (And.right (by assumption))) | exact kst_ltOf (And.right (And.right (And.right (by assumption)))))
  k_with "call ref" => ((k_here; (with_reducible show wpAny _ _ (PySem.call (Value.ref 339) _ _) _ _ _); k_dflt (refine' Mine.c_gpr ?B ?F ?X ?T ?k ?N ?un ?a0 ?a1 ?z ?d ?_; (case B => k_asm); (case F => k_asm); (case X => k_asm); (case T => k_asm); (case k => first | exact rfl | assumption); (case N => k_asm); (case un => ktr_units); (case z => first | exact .inl rfl | exact .inr (.inr (.inl rfl)) | assumption); (case a0 => first | omega | decide); (case a1 => first | omega | decide); (case d => ktr_room)); intro G' dG' hg0 hg1 hg2 hg3 kg0 kg1 kg2 kg3 ug0 ug1 ug2 ug3 nm' h' tk' F' N' l1 l2; (try dsimp only at N'); (try k_lt l1); (try k_lt2 l2); (try k_sweep)))
  trivial
noncomputable def wordsV (ts : Nat → Tok) : Nat → List Str → List Value
  | _, [] => []
  | i, w :: r => .str w (ts i) :: wordsV ts (i + 1) r
theorem wordsV_of (ts : Nat → Tok) : ∀ (l : List (Str × Tok)) (i : Nat), (∀ k, (h : k < l.length) → ts (i + k) = l[k].2) → strValues l = wordsV ts i (l.map (·.1))
  | [], _, _ => rfl
  | p :: l, i, h => by
    have h0 := h 0 (Nat.zero_lt_succ _)
    show .str p.1 p.2 :: strValues l = .str p.1 (ts i) :: wordsV ts (i + 1) (l.map (·.1))
    rw [wordsV_of ts l (i + 1) fun k hk => by rw [Nat.add_assoc, Nat.add_comm 1 k]; exact h (k + 1) (Nat.succ_lt_succ hk)]
    rw [show ts i = p.2 from h0]
theorem words_at (l : List (Str × Tok)) : ∃ ts : Nat → Tok, strValues l = wordsV ts 0 (l.map (·.1)) :=
  ⟨fun k => if h : k < l.length then l[k].2 else 0, wordsV_of _ l 0 fun k h => by rw [Nat.zero_add, dif_pos h]⟩
section
variable {prog : Program} {w : World} {A : Around} {E : Value → Shared → Prop} {s : Shared} {h₀ : Heap} {L : Addr} {m : Str → Option Value} {news : List (Addr × Obj)} {x y : Str} {t u : Tok} {Q : Value → Shared → Prop} {ws : List Str}
/-- split of a written text: its words, one letter for all their tokens -/
theorem split_w (hF : Fr h₀ L s.heap m) (hN : News h₀ L s.heap news) (hw : Txt.words x = ws) (hsz : x.length + 2 ≤ sizeLine)
    (h : ∀ D ts h' k, StrsAre (wordsV ts 0 ws) ws → Fr h₀ L h' m → News h₀ L h' ((D, listOf (wordsV ts 0 ws).toArray 0) :: news) → (∀ p ∈ news, p.1 < D) → Q (.ref D) { s with heap := h', toks := k }) :
    wpAny (model prog w) A (call (.builtin "str.split") [.str x t]) Q E s :=
  KSpl.split0 hF hN (fun D l h' k e a F N lt => by
    obtain ⟨ts, e2⟩ := words_at l
    rw [e2, e, hw] at a
    rw [e2, e, hw] at N
    exact h D ts h' k a F N lt) hsz
theorem split_b (hF : Fr h₀ L s.heap m) (hN : News h₀ L s.heap news) (hw : Txt.split x y = ws) (hy : (y.length == 0) = false) (hsz : x.length + 2 ≤ sizeLine)
    (h : ∀ D ts h' k, StrsAre (wordsV ts 0 ws) ws → Fr h₀ L h' m → News h₀ L h' ((D, listOf (wordsV ts 0 ws).toArray 0) :: news) → (∀ p ∈ news, p.1 < D) → Q (.ref D) { s with heap := h', toks := k }) :
    wpAny (model prog w) A (call (.builtin "str.split") [.str x t, .str y u]) Q E s :=
  KSpl.split1 hF hN hy (fun D l h' k e a F N lt => by
    obtain ⟨ts, e2⟩ := words_at l
    rw [e2, e, hw] at a
    rw [e2, e, hw] at N
    exact h D ts h' k a F N lt) hsz
end
theorem w8 : Txt.words (Str.ofString "al cl dl bl spl bpl sil dil") = [Str.ofString "al", Str.ofString "cl", Str.ofString "dl", Str.ofString "bl", Str.ofString "spl", Str.ofString "bpl", Str.ofString "sil", Str.ofString "dil"] := by decide +kernel
theorem w16 : Txt.words (Str.ofString "ax cx dx bx sp bp si di") = [Str.ofString "ax", Str.ofString "cx", Str.ofString "dx", Str.ofString "bx", Str.ofString "sp", Str.ofString "bp", Str.ofString "si", Str.ofString "di"] := by decide +kernel
theorem w32 : Txt.words (Str.ofString "eax ecx edx ebx esp ebp esi edi") = [Str.ofString "eax", Str.ofString "ecx", Str.ofString "edx", Str.ofString "ebx", Str.ofString "esp", Str.ofString "ebp", Str.ofString "esi", Str.ofString "edi"] := by decide +kernel
theorem w64 : Txt.words (Str.ofString "rax rcx rdx rbx rsp rbp rsi rdi") = [Str.ofString "rax", Str.ofString "rcx", Str.ofString "rdx", Str.ofString "rbx", Str.ofString "rsp", Str.ofString "rbp", Str.ofString "rsi", Str.ofString "rdi"] := by decide +kernel
theorem wsp : Txt.split (Str.ofString "0 2 4 6 7 11 10") (Str.ofString " ") = [Str.ofString "0", Str.ofString "2", Str.ofString "4", Str.ofString "6", Str.ofString "7", Str.ofString "11", Str.ofString "10"] := by decide +kernel
theorem sub21 {α : Type} {a b x : α} {l : List α} : ∀ p ∈ a :: b :: l, p ∈ a :: b :: x :: l := by intro p h; simp only [List.mem_cons] at h ⊢; rcases h with h | h | h <;> simp only [h, true_or, or_true]
theorem sub22 {α : Type} {a b x y : α} {l : List α} : ∀ p ∈ a :: b :: l, p ∈ a :: b :: x :: y :: l := by intro p h; simp only [List.mem_cons] at h ⊢; rcases h with h | h | h <;> simp only [h, true_or, or_true]
theorem sub23 {α : Type} {a b x y z : α} {l : List α} : ∀ p ∈ a :: b :: l, p ∈ a :: b :: x :: y :: z :: l := by intro p h; simp only [List.mem_cons] at h ⊢; rcases h with h | h | h <;> simp only [h, true_or, or_true]
section
variable {w : World} {dp un : Nat} {gd : Option (List Code)} {cn : Str} {cs : Scope} {a : Addr} {ccd : Value} {cl : List (Str × Addr)} {outer : List Env} {A₀ : Around} {base h₀ : Heap} {L : Addr} {m : Str → Option Value} {stH : Heap} {stG : Array GenState} {stD : Drawn} {stT : Nat} {stO : OsState} {Q E : Value → Shared → Prop} {p : Program} {loose : List Str} {mean : ExcName → Option Value} {mg mb : Str → Option Value} {news : List (Addr × Obj)}
    (B : Below A₀ base outer h₀) (F : Fr h₀ L stH m) (X : (hd.heap_39 w.params).In h₀) (T : Top p loose mean mg mb h₀) (hk : cs.kind = .function) (N : News h₀ L stH news)
include B F X T hk N
theorem c_gpr64l {k : Int} {t t2 : Tok} (hun : un + 300 < cLine) (k0 : 0 ≤ k) (k1 : k < 8) (hdp : dp + 10 < recursionLimit)
    (ret : ∀ G dG hG0 hG1 hG2 hG3 kG0 kG1 kG2 kG3 uG0 uG1 uG2 uG3 nm h' tk', Fr h₀ L h' m → News h₀ L h' ((G, instObj 314 dG) :: (dG, dictOf [⟨hG0, .str (Str.ofString "name") kG0, .str nm uG0⟩, ⟨hG1, .str (Str.ofString "kind") kG1, .str (Str.ofString "gpr") uG1⟩, ⟨hG2, .str (Str.ofString "number") kG2, .int k uG2⟩, ⟨hG3, .str (Str.ofString "size") kG3, .int 64 uG3⟩] 4) :: news) → (∀ p ∈ news, p.1 < dG) → dG < G → Q (.ref G) ⟨h', stG, stD, tk', stO⟩) :
    wpAny (model PySem.Challenge.rw_nn0065_01.row.prog w) (ktrTop dp un gd cn cs L a ccd cl outer) (call (.ref 339) [.int k t, .int 64 t2]) Q E ⟨stH, stG, stD, stT, stO⟩ := by
  k_dflt (refine' enter_def [(Str.ofString "number", .int k t), (Str.ofString "size", .int 64 t2)] ?k1 ?k2 ?k3 ?k4 ?k5 ?kA ?kF ?kK ?k6 ?k7 ?k8 ?k9 ?kB ?_ ?c2 ?c3 ?c4 ?c5; k_extra "en")
  k_steps
  (rename News h₀ L _ _ => N9)
  exact ret _ _ _ _ _ _ _ _ _ _ _ _ _ _ _ _ _ (by k_asm) (news_of N9 sub22) (by walk_at "belowN") (by assumption)
theorem c_gpr64h {k : Int} {t t2 : Tok} (hun : un + 300 < cLine) (k0 : 8 ≤ k) (k1 : k < 16) (hdp : dp + 10 < recursionLimit)
    (ret : ∀ G dG hG0 hG1 hG2 hG3 kG0 kG1 kG2 kG3 uG0 uG1 uG2 uG3 nm h' tk', Fr h₀ L h' m → News h₀ L h' ((G, instObj 314 dG) :: (dG, dictOf [⟨hG0, .str (Str.ofString "name") kG0, .str nm uG0⟩, ⟨hG1, .str (Str.ofString "kind") kG1, .str (Str.ofString "gpr") uG1⟩, ⟨hG2, .str (Str.ofString "number") kG2, .int k uG2⟩, ⟨hG3, .str (Str.ofString "size") kG3, .int 64 uG3⟩] 4) :: news) → (∀ p ∈ news, p.1 < dG) → dG < G → Q (.ref G) ⟨h', stG, stD, tk', stO⟩) :
    wpAny (model PySem.Challenge.rw_nn0065_01.row.prog w) (ktrTop dp un gd cn cs L a ccd cl outer) (call (.ref 339) [.int k t, .int 64 t2]) Q E ⟨stH, stG, stD, stT, stO⟩ := by
  k_dflt (refine' enter_def [(Str.ofString "number", .int k t), (Str.ofString "size", .int 64 t2)] ?k1 ?k2 ?k3 ?k4 ?k5 ?kA ?kF ?kK ?k6 ?k7 ?k8 ?k9 ?kB ?_ ?c2 ?c3 ?c4 ?c5; k_extra "en")
  k_steps
  (rename News h₀ L _ _ => N9)
  exact ret _ _ _ _ _ _ _ _ _ _ _ _ _ _ _ _ _ (by k_asm) (news_of N9 sub22) (by walk_at "belowN") (by assumption)
theorem c_gpr32l {k : Int} {t t2 : Tok} (hun : un + 300 < cLine) (k0 : 0 ≤ k) (k1 : k < 8) (hdp : dp + 10 < recursionLimit)
    (ret : ∀ G dG hG0 hG1 hG2 hG3 kG0 kG1 kG2 kG3 uG0 uG1 uG2 uG3 nm h' tk', Fr h₀ L h' m → News h₀ L h' ((G, instObj 314 dG) :: (dG, dictOf [⟨hG0, .str (Str.ofString "name") kG0, .str nm uG0⟩, ⟨hG1, .str (Str.ofString "kind") kG1, .str (Str.ofString "gpr") uG1⟩, ⟨hG2, .str (Str.ofString "number") kG2, .int k uG2⟩, ⟨hG3, .str (Str.ofString "size") kG3, .int 32 uG3⟩] 4) :: news) → (∀ p ∈ news, p.1 < dG) → dG < G → Q (.ref G) ⟨h', stG, stD, tk', stO⟩) :
    wpAny (model PySem.Challenge.rw_nn0065_01.row.prog w) (ktrTop dp un gd cn cs L a ccd cl outer) (call (.ref 339) [.int k t, .int 32 t2]) Q E ⟨stH, stG, stD, stT, stO⟩ := by
  k_dflt (refine' enter_def [(Str.ofString "number", .int k t), (Str.ofString "size", .int 32 t2)] ?k1 ?k2 ?k3 ?k4 ?k5 ?kA ?kF ?kK ?k6 ?k7 ?k8 ?k9 ?kB ?_ ?c2 ?c3 ?c4 ?c5; k_extra "en")
  k_steps
  (rename News h₀ L _ _ => N9)
  exact ret _ _ _ _ _ _ _ _ _ _ _ _ _ _ _ _ _ (by k_asm) (news_of N9 sub22) (by walk_at "belowN") (by assumption)
theorem c_gpr32h {k : Int} {t t2 : Tok} (hun : un + 300 < cLine) (k0 : 8 ≤ k) (k1 : k < 16) (hdp : dp + 10 < recursionLimit)
    (ret : ∀ G dG hG0 hG1 hG2 hG3 kG0 kG1 kG2 kG3 uG0 uG1 uG2 uG3 nm h' tk', Fr h₀ L h' m → News h₀ L h' ((G, instObj 314 dG) :: (dG, dictOf [⟨hG0, .str (Str.ofString "name") kG0, .str nm uG0⟩, ⟨hG1, .str (Str.ofString "kind") kG1, .str (Str.ofString "gpr") uG1⟩, ⟨hG2, .str (Str.ofString "number") kG2, .int k uG2⟩, ⟨hG3, .str (Str.ofString "size") kG3, .int 32 uG3⟩] 4) :: news) → (∀ p ∈ news, p.1 < dG) → dG < G → Q (.ref G) ⟨h', stG, stD, tk', stO⟩) :
    wpAny (model PySem.Challenge.rw_nn0065_01.row.prog w) (ktrTop dp un gd cn cs L a ccd cl outer) (call (.ref 339) [.int k t, .int 32 t2]) Q E ⟨stH, stG, stD, stT, stO⟩ := by
  k_dflt (refine' enter_def [(Str.ofString "number", .int k t), (Str.ofString "size", .int 32 t2)] ?k1 ?k2 ?k3 ?k4 ?k5 ?kA ?kF ?kK ?k6 ?k7 ?k8 ?k9 ?kB ?_ ?c2 ?c3 ?c4 ?c5; k_extra "en")
  k_steps
  (rename News h₀ L _ _ => N9)
  exact ret _ _ _ _ _ _ _ _ _ _ _ _ _ _ _ _ _ (by k_asm) (news_of N9 sub22) (by walk_at "belowN") (by assumption)
theorem c_gpr16l {k : Int} {t t2 : Tok} (hun : un + 300 < cLine) (k0 : 0 ≤ k) (k1 : k < 8) (hdp : dp + 10 < recursionLimit)
    (ret : ∀ G dG hG0 hG1 hG2 hG3 kG0 kG1 kG2 kG3 uG0 uG1 uG2 uG3 nm h' tk', Fr h₀ L h' m → News h₀ L h' ((G, instObj 314 dG) :: (dG, dictOf [⟨hG0, .str (Str.ofString "name") kG0, .str nm uG0⟩, ⟨hG1, .str (Str.ofString "kind") kG1, .str (Str.ofString "gpr") uG1⟩, ⟨hG2, .str (Str.ofString "number") kG2, .int k uG2⟩, ⟨hG3, .str (Str.ofString "size") kG3, .int 16 uG3⟩] 4) :: news) → (∀ p ∈ news, p.1 < dG) → dG < G → Q (.ref G) ⟨h', stG, stD, tk', stO⟩) :
    wpAny (model PySem.Challenge.rw_nn0065_01.row.prog w) (ktrTop dp un gd cn cs L a ccd cl outer) (call (.ref 339) [.int k t, .int 16 t2]) Q E ⟨stH, stG, stD, stT, stO⟩ := by
  k_dflt (refine' enter_def [(Str.ofString "number", .int k t), (Str.ofString "size", .int 16 t2)] ?k1 ?k2 ?k3 ?k4 ?k5 ?kA ?kF ?kK ?k6 ?k7 ?k8 ?k9 ?kB ?_ ?c2 ?c3 ?c4 ?c5; k_extra "en")
  k_steps
  (rename News h₀ L _ _ => N9)
  exact ret _ _ _ _ _ _ _ _ _ _ _ _ _ _ _ _ _ (by k_asm) (news_of N9 sub22) (by walk_at "belowN") (by assumption)
theorem c_gpr16h {k : Int} {t t2 : Tok} (hun : un + 300 < cLine) (k0 : 8 ≤ k) (k1 : k < 16) (hdp : dp + 10 < recursionLimit)
    (ret : ∀ G dG hG0 hG1 hG2 hG3 kG0 kG1 kG2 kG3 uG0 uG1 uG2 uG3 nm h' tk', Fr h₀ L h' m → News h₀ L h' ((G, instObj 314 dG) :: (dG, dictOf [⟨hG0, .str (Str.ofString "name") kG0, .str nm uG0⟩, ⟨hG1, .str (Str.ofString "kind") kG1, .str (Str.ofString "gpr") uG1⟩, ⟨hG2, .str (Str.ofString "number") kG2, .int k uG2⟩, ⟨hG3, .str (Str.ofString "size") kG3, .int 16 uG3⟩] 4) :: news) → (∀ p ∈ news, p.1 < dG) → dG < G → Q (.ref G) ⟨h', stG, stD, tk', stO⟩) :
    wpAny (model PySem.Challenge.rw_nn0065_01.row.prog w) (ktrTop dp un gd cn cs L a ccd cl outer) (call (.ref 339) [.int k t, .int 16 t2]) Q E ⟨stH, stG, stD, stT, stO⟩ := by
  k_dflt (refine' enter_def [(Str.ofString "number", .int k t), (Str.ofString "size", .int 16 t2)] ?k1 ?k2 ?k3 ?k4 ?k5 ?kA ?kF ?kK ?k6 ?k7 ?k8 ?k9 ?kB ?_ ?c2 ?c3 ?c4 ?c5; k_extra "en")
  k_steps
  (rename News h₀ L _ _ => N9)
  exact ret _ _ _ _ _ _ _ _ _ _ _ _ _ _ _ _ _ (by k_asm) (news_of N9 sub22) (by walk_at "belowN") (by assumption)
theorem c_gpr8l {k : Int} {t t2 : Tok} (hun : un + 300 < cLine) (k0 : 0 ≤ k) (k1 : k < 8) (hdp : dp + 10 < recursionLimit)
    (ret : ∀ G dG hG0 hG1 hG2 hG3 kG0 kG1 kG2 kG3 uG0 uG1 uG2 uG3 nm h' tk', Fr h₀ L h' m → News h₀ L h' ((G, instObj 314 dG) :: (dG, dictOf [⟨hG0, .str (Str.ofString "name") kG0, .str nm uG0⟩, ⟨hG1, .str (Str.ofString "kind") kG1, .str (Str.ofString "gpr") uG1⟩, ⟨hG2, .str (Str.ofString "number") kG2, .int k uG2⟩, ⟨hG3, .str (Str.ofString "size") kG3, .int 8 uG3⟩] 4) :: news) → (∀ p ∈ news, p.1 < dG) → dG < G → Q (.ref G) ⟨h', stG, stD, tk', stO⟩) :
    wpAny (model PySem.Challenge.rw_nn0065_01.row.prog w) (ktrTop dp un gd cn cs L a ccd cl outer) (call (.ref 339) [.int k t, .int 8 t2]) Q E ⟨stH, stG, stD, stT, stO⟩ := by
  k_dflt (refine' enter_def [(Str.ofString "number", .int k t), (Str.ofString "size", .int 8 t2)] ?k1 ?k2 ?k3 ?k4 ?k5 ?kA ?kF ?kK ?k6 ?k7 ?k8 ?k9 ?kB ?_ ?c2 ?c3 ?c4 ?c5; k_extra "en")
  k_steps
  (rename News h₀ L _ _ => N9)
  exact ret _ _ _ _ _ _ _ _ _ _ _ _ _ _ _ _ _ (by k_asm) (news_of N9 sub22) (by walk_at "belowN") (by assumption)
theorem c_gpr8h {k : Int} {t t2 : Tok} (hun : un + 300 < cLine) (k0 : 8 ≤ k) (k1 : k < 16) (hdp : dp + 10 < recursionLimit)
    (ret : ∀ G dG hG0 hG1 hG2 hG3 kG0 kG1 kG2 kG3 uG0 uG1 uG2 uG3 nm h' tk', Fr h₀ L h' m → News h₀ L h' ((G, instObj 314 dG) :: (dG, dictOf [⟨hG0, .str (Str.ofString "name") kG0, .str nm uG0⟩, ⟨hG1, .str (Str.ofString "kind") kG1, .str (Str.ofString "gpr") uG1⟩, ⟨hG2, .str (Str.ofString "number") kG2, .int k uG2⟩, ⟨hG3, .str (Str.ofString "size") kG3, .int 8 uG3⟩] 4) :: news) → (∀ p ∈ news, p.1 < dG) → dG < G → Q (.ref G) ⟨h', stG, stD, tk', stO⟩) :
    wpAny (model PySem.Challenge.rw_nn0065_01.row.prog w) (ktrTop dp un gd cn cs L a ccd cl outer) (call (.ref 339) [.int k t, .int 8 t2]) Q E ⟨stH, stG, stD, stT, stO⟩ := by
  k_dflt (refine' enter_def [(Str.ofString "number", .int k t), (Str.ofString "size", .int 8 t2)] ?k1 ?k2 ?k3 ?k4 ?k5 ?kA ?kF ?kK ?k6 ?k7 ?k8 ?k9 ?kB ?_ ?c2 ?c3 ?c4 ?c5; k_extra "en")
  k_steps
  (rename News h₀ L _ _ => N9)
  exact ret _ _ _ _ _ _ _ _ _ _ _ _ _ _ _ _ _ (by k_asm) (news_of N9 sub22) (by walk_at "belowN") (by assumption)
theorem c_gpr {k z : Int} {t t2 : Tok} (hun : un + 300 < cLine) (k0 : 0 ≤ k) (k1 : k < 16) (hz : z = 64 ∨ z = 32 ∨ z = 16 ∨ z = 8) (hdp : dp + 10 < recursionLimit)
    (ret : ∀ G dG hG0 hG1 hG2 hG3 kG0 kG1 kG2 kG3 uG0 uG1 uG2 uG3 nm h' tk', Fr h₀ L h' m → News h₀ L h' ((G, instObj 314 dG) :: (dG, dictOf [⟨hG0, .str (Str.ofString "name") kG0, .str nm uG0⟩, ⟨hG1, .str (Str.ofString "kind") kG1, .str (Str.ofString "gpr") uG1⟩, ⟨hG2, .str (Str.ofString "number") kG2, .int k uG2⟩, ⟨hG3, .str (Str.ofString "size") kG3, .int z uG3⟩] 4) :: news) → (∀ p ∈ news, p.1 < dG) → dG < G → Q (.ref G) ⟨h', stG, stD, tk', stO⟩) :
    wpAny (model PySem.Challenge.rw_nn0065_01.row.prog w) (ktrTop dp un gd cn cs L a ccd cl outer) (call (.ref 339) [.int k t, .int z t2]) Q E ⟨stH, stG, stD, stT, stO⟩ := by
  by_cases h : k < 8
  · rcases hz with rfl | rfl | rfl | rfl
    · exact c_gpr64l B F X T hk N hun k0 h hdp ret
    · exact c_gpr32l B F X T hk N hun k0 h hdp ret
    · exact c_gpr16l B F X T hk N hun k0 h hdp ret
    · exact c_gpr8l B F X T hk N hun k0 h hdp ret
  · have h' : 8 ≤ k := by omega
    rcases hz with rfl | rfl | rfl | rfl
    · exact c_gpr64h B F X T hk N hun h' k1 hdp ret
    · exact c_gpr32h B F X T hk N hun h' k1 hdp ret
    · exact c_gpr16h B F X T hk N hun h' k1 hdp ret
    · exact c_gpr8h B F X T hk N hun h' k1 hdp ret
end
example : True := by
  k_with "binaryOp Mult int int" => ((k_here; refine mul_int ?_ (Mine.octMul (by with_reducible assumption) _ _)))
  k_with "call ref" => ((k_here; (with_reducible show wpAny _ _ (PySem.call (Value.ref 815) _ _) _ _ _); k_dflt (refine' Mine.c_top ?B ?F ?X ?T ?k ?N ?d ?_; (case B => k_asm); (case F => k_asm); (case X => k_asm); (case T => k_asm); (case k => first | exact rfl | assumption); (case N => k_asm); (case d => ktr_room)); intro h' tk' t' F' N'; (try dsimp only at N'); (try k_sweep)))
  k_with "call ref" => ((k_here; (with_reducible show wpAny _ _ (PySem.call (Value.ref 829) _ _) _ _ _); k_dflt (refine' Mine.c_take ?B ?F ?X ?T ?k ?N ?mH ?D ?w0 ?w ?d ?_; (case B => k_asm); (case F => k_asm); (case X => k_asm); (case T => k_asm); (case k => first | exact rfl | assumption); (case N => k_asm); (case mH => k_mem); (case D => k_asm); (case w0 => first | omega | decide); (case w => first | omega | decide); (case d => ktr_room)); intro h' tk' t' F' N'; (try dsimp only at N'); (try k_sweep)))
  k_with "binaryOp FloorDiv int int" => ((k_here; (with_reducible refine floordiv_int (Int.ne_of_gt (Mine.kbt_256 _)) ?_ (Or.inl (PyProof.noPylong_of_log2 (Mine.py256 ?kbp)))); (case kbp => omega)))
  k_with "call ref" => ((k_here; (with_reducible show wpAny _ _ (PySem.call (Value.ref 836) _ _) _ _ _); k_dflt (refine' Mine.c_lay ?B ?F ?X ?T ?k ?N ?U ?D ?c ?w0 ?w1 ?d ?_; (case B => k_asm); (case F => k_asm); (case X => k_asm); (case T => k_asm); (case k => first | exact rfl | assumption); (case N => k_asm); (case U => k_updF); (case D => k_asm); (case c => omega); (case w0 => first | omega | decide); (case w1 => first | omega | decide); (case d => ktr_room)); intro h' tk' o' F' N' D'; (try dsimp only at N'); (try k_sweep)))
  k_with "call ref" => ((k_here; (with_reducible show wpAny _ _ (PySem.call (Value.ref 843) _ _) _ _ _); k_dflt (refine' Mine.c_set ?B ?F ?X ?T ?k ?N ?a0 ?a1 ?d ?_; (case B => k_asm); (case F => k_asm); (case X => k_asm); (case T => k_asm); (case k => first | exact rfl | assumption); (case N => k_asm); (case a0 => first | omega | decide); (case a1 => first | omega | decide); (case d => ktr_room)); intro h' tk' t' F' N'; (try dsimp only at N'); (try k_sweep)))
  k_with "call ref" => ((k_here; (with_reducible show wpAny _ _ (PySem.call (Value.ref 864) _ _) _ _ _); k_dflt (refine' Mine.c_packed ?B ?F ?X ?T ?k ?N ?mB ?hb ?d ?_; (case B => k_asm); (case F => k_asm); (case X => k_asm); (case T => k_asm); (case k => first | exact rfl | assumption); (case N => k_asm); (case mB => k_mem); (case hb => first | with_reducible assumption | (constructor <;> with_reducible assumption)); (case d => ktr_room)); intro h' tk' t' F' N'; (try dsimp only at N'); (try k_sweep)))
  trivial
theorem octMul {c : List (Int × Int)} (h : ∀ p ∈ c, 0 ≤ p.2 ∧ p.2 < 256) (k b : Int) : PySem.IntMulOk (kdfLook c k 0) b :=
  PySem.IntMulOk.of_left (PySem.intBits_le_64 (by have := kdfLook_octet h k; omega) (by have := kdfLook_octet h k; omega))
theorem rdM_step2 {c : List (Int × Int)} {v k tot : Int} {pre : List Int} (ht : tot = rdM c v pre.length) (hk : k = 0 + (pre.length : Int)) :
    tot + kdfLook c ((v + k) % 18446744073709551616) 0 * 256 ^ k.toNat = rdM c v (pre ++ [k]).length := by
  have e : k = (pre.length : Int) := by omega
  subst e
  subst ht
  rw [Int.toNat_natCast, List.length_append]; rfl
theorem rdM_step3 {c : List (Int × Int)} {v k tot : Int} {pre : List Int} (ht : tot = rdM c v pre.length) (hk : k = 0 + (pre.length : Int)) :
    tot + kdfLook c ((v + k).fmod 18446744073709551616) 0 * 256 ^ k.toNat = rdM c v (pre ++ [k]).length := by
  rw [Int.fmod_eq_emod_of_nonneg _ (by decide)]; exact rdM_step2 ht hk
theorem fmod64 (v : Int) : v.fmod 18446744073709551616 = v % 18446744073709551616 := Int.fmod_eq_emod_of_nonneg _ (by decide)
section
variable {w : World} {dp un : Nat} {gd : Option (List Code)} {cn : Str} {cs : Scope} {a : Addr} {ccd : Value} {cl : List (Str × Addr)} {outer : List Env} {A₀ : Around} {base h₀ : Heap} {L : Addr} {m : Str → Option Value} {stH : Heap} {stG : Array GenState} {stD : Drawn} {stT : Nat} {stO : OsState} {Q E : Value → Shared → Prop} {p : Program} {loose : List Str} {mean : ExcName → Option Value} {mg mb : Str → Option Value} {news : List (Addr × Obj)}
    (B : Below A₀ base outer h₀) (F : Fr h₀ L stH m) (X : (hd.heap_39 w.params).In h₀) (T : Top p loose mean mg mb h₀) (hk : cs.kind = .function) (N : News h₀ L stH news)
include B F X T hk N
theorem c_top (hdp : dp + 2 < recursionLimit)
    (ret : ∀ h' tk' t', Fr h₀ L h' m → News h₀ L h' news → Q (.int 18446744073709551616 t') ⟨h', stG, stD, tk', stO⟩) :
    wpAny (model PySem.Challenge.rw_nn0065_01.row.prog w) (ktrTop dp un gd cn cs L a ccd cl outer) (call (.ref 815) []) Q E ⟨stH, stG, stD, stT, stO⟩ := by
  k_dflt (refine' enter_def [] ?k1 ?k2 ?k3 ?k4 ?k5 ?kA ?kF ?kK ?k6 ?k7 ?k8 ?k9 ?kB ?_ ?c2 ?c3 ?c4 ?c5; k_extra "en")
  k_steps
  rw [p64]
  exact ret _ _ _ (by k_asm) (by k_asm)
end
section
variable {w : World} {dp un : Nat} {gd : Option (List Code)} {cn : Str} {cs : Scope} {a : Addr} {ccd : Value} {cl : List (Str × Addr)} {outer : List Env} {A₀ : Around} {base h₀ : Heap} {L : Addr} {m : Str → Option Value} {stH : Heap} {stG : Array GenState} {stD : Drawn} {stT : Nat} {stO : OsState} {Q E : Value → Shared → Prop} {p : Program} {loose : List Str} {mean : ExcName → Option Value} {mg mb : Str → Option Value} {news : List (Addr × Obj)}
    (B : Below A₀ base outer h₀) (F : Fr h₀ L stH m) (X : (hd.heap_39 w.params).In h₀) (T : Top p loose mean mg mb h₀) (hk : cs.kind = .function) (N : News h₀ L stH news)
include B F X T hk N
theorem c_take {H : Addr} {oH : Obj} {c : List (Int × Int)} {v wd : Int} {t t2 : Tok} (mH : (H, oH) ∈ news) (D : DI w H oH c) (hw0 : 0 ≤ wd) (hw : wd ≤ 8) (hdp : dp + 4 < recursionLimit)
    (ret : ∀ h' tk' t', Fr h₀ L h' m → News h₀ L h' news → Q (.int (rdM c v wd.toNat) t') ⟨h', stG, stD, tk', stO⟩) :
    wpAny (model PySem.Challenge.rw_nn0065_01.row.prog w) (ktrTop dp un gd cn cs L a ccd cl outer) (call (.ref 829) [.ref H, .int v t, .int wd t2]) Q E ⟨stH, stG, stD, stT, stO⟩ := by
  obtain ⟨lo, kvs, hd, hf, ho⟩ := D
  k_dflt (refine' enter_def [(Str.ofString "held", .ref H), (Str.ofString "at", .int v t), (Str.ofString "width", .int wd t2)] ?k1 ?k2 ?k3 ?k4 ?k5 ?kA ?kF ?kK ?k6 ?k7 ?k8 ?k9 ?kB ?_ ?c2 ?c3 ?c4 ?c5; k_extra "en")
  have lM := LoopMark.mk
  k_steps
  refine stop_out ?_
  k_state (fun pre tot => tot = rdM c v pre.length) "total"
  · k_steps
    refine stop_out ?_
    (k_with "state" => first | exact rdM_step2 (by assumption) (by assumption) | exact rdM_step3 (by assumption) (by assumption))
    kst_close
  · k_steps
    (rename _ = rdM _ _ _ => hr9)
    rw [rangeKs_length] at hr9
    subst hr9
    rw [Int.sub_zero]
    exact ret _ _ _ (by k_asm) (by k_asm)
end
theorem kbt_256 (k : Nat) : (0 : Int) < 256 ^ k := pow_pos_of (by decide) k
theorem py256 {n : Int} (h : n < 1000) : ((256 : Int) ^ n.toNat).natAbs.log2 < 9000 := by
  have hc : ((256 ^ n.toNat : Nat) : Int) = (256 : Int) ^ n.toNat := by simp
  have e : ((256 : Int) ^ n.toNat).natAbs = 256 ^ n.toNat := by rw [← hc]; exact Int.natAbs_natCast _
  rw [e]
  refine (Nat.log2_lt (Nat.ne_of_gt (Nat.pow_pos (by decide)))).mpr ?_
  rw [show (256 : Nat) = 2 ^ 8 by rfl, ← Nat.pow_mul]
  exact Nat.pow_lt_pow_right (by decide) (by omega)
theorem fd256 (e : Int) (k : Nat) : ((e.fdiv (256 ^ k)).fmod 256) = e / 256 ^ k % 256 := by
  rw [Int.fmod_eq_emod_of_nonneg _ (by decide), Int.fdiv_eq_ediv_of_nonneg _ (Int.le_of_lt (kbt_256 k))]
section
variable {w : World} {dp un : Nat} {gd : Option (List Code)} {cn : Str} {cs : Scope} {a : Addr} {ccd : Value} {cl : List (Str × Addr)} {outer : List Env} {A₀ : Around} {base h₀ : Heap} {L : Addr} {m : Str → Option Value} {stH : Heap} {stG : Array GenState} {stD : Drawn} {stT : Nat} {stO : OsState} {Q E : Value → Shared → Prop} {p : Program} {loose : List Str} {mean : ExcName → Option Value} {mg mb : Str → Option Value} {news : List (Addr × Obj)}
    (B : Below A₀ base outer h₀) (F : Fr h₀ L stH m) (X : (hd.heap_39 w.params).In h₀) (T : Top p loose mean mg mb h₀) (hk : cs.kind = .function) (N : News h₀ L stH news)
include B F X T hk N
theorem c_lay {H : Addr} {oH : Obj} {c : List (Int × Int)} {v wd e : Int} {t t2 t3 : Tok} {u : Obj → List (Addr × Obj)} (U : UpdF H oH news u) (D : DI w H oH c) (hc : c.length ≤ 100000) (hw0 : 0 ≤ wd) (hw : wd ≤ 8) (hdp : dp + 4 < recursionLimit)
    (ret : ∀ h' tk' o', Fr h₀ L h' m → News h₀ L h' (u o') → DI w H o' (wrM c v e wd.toNat) → Q .none ⟨h', stG, stD, tk', stO⟩) :
    wpAny (model PySem.Challenge.rw_nn0065_01.row.prog w) (ktrTop dp un gd cn cs L a ccd cl outer) (call (.ref 836) [.ref H, .int v t, .int wd t2, .int e t3]) Q E ⟨stH, stG, stD, stT, stO⟩ := by
  obtain ⟨rest, hoff, hu, hn⟩ := upd_open U
  replace N := news_of N (fun p hp => (hn p).mpr hp)
  clear U hn
  k_dflt (refine' enter_def [(Str.ofString "held", .ref H), (Str.ofString "at", .int v t), (Str.ofString "width", .int wd t2), (Str.ofString "worth", .int e t3)] ?k1 ?k2 ?k3 ?k4 ?k5 ?kA ?kF ?kK ?k6 ?k7 ?k8 ?k9 ?kB ?_ ?c2 ?c3 ?c4 ?c5; k_extra "en")
  have lM := LoopMark.mk
  k_steps
  refine stop_out ?_
  (rename IsRange _ _ _ _ _ _ _ _ => rgX)
  (rename Fr _ _ _ _ => lF)
  (rename News _ _ _ _ => lN)
  refine' loop_range1 (n := wd.toNat) (fun i nx => ∃ o, nx = (H, o) :: rest ∧ DI w H o (wrM c v e i)) (by rfl) rgX (by exact small_one (by omega) (by omega) (by omega) (by omega)) (by rw [rangeSize_nat, Int.sub_zero]) lF lN ⟨oH, rfl, D⟩ ?_ ?_
  · rintro i t' nx h' tk' own hi hoff' ⟨o, rfl, D'⟩ F' N'
    clear lF lN rgX
    obtain ⟨lo, kvs, hd, hf, ho⟩ := D'
    have hU : UpdF H o ((H, o) :: (rest ++ own)) (fun o => (H, o) :: (rest ++ own)) := .head (ownOff1 hoff hoff' (.head _))
    have hr := oct_range e i
    have hlen := wrM_len c v e i
    rw [show (0 : Int) + (i : Int) = i by omega] at F'
    rw [List.cons_append] at N'
    (try k_fold)
    k_steps
    (rename FlatPairs _ _ (kdfD (kdfPut _ _ _)) => hf9)
    (rename Obj.IsDictOf _ _ (_ : List (Int × Value)) => hd9)
    have hoff2 : OwnOff own (H :: rest.map (·.1)) := hoff'
    rw [Int.toNat_natCast, fd256] at hf9
    (try rw [fmod64] at hf9)
    show TurnEnd _ _ _ _ _ _
    refine TurnEnd.intro (nx := (H, _) :: rest) (by k_asm) (by k_asm) hoff2 ⟨⟨_, rfl, lo, _, hd9, hf9, kdfPut_octet ho _ hr.1 hr.2⟩, ?_⟩
    intro z hz
    simp only [if_neg hz]
  · rintro u nx h' tk' ⟨o, rfl, D'⟩ F' N'
    clear lF lN rgX
    (try k_fold)
    k_steps
    exact ret _ _ _ (by k_asm) (news_of (by k_asm) fun p hp => (hu _ p).mp hp) D'
end
noncomputable def setZ (old v z : Int) : Int := if z > 16 then v % 2 ^ z.toNat else old - old % 2 ^ z.toNat + v % 2 ^ z.toNat
section
variable {w : World} {dp un : Nat} {gd : Option (List Code)} {cn : Str} {cs : Scope} {a : Addr} {ccd : Value} {cl : List (Str × Addr)} {outer : List Env} {A₀ : Around} {base h₀ : Heap} {L : Addr} {m : Str → Option Value} {stH : Heap} {stG : Array GenState} {stD : Drawn} {stT : Nat} {stO : OsState} {Q E : Value → Shared → Prop} {p : Program} {loose : List Str} {mean : ExcName → Option Value} {mg mb : Str → Option Value} {news : List (Addr × Obj)}
    (B : Below A₀ base outer h₀) (F : Fr h₀ L stH m) (X : (hd.heap_39 w.params).In h₀) (T : Top p loose mean mg mb h₀) (hk : cs.kind = .function) (N : News h₀ L stH news)
include B F X T hk N
theorem c_set {old v z : Int} {t t2 t3 : Tok} (z0 : 0 ≤ z) (z1 : z ≤ 64) (hdp : dp + 4 < recursionLimit)
    (ret : ∀ h' tk' t', Fr h₀ L h' m → News h₀ L h' news → Q (.int (setZ old v z) t') ⟨h', stG, stD, tk', stO⟩) :
    wpAny (model PySem.Challenge.rw_nn0065_01.row.prog w) (ktrTop dp un gd cn cs L a ccd cl outer) (call (.ref 843) [.int old t, .int v t2, .int z t3]) Q E ⟨stH, stG, stD, stT, stO⟩ := by
  k_dflt (refine' enter_def [(Str.ofString "old", .int old t), (Str.ofString "worth", .int v t2), (Str.ofString "bits", .int z t3)] ?k1 ?k2 ?k3 ?k4 ?k5 ?kA ?kF ?kK ?k6 ?k7 ?k8 ?k9 ?kB ?_ ?c2 ?c3 ?c4 ?c5; k_extra "en")
  k_steps
  · rw [fmod_pow2, show v % 2 ^ z.toNat = setZ old v z from (if_pos (by omega)).symm]
    exact ret _ _ _ (by k_asm) (by k_asm)
  · rw [fmod_pow2, fmod_pow2, show old - old % 2 ^ z.toNat + v % 2 ^ z.toNat = setZ old v z from (if_neg (by omega)).symm]
    exact ret _ _ _ (by k_asm) (by k_asm)
end
noncomputable def spotL : List Int := [0, 2, 4, 6, 7, 11, 10]
theorem spot_range (i : Nat) : 0 ≤ ([0, 2, 4, 6, 7, 11, 10] : List Int).getD i 0 ∧ ([0, 2, 4, 6, 7, 11, 10] : List Int).getD i 0 ≤ 11 := by
  match i with
  | 0 | 1 | 2 | 3 | 4 | 5 | 6 => exact ⟨by decide, by decide⟩
  | n + 7 => exact ⟨Int.le_refl 0, by show (0 : Int) ≤ 11; decide⟩
theorem BitsOK.at {b0 b1 b2 b3 b4 b5 b6 : Int} (h : BitsOK b0 b1 b2 b3 b4 b5 b6) (i : Nat) : 0 ≤ [b0, b1, b2, b3, b4, b5, b6].getD i 0 ∧ [b0, b1, b2, b3, b4, b5, b6].getD i 0 ≤ 1 := by
  match i with
  | 0 => exact ⟨h.e0, h.f0⟩
  | 1 => exact ⟨h.e1, h.f1⟩
  | 2 => exact ⟨h.e2, h.f2⟩
  | 3 => exact ⟨h.e3, h.f3⟩
  | 4 => exact ⟨h.e4, h.f4⟩
  | 5 => exact ⟨h.e5, h.f5⟩
  | 6 => exact ⟨h.e6, h.f6⟩
  | n + 7 => exact ⟨Int.le_refl 0, by show (0 : Int) ≤ 1; decide⟩
noncomputable def packP (bs : List Int) : Nat → Int
  | 0 => 2
  | n + 1 => packP bs n + bs.getD n 0 * 2 ^ (spotL.getD n 0).toNat
theorem packP7 (b0 b1 b2 b3 b4 b5 b6 : Int) : packP [b0, b1, b2, b3, b4, b5, b6] 7 = packB b0 b1 b2 b3 b4 b5 b6 := by
  show 2 + b0 * 1 + b1 * 4 + b2 * 16 + b3 * 64 + b4 * 128 + b5 * 2048 + b6 * 1024 = 2 + b0 + b1 * 4 + b2 * 16 + b3 * 64 + b4 * 128 + b5 * 2048 + b6 * 1024
  omega
section
variable {w : World} {dp un : Nat} {gd : Option (List Code)} {cn : Str} {cs : Scope} {a : Addr} {ccd : Value} {cl : List (Str × Addr)} {outer : List Env} {A₀ : Around} {base h₀ : Heap} {L : Addr} {m : Str → Option Value} {stH : Heap} {stG : Array GenState} {stD : Drawn} {stT : Nat} {stO : OsState} {Q E : Value → Shared → Prop} {p : Program} {loose : List Str} {mean : ExcName → Option Value} {mg mb : Str → Option Value} {news : List (Addr × Obj)}
    (B : Below A₀ base outer h₀) (F : Fr h₀ L stH m) (X : (hd.heap_39 w.params).In h₀) (T : Top p loose mean mg mb h₀) (hk : cs.kind = .function) (N : News h₀ L stH news)
include B F X T hk N
theorem c_packed {b0 b1 b2 b3 b4 b5 b6 : Int} {tb0 tb1 tb2 tb3 tb4 tb5 tb6 : Tok} {Bt : Addr} {nB : Nat} (mB : (Bt, { cls := .type "tuple", data := .seq (List.toArray [.int b0 tb0, .int b1 tb1, .int b2 tb2, .int b3 tb3, .int b4 tb4, .int b5 tb5, .int b6 tb6]) nB }) ∈ news) (hb : BitsOK b0 b1 b2 b3 b4 b5 b6) (hdp : dp + 4 < recursionLimit)
    (ret : ∀ h' tk' t', Fr h₀ L h' m → News h₀ L h' news → Q (.int (packB b0 b1 b2 b3 b4 b5 b6) t') ⟨h', stG, stD, tk', stO⟩) :
    wpAny (model PySem.Challenge.rw_nn0065_01.row.prog w) (ktrTop dp un gd cn cs L a ccd cl outer) (call (.ref 864) [.ref Bt]) Q E ⟨stH, stG, stD, stT, stO⟩ := by
  k_dflt (refine' enter_def [(Str.ofString "bits", .ref Bt)] ?k1 ?k2 ?k3 ?k4 ?k5 ?kA ?kF ?kK ?k6 ?k7 ?k8 ?k9 ?kB ?_ ?c2 ?c3 ?c4 ?c5; k_extra "en")
  have lM := LoopMark.mk
  k_steps
  refine stop_out ?_
  (rename IsRange _ _ _ _ _ _ _ _ => rgX)
  (rename Fr _ _ _ _ => lF)
  (rename News _ _ _ _ => lN)
  refine' loop_range (n := 7) (fun i m1 nx => (∃ t u, m1 = fun y => if y = Str.ofString "spot" then u else if y = Str.ofString "total" then some (.int (packP [b0, b1, b2, b3, b4, b5, b6] i) t) else if y = Str.ofString "bits" then some (.ref Bt) else none) ∧ news = nx) (by rfl) rgX (by decide) (by decide) (fr_none (x := Str.ofString "spot") lF rfl) lN ⟨⟨_, none, rfl⟩, rfl⟩ ?_ ?_
  · rintro i t' m₁ nx h5 tk5 own hi hoff ⟨⟨tt, u, rfl⟩, rfl⟩ F5 N5
    clear lF lN rgX
    have mB' := List.mem_append_left own mB
    rw [show (0 : Int) + (i : Int) = i by omega] at F5
    generalize hr2 : news ++ own = r2 at N5 mB'
    clear mB N
    have s0 := spot_range (Int.toNat (i : Int))
    have s1 := hb.at (Int.toNat (i : Int))
    obtain ⟨s0, s2⟩ := s0
    obtain ⟨s1, s3⟩ := s1
    k_steps
    (rename Fr g' L' _ _ => F9)
    (rename News g' L' _ _ => N9)
    have Z : ∃ t : Tok, Fr g' L' _ (fun y => if y = Str.ofString "total" then some (.int (packP [b0, b1, b2, b3, b4, b5, b6] (i + 1)) t) else if y = Str.ofString "spot" then some (.int (i : Int) t') else if y = Str.ofString "spot" then u else if y = Str.ofString "total" then some (.int (packP [b0, b1, b2, b3, b4, b5, b6] i) tt) else if y = Str.ofString "bits" then some (.ref Bt) else none) := ⟨_, F9⟩
    obtain ⟨t9, F8⟩ := Z
    subst hr2
    show TurnEnd _ _ _ _ _ _
    refine TurnEnd.intro (nx := news) (fr_to F8 ?fe) (news_of N9 fun p hp => .tail _ hp) hoff ⟨⟨t9, some (.int (i : Int) t'), rfl⟩, rfl⟩
    intro y
    by_cases h1 : y = Str.ofString "spot"
    · subst h1; rfl
    by_cases h2 : y = Str.ofString "total"
    · subst h2; rfl
    simp only [if_neg h1, if_neg h2]
  · rintro m₁ nx h5 tk5 ⟨⟨tt, u, rfl⟩, rfl⟩ F5 N5
    clear lF lN rgX
    rw [packP7] at F5
    k_steps
    exact ret _ _ _ (by k_asm) (by k_asm)
end
example : True := by
  k_with "call ref" => ((k_here; (with_reducible show wpAny _ _ (PySem.call (Value.ref 850) _ _) _ _ _); k_dflt (refine' Mine.c_lpush ?B ?F ?X ?T ?k ?N ?U1 ?U ?iW ?D ?a1 ?a2 ?a3 ?a4 ?d ?_; (case B => k_asm); (case F => k_asm); (case X => k_asm); (case T => k_asm); (case k => first | exact rfl | assumption); (case N => k_asm); (case U1 => k_updF); (case U => intro _; k_updF); (case iW => l_ints); (case D => k_asm); (case a1 => omega); (case a2 => omega); (case a3 => first | omega | decide); (case a4 => first | omega | decide); (case d => ktr_room)); intro h' tk' vs' o' F' N' I' D'; (try dsimp only at N'); (try k_sweep)))
  k_with "call ref" => ((k_here; (with_reducible show wpAny _ _ (PySem.call (Value.ref 857) _ _) _ _ _); k_dflt (refine' Mine.c_lpop ?B ?F ?X ?T ?k ?N ?U ?iW ?mHD ?D ?a1 ?a2 ?a3 ?d ?_; (case B => k_asm); (case F => k_asm); (case X => k_asm); (case T => k_asm); (case k => first | exact rfl | assumption); (case N => k_asm); (case U => k_updF); (case mHD => first | with_reducible assumption | (intros; k_mem)); (case iW => l_ints); (case D => k_asm); (case a1 => omega); (case a2 => first | omega | decide); (case a3 => first | omega | decide); (case d => ktr_room)); intro h' tk' vs' t' F' N' I'; (try dsimp only at N'); (try k_sweep)))
  k_with "CompRest" => (((with_reducible rename Mine.UnpMark => lM9); clear lM9; refine stop_intro ?_))
  k_with "call ref" => ((k_here; (with_reducible show wpAny _ _ (PySem.call (Value.ref 869) _ _) _ _ _); k_dflt (refine' Mine.c_unpacked ?B ?F ?X ?T ?k ?N ?d ?_; (case B => k_asm); (case F => k_asm); (case X => k_asm); (case T => k_asm); (case k => first | exact rfl | assumption); (case N => k_asm); (case d => ktr_room)); intro q' t0' t1' t2' t3' t4' t5' t6' nq' h' tk' F' N' l1; (try dsimp only at N'); (try k_lt l1); (try k_sweep)))
  trivial
section
variable {w : World} {dp un : Nat} {gd : Option (List Code)} {cn : Str} {cs : Scope} {a : Addr} {ccd : Value} {cl : List (Str × Addr)} {outer : List Env} {A₀ : Around} {base h₀ : Heap} {L : Addr} {m : Str → Option Value} {stH : Heap} {stG : Array GenState} {stD : Drawn} {stT : Nat} {stO : OsState} {Q E : Value → Shared → Prop} {p : Program} {loose : List Str} {mean : ExcName → Option Value} {mg mb : Str → Option Value} {news : List (Addr × Obj)}
    (B : Below A₀ base outer h₀) (F : Fr h₀ L stH m) (X : (hd.heap_39 w.params).In h₀) (T : Top p loose mean mg mb h₀) (hk : cs.kind = .function) (N : News h₀ L stH news)
include B F X T hk N
theorem c_lpush {HD W : Addr} {vsW : List Value} {ws : List Int} {nW : Nat} {oD : Obj} {c : List (Int × Int)} {v wd : Int} {t t2 : Tok} {u1 : Obj → List (Addr × Obj)} {u : Obj → Obj → List (Addr × Obj)} (U1 : UpdF W (listOf vsW.toArray nW) news u1) (U : ∀ o, UpdF HD oD (u1 o) (u o)) (iW : IntsAre vsW ws) (D : DI w HD oD c) (h1 : ws.length = 16) (hc : c.length ≤ 100000) (y0 : 0 ≤ wd) (y1 : wd ≤ 8) (hdp : dp + 6 < recursionLimit)
    (ret : ∀ h' tk' vs' o', Fr h₀ L h' m → News h₀ L h' (u (listOf vs'.toArray nW) o') → IntsAre vs' (ws.set 4 ((ws.getD 4 0 - wd) % 18446744073709551616)) → DI w HD o' (wrM c ((ws.getD 4 0 - wd) % 18446744073709551616) v wd.toNat) → Q .none ⟨h', stG, stD, tk', stO⟩) :
    wpAny (model PySem.Challenge.rw_nn0065_01.row.prog w) (ktrTop dp un gd cn cs L a ccd cl outer) (call (.ref 850) [.ref HD, .ref W, .int v t, .int wd t2]) Q E ⟨stH, stG, stD, stT, stO⟩ := by
  obtain ⟨rest, hRH, hoR, hoH, hu, hn⟩ := upd_open2 U1 U
  replace N := news_of N (fun p hp => (hn p).mpr hp)
  clear U1 U hn
  k_dflt (refine' enter_def [(Str.ofString "held", .ref HD), (Str.ofString "worths", .ref W), (Str.ofString "worth", .int v t), (Str.ofString "width", .int wd t2)] ?k1 ?k2 ?k3 ?k4 ?k5 ?kA ?kF ?kK ?k6 ?k7 ?k8 ?k9 ?kB ?_ ?c2 ?c3 ?c4 ?c5; k_extra "en")
  k_steps
  (rename DI _ _ _ (wrM _ _ _ _) => D9)
  rw [getD_set (by rw [h1]; decide)] at D9
  (try rw [fmod64] at D9)
  (rename IntsAre _ (List.set _ _ _) => I9)
  (rename News h₀ L _ _ => N9)
  exact ret _ _ _ _ (by k_asm) (news_of N9 fun p hp => (hu _ _ p).mp hp) (by first | exact I9 | (rw [← fmod64]; exact I9)) D9
end
section
variable {w : World} {dp un : Nat} {gd : Option (List Code)} {cn : Str} {cs : Scope} {a : Addr} {ccd : Value} {cl : List (Str × Addr)} {outer : List Env} {A₀ : Around} {base h₀ : Heap} {L : Addr} {m : Str → Option Value} {stH : Heap} {stG : Array GenState} {stD : Drawn} {stT : Nat} {stO : OsState} {Q E : Value → Shared → Prop} {p : Program} {loose : List Str} {mean : ExcName → Option Value} {mg mb : Str → Option Value} {news : List (Addr × Obj)}
    (B : Below A₀ base outer h₀) (F : Fr h₀ L stH m) (X : (hd.heap_39 w.params).In h₀) (T : Top p loose mean mg mb h₀) (hk : cs.kind = .function) (N : News h₀ L stH news)
include B F X T hk N
theorem c_lpop {HD W : Addr} {vsW : List Value} {ws : List Int} {nW : Nat} {oD : Obj} {c : List (Int × Int)} {wd : Int} {t2 : Tok} {u : Obj → List (Addr × Obj)} (U : UpdF W (listOf vsW.toArray nW) news u) (iW : IntsAre vsW ws) (mHD : ∀ o, (HD, oD) ∈ u o) (D : DI w HD oD c) (h1 : ws.length = 16) (y0 : 0 ≤ wd) (y1 : wd ≤ 8) (hdp : dp + 6 < recursionLimit)
    (ret : ∀ h' tk' vs' t', Fr h₀ L h' m → News h₀ L h' (u (listOf vs'.toArray nW)) → IntsAre vs' (ws.set 4 ((ws.getD 4 0 + wd) % 18446744073709551616)) → Q (.int (rdM c (ws.getD 4 0) wd.toNat) t') ⟨h', stG, stD, tk', stO⟩) :
    wpAny (model PySem.Challenge.rw_nn0065_01.row.prog w) (ktrTop dp un gd cn cs L a ccd cl outer) (call (.ref 857) [.ref HD, .ref W, .int wd t2]) Q E ⟨stH, stG, stD, stT, stO⟩ := by
  obtain ⟨rest, hoR, hu, hn⟩ := upd_open U
  replace mHD := upd_rest hu mHD
  replace N := news_of N (fun p hp => (hn p).mpr hp)
  clear U hn
  k_dflt (refine' enter_def [(Str.ofString "held", .ref HD), (Str.ofString "worths", .ref W), (Str.ofString "width", .int wd t2)] ?k1 ?k2 ?k3 ?k4 ?k5 ?kA ?kF ?kK ?k6 ?k7 ?k8 ?k9 ?kB ?_ ?c2 ?c3 ?c4 ?c5; k_extra "en")
  k_steps
  (rename IntsAre _ (List.set _ _ _) => I9)
  (rename News h₀ L _ _ => N9)
  exact ret _ _ _ _ (by k_asm) (news_of N9 fun p hp => (hu _ p).mp hp) (by first | exact I9 | (rw [← fmod64]; exact I9))
end
theorem bitF (v : Int) (k : Nat) : (v.fdiv (2 ^ k)).fmod 2 = bitZ v k := by
  rw [fdiv_pow2, Int.fmod_eq_emod_of_nonneg _ (by decide)]; rfl
noncomputable def PurePost (g h₀ : Heap) (L' L : Addr) (m : Str → Option Value) (news : List (Addr × Obj)) (Q : Value → Shared → Prop) (v : Value) (s' : Shared) : Prop :=
  ∃ m' news', Fr g L' s'.heap m' ∧ News g L' s'.heap news' ∧ (Fr h₀ L s'.heap m → News h₀ L s'.heap (news' ++ news) → Q v s')
/-- a def with cells that touches no made object: entered over the whole heap -/
theorem cells_pure {prog : Program} {w : World} {A A₀ : Around} {E : Value → Shared → Prop} {s : Shared} {K : Frag} {L : Addr} {h₀ base : Heap} {m mg mb : Str → Option Value} {news : List (Addr × Obj)} {p : Program} {loose : List Str} {mean : ExcName → Option Value} {Q : Value → Shared → Prop}
    {env : Env} {outer : List Env} {name qual : Str} {params : Arguments} {body : List Stmt} {scope : Scope} {dV kV doc pm cdv ct oc : Value} {an od : Option Addr} {osl : Array (Option Value)} {f : Addr} {args : List Value} (binds : List (Str × Value))
    (B : Below A₀ base outer h₀) (F : Fr h₀ L s.heap m) (X₀ : K.In h₀) (N : News h₀ L s.heap news) (T : Top p loose mean mg mb h₀) (hA : A.frames = some (env :: outer)) (hf : env.frame = some L) (hke : env.scope.kind = .function)
    (ho : K.lookup f = some ⟨oc, od, .func (fnOf name qual params body scope dV kV doc pm an cdv ct), osl⟩) (hcd : codeIn K cdv qual = true) (hroom : A.depth < recursionLimit)
    (hbind : BindsTo s (fnOf name qual params body scope dV kV doc pm an cdv ct) ⟨args, []⟩ binds) (hkind : (binds.all fun y => scope.names.lookup y.1 == some .local || scope.names.lookup y.1 == some .cell) = true)
    (hnd : ((cellsFrom 0 scope.names []).map (·.1)).Nodup)
    (h : ∀ L' h₁ tk cells, Fr s.heap L' h₁ (bindL (envOfC qual scope L' f cdv).kindOf binds fun _ => none) → News s.heap L' h₁ cells →
      CellsAre (bindC (envOfC qual scope L' f cdv).kindOf binds fun _ => none) (cellsFrom (L' + 1) scope.names []) cells → Below A base (env :: outer) s.heap → K.In s.heap → Top p loose mean mg mb s.heap →
      wpAny (model prog w) (A.deeper (envOfC qual scope L' f cdv)) (execs body (envOfC qual scope L' f cdv))
        (fun fl s' => PurePost s.heap h₀ L' L m news Q (match fl with | .ret v => v | _ => .none) s')
        (fun _ _ => False)
        { s with heap := h₁, toks := tk })
    (hco : scope.isCoroutine = false) (hgen : scope.isGenerator = false) (hk : scope.kind = .function) : wpAny (model prog w) A (call (.ref f) args) Q E s := by
  refine wpAny_call ?_
  have X := X₀.keeps F.keep
  have T' := T.keeps F.keep
  have fl : ∀ v (s' : Shared), LeaveK h₀ L m (hideAll s.heap (([] : List (Addr × Obj)).map (·.1))) (fun r s' => match r with | .ok (.ret v) => Q v s' | .ok _ => False | .error e => E e s') v s' → Q v s' :=
    (groundX (R := fun r s' => match r with | .ok (.ret v) => Q v s' | .ok _ => False | .error e => E e s') (news := []) B F News.nil hA hf hke).2.2.2
  have BG := (groundX (R := fun r s' => match r with | .ok (.ret v) => Q v s' | .ok _ => False | .error e => E e s') (news := []) B F News.nil hA hf hke).2.1
  refine codeAny_call_function hroom (X _ _ ho) rfl hco hgen rfl (codeRec_of X hcd) (hbind _ _ _ _ ?_)
  refine wpAny_newFunctionEnv_cells hk (kindsX hkind _) fun env' he s' x => ?_
  subst he
  refine ⟨T'.nolimit.keeps x.toInCall.keep, codeAny_func ?_⟩
  obtain ⟨h₁, tk, rfl, _⟩ := x.done
  have hk₁ := x.toInCall.keep
  obtain ⟨cells, NC, Y⟩ := Cl.news (h₀ := s.heap) (Nat.le_refl _) fun n c hm => ⟨x.cell n c (lookup_of_mem_nodup (cellsFrom_names scope.names 0 (s.heap.objs.size + 1) [] [] rfl ▸ hnd) hm), x.above n c hm⟩
  refine wpAny_mono (h s.heap.objs.size h₁ tk cells ⟨x.toInCall.ns, hk₁, Nat.le_refl _⟩ (fun p hp => ⟨(NC p hp).1, (NC p hp).2.1, (NC p hp).2.2⟩) Y BG X T') (fun fl' s' hl => ?_) fun _ _ y => y.elim
  obtain ⟨m', news', F', N', k⟩ := hl
  refine fl _ s' ⟨s.heap.objs.size, m', news', F', N', fun Fh Nh => k Fh fun p hp => ?_⟩
  rcases List.mem_append.mp hp with hp | hp
  · exact Nh p hp
  · exact ⟨F'.keep _ _ (N p hp).1, (N p hp).2⟩
structure UnpMark : Prop where
noncomputable def ElOK (prog : Program) (w : World) (A : Around) (h₀ : Heap) (L : Addr) (m : Str → Option Value) (env : Env) (elt : Expr) (x : Str) (scope : Scope) (cl : List (Str × Addr)) (s : Shared) (R : Value → Int → Prop) (news : List (Addr × Obj)) : Prop :=
  ∀ v z I oI C oC D ys m₂ h tk (Q E' : Value → Shared → Prop), R v z → LCg.NsObj oC m₂ → m₂ x = some v → Fr h₀ L h m → News h₀ L h ((I, oI) :: (C, oC) :: (D, LCg.lst ys) :: news) → LCg.Off3 I C D news → ((@Ne Nat I C) ∧ (@Ne Nat I D) ∧ (@Ne Nat C D)) →
    (∀ t tk', Q (.int z t) { s with heap := h, toks := tk' }) → wpAny (model prog w) A (eval elt (compEnvC scope cl C env)) Q E' { s with heap := h, toks := tk }
noncomputable def AllT (G : List Value → Prop) : List Int → List Value → Prop
  | [], ys => G ys
  | z :: zs, ys => ∀ t, AllT G zs (ys ++ [.int z t])
noncomputable def AllP (P : Nat → Value → Prop) (R : Value → Int → Prop) : Nat → List Int → Prop
  | _, [] => True
  | i, z :: zs => (∀ v, P i v → R v z) ∧ AllP P R (i + 1) zs
theorem comp_ints {prog : Program} {w : World} {A : Around} {h₀ : Heap} {L : Addr} {m : Str → Option Value} {env : Env} {elt : Expr} {x : Str} {scope : Scope} {cl : List (Str × Addr)} {s : Shared} {S : List (Addr × Obj) → Prop} {P : Nat → Value → Prop} {Fin : List Value → List (Addr × Obj) → Prop} {R : Value → Int → Prop} {news : List (Addr × Obj)}
    (hE : ElOK prog w A h₀ L m env elt x scope cl s R news) (hS : S news) : ∀ (zs : List Int) (i : Nat) (ys : List Value), AllP P R i zs → AllT (fun l => Fin l news) zs ys → LCg.CompRest prog w A h₀ L m env elt x scope cl s S P Fin zs.length i ys news
  | [], _, _, _, hF => LCg.CompRest.zero hF
  | z :: zs, i, ys, hP, hF => LCg.CompRest.succ fun v I oI C oC D m₂ h tk E' hv hC hx F N off ne => hE v z I oI C oC D ys m₂ h tk _ E' (hP.1 v hv) hC hx F N off ne fun t tk' => LCg.CompEnd.intro F N news (fun _ hp => hp) off hS (comp_ints hE hS zs (i + 1) _ hP.2 (hF t))
noncomputable def UnpR (f : Int → Int) (v : Value) (z : Int) : Prop := ∃ k sp u, v = .str sp u ∧ z = f k ∧ PySem.intText? sp = some k ∧ sp.length ≤ 640 ∧ 0 ≤ k ∧ k < 64
theorem unp_at {f : Int → Int} {A : Array Value} {i : Nat} {sp : Str} {u : Tok} {k : Int} (e : A[i]? = some (.str sp u)) (h : PySem.intText? sp = some k) (hl : sp.length ≤ 640) (h0 : 0 ≤ k) (h1 : k < 64) : ∀ v, A[i]? = some v → UnpR f v (f k) :=
  fun v hv => ⟨k, sp, u, Option.some.inj (hv.symm.trans e), rfl, h, hl, h0, h1⟩
section
variable {w : World} {dp un : Nat} {gd : Option (List Code)} {cn : Str} {cs : Scope} {a : Addr} {ccd : Value} {cl : List (Str × Addr)} {outer : List Env} {A₀ : Around} {base h₀ : Heap} {L : Addr} {m : Str → Option Value} {stH : Heap} {stG : Array GenState} {stD : Drawn} {stT : Nat} {stO : OsState} {Q E : Value → Shared → Prop} {p : Program} {loose : List Str} {mean : ExcName → Option Value} {mg mb : Str → Option Value} {news : List (Addr × Obj)}
    (B : Below A₀ base outer h₀) (F : Fr h₀ L stH m) (X : (hd.heap_39 w.params).In h₀) (T : Top p loose mean mg mb h₀) (hk : cs.kind = .function) (N : News h₀ L stH news)
include B F X T hk N
theorem c_unpacked {v : Int} {t : Tok} (hdp : dp + 6 < recursionLimit)
    (ret : ∀ q t0 t1 t2 t3 t4 t5 t6 nq h' tk', Fr h₀ L h' m → News h₀ L h' ((q, { cls := .type "tuple", data := .seq (List.toArray [.int (bitZ v 0) t0, .int (bitZ v 2) t1, .int (bitZ v 4) t2, .int (bitZ v 6) t3, .int (bitZ v 7) t4, .int (bitZ v 11) t5, .int (bitZ v 10) t6]) nq }) :: news) → (∀ p ∈ news, p.1 < q) → Q (.ref q) ⟨h', stG, stD, tk', stO⟩) :
    wpAny (model PySem.Challenge.rw_nn0065_01.row.prog w) (ktrTop dp un gd cn cs L a ccd cl outer) (call (.ref 869) [.int v t]) Q E ⟨stH, stG, stD, stT, stO⟩ := by
  k_dflt (refine' cells_pure [(Str.ofString "number", .int v t)] ?k1 ?k2 ?k3 ?k4 ?k5 ?kA ?kF ?kK ?k6 ?k7 ?k8 ?k9 ?kB ?kD ?_ ?c2 ?c3 ?c4; (case kA => exact rfl); (case kF => exact rfl); (case kK => assumption); (case k1 => k_asm); (case k2 => k_asm); (case k3 => k_asm); (case k4 => k_asm); (case k5 => k_asm); (case k6 => k_is); (case k7 => k_is); (case k8 => ktr_room); (case k9 => exact BindsTo.of_eq rfl); (case kB => exact rfl); (case kD => decide +kernel); (case c2 => exact rfl); (case c3 => exact rfl); (case c4 => exact rfl); k_whole; intro L' h' tk' cells' F' N' Y' B' X' T'; k_cells Y'; (try simp only [List.cons_append, List.nil_append] at N'); (try dsimp only); (try k_fold))
  have lM := UnpMark.mk
  k_steps
  refine stop_out ?_
  refine comp_ints (R := UnpR fun k => (v.fdiv (2 ^ k.toNat)).fmod 2) ?hE ?hS [(v.fdiv (2 ^ Int.toNat 0)).fmod 2, (v.fdiv (2 ^ Int.toNat 2)).fmod 2, (v.fdiv (2 ^ Int.toNat 4)).fmod 2, (v.fdiv (2 ^ Int.toNat 6)).fmod 2, (v.fdiv (2 ^ Int.toNat 7)).fmod 2, (v.fdiv (2 ^ Int.toNat 11)).fmod 2, (v.fdiv (2 ^ Int.toNat 10)).fmod 2] 0 [] ?hP ?hF
  case hP => exact ⟨unp_at (f := fun k => (v.fdiv (2 ^ k.toNat)).fmod 2) rfl (by decide +kernel) (by decide) (by decide) (by decide), unp_at (f := fun k => (v.fdiv (2 ^ k.toNat)).fmod 2) rfl (by decide +kernel) (by decide) (by decide) (by decide), unp_at (f := fun k => (v.fdiv (2 ^ k.toNat)).fmod 2) rfl (by decide +kernel) (by decide) (by decide) (by decide), unp_at (f := fun k => (v.fdiv (2 ^ k.toNat)).fmod 2) rfl (by decide +kernel) (by decide) (by decide) (by decide), unp_at (f := fun k => (v.fdiv (2 ^ k.toNat)).fmod 2) rfl (by decide +kernel) (by decide) (by decide) (by decide), unp_at (f := fun k => (v.fdiv (2 ^ k.toNat)).fmod 2) rfl (by decide +kernel) (by decide) (by decide) (by decide), unp_at (f := fun k => (v.fdiv (2 ^ k.toNat)).fmod 2) rfl (by decide +kernel) (by decide) (by decide) (by decide), trivial⟩
  case hS => exact .inr ⟨_, by k_mem, rfl, _, rfl⟩
  case hE =>
    intro v9 z9 I9 oI9 C9 oC9 D9 ys9 m9 h9 tk9 Q9 E9 hR hC9 hx9 F9 N9 off9 ne9 ret9
    obtain ⟨k9, sp9, u9, rfl, rfl, hz9, hl9, k0, k1⟩ := hR
    k_steps
    exact ret9 _ _
  intro t0 t1 t2 t3 t4 t5 t6
  dsimp only [AllT, List.nil_append, List.cons_append]
  k_steps
  dsimp only
  refine ⟨_, _, by k_asm, by k_asm, fun F9 N9 => ?_⟩
  simp only [bitF] at N9
  (rename Fr stH L' _ _ => G9)
  have hab := G9.above
  have hlt : ∀ p ∈ news, @LT.lt Nat _ p.1 L' := fun p hp => Nat.lt_of_lt_of_le (Heap.lt_size (N p hp).1) hab
  (rename _ ∧ _ ∧ _ < _ => l9)
  have l10 := l9.2.2
  exact ret _ _ _ _ _ _ _ _ _ _ _ F9 (news_of N9 fun p hp => (List.mem_cons.mp hp).elim (fun h => h ▸ .head _) fun h => List.mem_append.mpr (.inr h)) fun p hp => Nat.lt_trans (Nat.lt_succ_of_lt (hlt p hp)) l10
end
example : True := by
  k_with "lsD" => (((rename Mine.DI _ _ _ (Mine.wrM _ _ _ _) => D9); (try rw [Mine.fmod64] at D9); (try rw [Mine.fmod16] at D9); exact D9))
  k_with "lsI" => (((rename PyProof.Rows.IntsAre _ (List.set _ _ _) => I9); first | exact I9 | (rw [← Mine.fmod64]; exact I9)))
  trivial
theorem fmod16 (v : Int) : v.fmod 65536 = v % 65536 := Int.fmod_eq_emod_of_nonneg _ (by decide)
theorem sub_cons {α : Type} {a : α} {l l' : List α} (h : ∀ p ∈ l', p ∈ l) : ∀ p ∈ a :: l', p ∈ a :: l := fun p hp => (List.mem_cons.mp hp).elim (fun e => e ▸ .head _) fun e => .tail _ (h p e)
section
variable {w : World} {dp un : Nat} {gd : Option (List Code)} {cn : Str} {cs : Scope} {a : Addr} {ccd : Value} {cl : List (Str × Addr)} {outer : List Env} {A₀ : Around} {base h₀ : Heap} {L : Addr} {m : Str → Option Value} {stH : Heap} {stG : Array GenState} {stD : Drawn} {stT : Nat} {stO : OsState} {Q E : Value → Shared → Prop} {p : Program} {loose : List Str} {mean : ExcName → Option Value} {mg mb : Str → Option Value} {news : List (Addr × Obj)}
    (B : Below A₀ base outer h₀) (F : Fr h₀ L stH m) (X : (hd.heap_39 w.params).In h₀) (T : Top p loose mean mg mb h₀) (hk : cs.kind = .function) (N : News h₀ L stH news)
include B F X T hk N
theorem c_ls0 {HD W Bt : Addr} {vsW : List Value} {ws : List Int} {nW nB : Nat} {oD : Obj} {c : List (Int × Int)} {b0 b1 b2 b3 b4 b5 b6 : Int} {tb0 tb1 tb2 tb3 tb4 tb5 tb6 : Tok} {one other far : Int} {t t1 t2 t3 : Tok} (hb : BitsOK b0 b1 b2 b3 b4 b5 b6) (i0 : 0 ≤ one) (i1 : one < 16) (g0 : -2147483648 ≤ far) (g1 : far < 8589934592) (iW : IntsAre vsW ws) (D : DI w HD oD c) (h1 : ws.length = 16) (hc : c.length ≤ 100000) (hun : un + 400 < cLine) (hdp : dp + 16 < recursionLimit) {u1 : Obj → List (Addr × Obj)} {u : Obj → Obj → List (Addr × Obj)} (U1 : UpdF W (listOf vsW.toArray nW) news u1) (U : ∀ o, UpdF HD oD (u1 o) (u o)) (mB : ∀ o o2, (Bt, { cls := .type "tuple", data := .seq (List.toArray [.int b0 tb0, .int b1 tb1, .int b2 tb2, .int b3 tb3, .int b4 tb4, .int b5 tb5, .int b6 tb6]) nB }) ∈ u o o2)
    (ret : ∀ G dG hG0 hG1 hG2 hG3 kG0 kG1 kG2 kG3 uG0 uG1 uG2 uG3 wG O dO hO0 hO1 kO0 kO1 uO0 Ls nLs I dI hI0 hI1 hI2 kI0 kI1 kI2 uI0 uI1 Tp nTp Tq nTq vs' o' h' tk', Fr h₀ L h' m → News h₀ L h' ((Tq, { cls := .type "tuple", data := .seq (List.toArray [.ref I, .ref Bt]) nTq }) :: (Tp, { cls := .type "tuple", data := .seq (List.toArray [.ref O]) nTp }) :: (I, instObj 804 dI) :: (dI, dictOf [⟨hI0, .str (Str.ofString "name") kI0, .str (Str.ofString "push") uI0⟩, ⟨hI1, .str (Str.ofString "operands") kI1, .ref Tp⟩, ⟨hI2, .str (Str.ofString "prefix") kI2, .str (Str.ofString "") uI1⟩] 3) :: (Ls, listOf (List.toArray [.ref O]) nLs) :: (O, instObj 623 dO) :: (dO, dictOf [⟨hO0, .str (Str.ofString "kind") kO0, .str (Str.ofString "reg") uO0⟩, ⟨hO1, .str (Str.ofString "register") kO1, .ref G⟩] 2) :: (G, instObj 314 dG) :: (dG, dictOf [⟨hG0, .str (Str.ofString "name") kG0, .str wG uG0⟩, ⟨hG1, .str (Str.ofString "kind") kG1, .str (Str.ofString "gpr") uG1⟩, ⟨hG2, .str (Str.ofString "number") kG2, .int (one) uG2⟩, ⟨hG3, .str (Str.ofString "size") kG3, .int (64) uG3⟩] 4) :: u (listOf vs'.toArray nW) o') → IntsAre vs' (ws.set 4 ((ws.getD 4 0 - 8) % 18446744073709551616)) → DI w HD o' (wrM c ((ws.getD 4 0 - 8) % 18446744073709551616) (ws.getD one.toNat 0) 8) → (∀ p ∈ u (listOf vs'.toArray nW) o', p.1 < dG) → @LT.lt Nat _ dG G → @LT.lt Nat _ dO O → @LT.lt Nat _ dI I → @LT.lt Nat _ I Tp → @LT.lt Nat _ Ls dI → @LT.lt Nat _ G dO → @LT.lt Nat _ O Ls → @LT.lt Nat _ Tp Tq → Q (.ref Tq) ⟨h', stG, stD, tk', stO⟩) :
    wpAny (model PySem.Challenge.rw_nn0065_01.row.prog w) (ktrTop dp un gd cn cs L a ccd cl outer) (call (.ref 876) [.int 0 t, .int one t1, .int other t2, .int far t3, .ref HD, .ref W, .ref Bt]) Q E ⟨stH, stG, stD, stT, stO⟩ := by
  obtain ⟨rest, hRH, hoR, hoH, hu, hn⟩ := upd_open2 U1 U
  replace mB := upd_rest2 hu mB
  replace N := news_of N (fun p hp => (hn p).mpr hp)
  clear U1 U hn
  k_dflt (refine' enter_def [(Str.ofString "way", .int 0 t), (Str.ofString "one", .int one t1), (Str.ofString "other", .int other t2), (Str.ofString "far", .int far t3), (Str.ofString "held", .ref HD), (Str.ofString "worths", .ref W), (Str.ofString "bits", .ref Bt)] ?k1 ?k2 ?k3 ?k4 ?k5 ?kA ?kF ?kK ?k6 ?k7 ?k8 ?k9 ?kB ?_ ?c2 ?c3 ?c4 ?c5; k_extra "en")
  k_steps
  (rename News h₀ L _ _ => N9)
  exact ret _ _ _ _ _ _ _ _ _ _ _ _ _ _ _ _ _ _ _ _ _ _ _ _ _ _ _ _ _ _ _ _ _ _ _ _ _ _ _ _ _ _ (by k_asm) (news_of N9 (sub_cons (sub_cons (sub_cons (sub_cons (sub_cons (sub_cons (sub_cons (sub_cons (sub_cons (fun p hp => (hu _ _ p).mp hp))))))))))) (by first | assumption | (walk_at "lsI")) (by first | assumption | (walk_at "lsD")) (fun p hp => kst_ltOf (l := (W, _) :: (HD, _) :: rest) (by assumption) p ((hu _ _ p).mp hp)) (by omega) (by omega) (by omega) (by omega) (by omega) (by omega) (by omega) (by omega)
theorem c_ls1 {HD W Bt : Addr} {vsW : List Value} {ws : List Int} {nW nB : Nat} {oD : Obj} {c : List (Int × Int)} {b0 b1 b2 b3 b4 b5 b6 : Int} {tb0 tb1 tb2 tb3 tb4 tb5 tb6 : Tok} {one other far : Int} {t t1 t2 t3 : Tok} (hb : BitsOK b0 b1 b2 b3 b4 b5 b6) (i0 : 0 ≤ one) (i1 : one < 16) (g0 : -2147483648 ≤ far) (g1 : far < 8589934592) (iW : IntsAre vsW ws) (D : DI w HD oD c) (h1 : ws.length = 16) (hc : c.length ≤ 100000) (hun : un + 400 < cLine) (hdp : dp + 16 < recursionLimit) {u1 : Obj → List (Addr × Obj)} {u : Obj → Obj → List (Addr × Obj)} (U1 : UpdF W (listOf vsW.toArray nW) news u1) (U : ∀ o, UpdF HD oD (u1 o) (u o)) (mB : ∀ o o2, (Bt, { cls := .type "tuple", data := .seq (List.toArray [.int b0 tb0, .int b1 tb1, .int b2 tb2, .int b3 tb3, .int b4 tb4, .int b5 tb5, .int b6 tb6]) nB }) ∈ u o o2)
    (ret : ∀ G dG hG0 hG1 hG2 hG3 kG0 kG1 kG2 kG3 uG0 uG1 uG2 uG3 wG O dO hO0 hO1 kO0 kO1 uO0 Ls nLs I dI hI0 hI1 hI2 kI0 kI1 kI2 uI0 uI1 Tp nTp Tq nTq vs' o' h' tk', Fr h₀ L h' m → News h₀ L h' ((Tq, { cls := .type "tuple", data := .seq (List.toArray [.ref I, .ref Bt]) nTq }) :: (Tp, { cls := .type "tuple", data := .seq (List.toArray [.ref O]) nTp }) :: (I, instObj 804 dI) :: (dI, dictOf [⟨hI0, .str (Str.ofString "name") kI0, .str (Str.ofString "push") uI0⟩, ⟨hI1, .str (Str.ofString "operands") kI1, .ref Tp⟩, ⟨hI2, .str (Str.ofString "prefix") kI2, .str (Str.ofString "") uI1⟩] 3) :: (Ls, listOf (List.toArray [.ref O]) nLs) :: (O, instObj 623 dO) :: (dO, dictOf [⟨hO0, .str (Str.ofString "kind") kO0, .str (Str.ofString "reg") uO0⟩, ⟨hO1, .str (Str.ofString "register") kO1, .ref G⟩] 2) :: (G, instObj 314 dG) :: (dG, dictOf [⟨hG0, .str (Str.ofString "name") kG0, .str wG uG0⟩, ⟨hG1, .str (Str.ofString "kind") kG1, .str (Str.ofString "gpr") uG1⟩, ⟨hG2, .str (Str.ofString "number") kG2, .int (one) uG2⟩, ⟨hG3, .str (Str.ofString "size") kG3, .int (16) uG3⟩] 4) :: u (listOf vs'.toArray nW) o') → IntsAre vs' (ws.set 4 ((ws.getD 4 0 - 2) % 18446744073709551616)) → DI w HD o' (wrM c ((ws.getD 4 0 - 2) % 18446744073709551616) ((ws.getD one.toNat 0) % 65536) 2) → (∀ p ∈ u (listOf vs'.toArray nW) o', p.1 < dG) → @LT.lt Nat _ dG G → @LT.lt Nat _ dO O → @LT.lt Nat _ dI I → @LT.lt Nat _ I Tp → @LT.lt Nat _ Ls dI → @LT.lt Nat _ G dO → @LT.lt Nat _ O Ls → @LT.lt Nat _ Tp Tq → Q (.ref Tq) ⟨h', stG, stD, tk', stO⟩) :
    wpAny (model PySem.Challenge.rw_nn0065_01.row.prog w) (ktrTop dp un gd cn cs L a ccd cl outer) (call (.ref 876) [.int 1 t, .int one t1, .int other t2, .int far t3, .ref HD, .ref W, .ref Bt]) Q E ⟨stH, stG, stD, stT, stO⟩ := by
  obtain ⟨rest, hRH, hoR, hoH, hu, hn⟩ := upd_open2 U1 U
  replace mB := upd_rest2 hu mB
  replace N := news_of N (fun p hp => (hn p).mpr hp)
  clear U1 U hn
  k_dflt (refine' enter_def [(Str.ofString "way", .int 1 t), (Str.ofString "one", .int one t1), (Str.ofString "other", .int other t2), (Str.ofString "far", .int far t3), (Str.ofString "held", .ref HD), (Str.ofString "worths", .ref W), (Str.ofString "bits", .ref Bt)] ?k1 ?k2 ?k3 ?k4 ?k5 ?kA ?kF ?kK ?k6 ?k7 ?k8 ?k9 ?kB ?_ ?c2 ?c3 ?c4 ?c5; k_extra "en")
  k_steps
  (rename News h₀ L _ _ => N9)
  exact ret _ _ _ _ _ _ _ _ _ _ _ _ _ _ _ _ _ _ _ _ _ _ _ _ _ _ _ _ _ _ _ _ _ _ _ _ _ _ _ _ _ _ (by k_asm) (news_of N9 (sub_cons (sub_cons (sub_cons (sub_cons (sub_cons (sub_cons (sub_cons (sub_cons (sub_cons (fun p hp => (hu _ _ p).mp hp))))))))))) (by first | assumption | (walk_at "lsI")) (by first | assumption | (walk_at "lsD")) (fun p hp => kst_ltOf (l := (W, _) :: (HD, _) :: rest) (by assumption) p ((hu _ _ p).mp hp)) (by omega) (by omega) (by omega) (by omega) (by omega) (by omega) (by omega) (by omega)
theorem c_ls2 {HD W Bt : Addr} {vsW : List Value} {ws : List Int} {nW nB : Nat} {oD : Obj} {c : List (Int × Int)} {b0 b1 b2 b3 b4 b5 b6 : Int} {tb0 tb1 tb2 tb3 tb4 tb5 tb6 : Tok} {one other far : Int} {t t1 t2 t3 : Tok} (hb : BitsOK b0 b1 b2 b3 b4 b5 b6) (i0 : 0 ≤ one) (i1 : one < 16) (g0 : -2147483648 ≤ far) (g1 : far < 8589934592) (iW : IntsAre vsW ws) (D : DI w HD oD c) (h1 : ws.length = 16) (hc : c.length ≤ 100000) (hun : un + 400 < cLine) (hdp : dp + 16 < recursionLimit) {u1 : Obj → List (Addr × Obj)} {u : Obj → Obj → List (Addr × Obj)} (U1 : UpdF W (listOf vsW.toArray nW) news u1) (U : ∀ o, UpdF HD oD (u1 o) (u o)) (mB : ∀ o o2, (Bt, { cls := .type "tuple", data := .seq (List.toArray [.int b0 tb0, .int b1 tb1, .int b2 tb2, .int b3 tb3, .int b4 tb4, .int b5 tb5, .int b6 tb6]) nB }) ∈ u o o2)
    (ret : ∀ O dO hO0 hO1 hO2 kO0 kO1 kO2 uO0 uO1 uO2 Ls nLs I dI hI0 hI1 hI2 kI0 kI1 kI2 uI0 uI1 Tp nTp Tq nTq vs' o' h' tk', Fr h₀ L h' m → News h₀ L h' ((Tq, { cls := .type "tuple", data := .seq (List.toArray [.ref I, .ref Bt]) nTq }) :: (Tp, { cls := .type "tuple", data := .seq (List.toArray [.ref O]) nTp }) :: (I, instObj 804 dI) :: (dI, dictOf [⟨hI0, .str (Str.ofString "name") kI0, .str (Str.ofString "push") uI0⟩, ⟨hI1, .str (Str.ofString "operands") kI1, .ref Tp⟩, ⟨hI2, .str (Str.ofString "prefix") kI2, .str (Str.ofString "") uI1⟩] 3) :: (Ls, listOf (List.toArray [.ref O]) nLs) :: (O, instObj 657 dO) :: (dO, dictOf [⟨hO0, .str (Str.ofString "kind") kO0, .str (Str.ofString "imm") uO0⟩, ⟨hO1, .str (Str.ofString "worth") kO1, .int (far) uO1⟩, ⟨hO2, .str (Str.ofString "name") kO2, .str (Str.ofString "") uO2⟩] 3) :: u (listOf vs'.toArray nW) o') → IntsAre vs' (ws.set 4 ((ws.getD 4 0 - 8) % 18446744073709551616)) → DI w HD o' (wrM c ((ws.getD 4 0 - 8) % 18446744073709551616) (far % 18446744073709551616) 8) → (∀ p ∈ u (listOf vs'.toArray nW) o', p.1 < dO) → @LT.lt Nat _ dO O → @LT.lt Nat _ dI I → @LT.lt Nat _ I Tp → @LT.lt Nat _ Ls dI → @LT.lt Nat _ O Ls → @LT.lt Nat _ Tp Tq → Q (.ref Tq) ⟨h', stG, stD, tk', stO⟩) :
    wpAny (model PySem.Challenge.rw_nn0065_01.row.prog w) (ktrTop dp un gd cn cs L a ccd cl outer) (call (.ref 876) [.int 2 t, .int one t1, .int other t2, .int far t3, .ref HD, .ref W, .ref Bt]) Q E ⟨stH, stG, stD, stT, stO⟩ := by
  obtain ⟨rest, hRH, hoR, hoH, hu, hn⟩ := upd_open2 U1 U
  replace mB := upd_rest2 hu mB
  replace N := news_of N (fun p hp => (hn p).mpr hp)
  clear U1 U hn
  k_dflt (refine' enter_def [(Str.ofString "way", .int 2 t), (Str.ofString "one", .int one t1), (Str.ofString "other", .int other t2), (Str.ofString "far", .int far t3), (Str.ofString "held", .ref HD), (Str.ofString "worths", .ref W), (Str.ofString "bits", .ref Bt)] ?k1 ?k2 ?k3 ?k4 ?k5 ?kA ?kF ?kK ?k6 ?k7 ?k8 ?k9 ?kB ?_ ?c2 ?c3 ?c4 ?c5; k_extra "en")
  k_steps
  (rename News h₀ L _ _ => N9)
  exact ret _ _ _ _ _ _ _ _ _ _ _ _ _ _ _ _ _ _ _ _ _ _ _ _ _ _ _ _ _ _ _ (by k_asm) (news_of N9 (sub_cons (sub_cons (sub_cons (sub_cons (sub_cons (sub_cons (sub_cons (fun p hp => (hu _ _ p).mp hp))))))))) (by first | assumption | (walk_at "lsI")) (by first | assumption | (walk_at "lsD")) (fun p hp => kst_ltOf (l := (W, _) :: (HD, _) :: rest) (by assumption) p ((hu _ _ p).mp hp)) (by omega) (by omega) (by omega) (by omega) (by omega) (by omega)
theorem c_ls3 {HD W Bt : Addr} {vsW : List Value} {ws : List Int} {nW nB : Nat} {oD : Obj} {c : List (Int × Int)} {b0 b1 b2 b3 b4 b5 b6 : Int} {tb0 tb1 tb2 tb3 tb4 tb5 tb6 : Tok} {one other far : Int} {t t1 t2 t3 : Tok} (hb : BitsOK b0 b1 b2 b3 b4 b5 b6) (i0 : 0 ≤ one) (i1 : one < 16) (g0 : -2147483648 ≤ far) (g1 : far < 8589934592) (iW : IntsAre vsW ws) (D : DI w HD oD c) (h1 : ws.length = 16) (hc : c.length ≤ 100000) (hun : un + 400 < cLine) (hdp : dp + 16 < recursionLimit) {u : Obj → List (Addr × Obj)} (U : UpdF W (listOf vsW.toArray nW) news u) (mHD : ∀ o, (HD, oD) ∈ u o) (mB : ∀ o, (Bt, { cls := .type "tuple", data := .seq (List.toArray [.int b0 tb0, .int b1 tb1, .int b2 tb2, .int b3 tb3, .int b4 tb4, .int b5 tb5, .int b6 tb6]) nB }) ∈ u o)
    (ret : ∀ G dG hG0 hG1 hG2 hG3 kG0 kG1 kG2 kG3 uG0 uG1 uG2 uG3 wG O dO hO0 hO1 kO0 kO1 uO0 Ls nLs I dI hI0 hI1 hI2 kI0 kI1 kI2 uI0 uI1 Tp nTp Tq nTq vs'  h' tk', Fr h₀ L h' m → News h₀ L h' ((Tq, { cls := .type "tuple", data := .seq (List.toArray [.ref I, .ref Bt]) nTq }) :: (Tp, { cls := .type "tuple", data := .seq (List.toArray [.ref O]) nTp }) :: (I, instObj 804 dI) :: (dI, dictOf [⟨hI0, .str (Str.ofString "name") kI0, .str (Str.ofString "pop") uI0⟩, ⟨hI1, .str (Str.ofString "operands") kI1, .ref Tp⟩, ⟨hI2, .str (Str.ofString "prefix") kI2, .str (Str.ofString "") uI1⟩] 3) :: (Ls, listOf (List.toArray [.ref O]) nLs) :: (O, instObj 623 dO) :: (dO, dictOf [⟨hO0, .str (Str.ofString "kind") kO0, .str (Str.ofString "reg") uO0⟩, ⟨hO1, .str (Str.ofString "register") kO1, .ref G⟩] 2) :: (G, instObj 314 dG) :: (dG, dictOf [⟨hG0, .str (Str.ofString "name") kG0, .str wG uG0⟩, ⟨hG1, .str (Str.ofString "kind") kG1, .str (Str.ofString "gpr") uG1⟩, ⟨hG2, .str (Str.ofString "number") kG2, .int (one) uG2⟩, ⟨hG3, .str (Str.ofString "size") kG3, .int (64) uG3⟩] 4) :: u (listOf vs'.toArray nW)) → IntsAre vs' ((ws.set 4 ((ws.getD 4 0 + 8) % 18446744073709551616)).set one.toNat (rdM c (ws.getD 4 0) 8)) → (∀ p ∈ u (listOf vs'.toArray nW), p.1 < dG) → @LT.lt Nat _ dG G → @LT.lt Nat _ dO O → @LT.lt Nat _ dI I → @LT.lt Nat _ I Tp → @LT.lt Nat _ Ls dI → @LT.lt Nat _ G dO → @LT.lt Nat _ O Ls → @LT.lt Nat _ Tp Tq → Q (.ref Tq) ⟨h', stG, stD, tk', stO⟩) :
    wpAny (model PySem.Challenge.rw_nn0065_01.row.prog w) (ktrTop dp un gd cn cs L a ccd cl outer) (call (.ref 876) [.int 3 t, .int one t1, .int other t2, .int far t3, .ref HD, .ref W, .ref Bt]) Q E ⟨stH, stG, stD, stT, stO⟩ := by
  obtain ⟨rest, hoR, hu, hn⟩ := upd_open U
  replace mB := upd_rest hu mB
  replace mHD := upd_rest hu mHD
  replace N := news_of N (fun p hp => (hn p).mpr hp)
  clear U hn
  k_dflt (refine' enter_def [(Str.ofString "way", .int 3 t), (Str.ofString "one", .int one t1), (Str.ofString "other", .int other t2), (Str.ofString "far", .int far t3), (Str.ofString "held", .ref HD), (Str.ofString "worths", .ref W), (Str.ofString "bits", .ref Bt)] ?k1 ?k2 ?k3 ?k4 ?k5 ?kA ?kF ?kK ?k6 ?k7 ?k8 ?k9 ?kB ?_ ?c2 ?c3 ?c4 ?c5; k_extra "en")
  k_steps
  (rename News h₀ L _ _ => N9)
  exact ret _ _ _ _ _ _ _ _ _ _ _ _ _ _ _ _ _ _ _ _ _ _ _ _ _ _ _ _ _ _ _ _ _ _ _ _ _ _ _ _ _ (by k_asm) (news_of N9 (sub_cons (sub_cons (sub_cons (sub_cons (sub_cons (sub_cons (sub_cons (sub_cons (sub_cons (fun p hp => (hu _ p).mp hp))))))))))) (by first | assumption | (walk_at "lsI")) (fun p hp => kst_ltOf (l := (W, _) :: rest) (by assumption) p ((hu _ p).mp hp)) (by omega) (by omega) (by omega) (by omega) (by omega) (by omega) (by omega) (by omega)
theorem c_ls4 {HD W Bt : Addr} {vsW : List Value} {ws : List Int} {nW nB : Nat} {oD : Obj} {c : List (Int × Int)} {b0 b1 b2 b3 b4 b5 b6 : Int} {tb0 tb1 tb2 tb3 tb4 tb5 tb6 : Tok} {one other far : Int} {t t1 t2 t3 : Tok} (hb : BitsOK b0 b1 b2 b3 b4 b5 b6) (i0 : 0 ≤ one) (i1 : one < 16) (g0 : -2147483648 ≤ far) (g1 : far < 8589934592) (iW : IntsAre vsW ws) (D : DI w HD oD c) (h1 : ws.length = 16) (hc : c.length ≤ 100000) (hun : un + 400 < cLine) (hdp : dp + 16 < recursionLimit) {u : Obj → List (Addr × Obj)} (U : UpdF W (listOf vsW.toArray nW) news u) (mHD : ∀ o, (HD, oD) ∈ u o) (mB : ∀ o, (Bt, { cls := .type "tuple", data := .seq (List.toArray [.int b0 tb0, .int b1 tb1, .int b2 tb2, .int b3 tb3, .int b4 tb4, .int b5 tb5, .int b6 tb6]) nB }) ∈ u o)
    (ret : ∀ G dG hG0 hG1 hG2 hG3 kG0 kG1 kG2 kG3 uG0 uG1 uG2 uG3 wG O dO hO0 hO1 kO0 kO1 uO0 Ls nLs I dI hI0 hI1 hI2 kI0 kI1 kI2 uI0 uI1 Tp nTp Tq nTq vs'  h' tk', Fr h₀ L h' m → News h₀ L h' ((Tq, { cls := .type "tuple", data := .seq (List.toArray [.ref I, .ref Bt]) nTq }) :: (Tp, { cls := .type "tuple", data := .seq (List.toArray [.ref O]) nTp }) :: (I, instObj 804 dI) :: (dI, dictOf [⟨hI0, .str (Str.ofString "name") kI0, .str (Str.ofString "pop") uI0⟩, ⟨hI1, .str (Str.ofString "operands") kI1, .ref Tp⟩, ⟨hI2, .str (Str.ofString "prefix") kI2, .str (Str.ofString "") uI1⟩] 3) :: (Ls, listOf (List.toArray [.ref O]) nLs) :: (O, instObj 623 dO) :: (dO, dictOf [⟨hO0, .str (Str.ofString "kind") kO0, .str (Str.ofString "reg") uO0⟩, ⟨hO1, .str (Str.ofString "register") kO1, .ref G⟩] 2) :: (G, instObj 314 dG) :: (dG, dictOf [⟨hG0, .str (Str.ofString "name") kG0, .str wG uG0⟩, ⟨hG1, .str (Str.ofString "kind") kG1, .str (Str.ofString "gpr") uG1⟩, ⟨hG2, .str (Str.ofString "number") kG2, .int (one) uG2⟩, ⟨hG3, .str (Str.ofString "size") kG3, .int (16) uG3⟩] 4) :: u (listOf vs'.toArray nW)) → IntsAre vs' ((ws.set 4 ((ws.getD 4 0 + 2) % 18446744073709551616)).set one.toNat (setZ ((ws.set 4 ((ws.getD 4 0 + 2) % 18446744073709551616)).getD one.toNat 0) (rdM c (ws.getD 4 0) 2) 16)) → (∀ p ∈ u (listOf vs'.toArray nW), p.1 < dG) → @LT.lt Nat _ dG G → @LT.lt Nat _ dO O → @LT.lt Nat _ dI I → @LT.lt Nat _ I Tp → @LT.lt Nat _ Ls dI → @LT.lt Nat _ G dO → @LT.lt Nat _ O Ls → @LT.lt Nat _ Tp Tq → Q (.ref Tq) ⟨h', stG, stD, tk', stO⟩) :
    wpAny (model PySem.Challenge.rw_nn0065_01.row.prog w) (ktrTop dp un gd cn cs L a ccd cl outer) (call (.ref 876) [.int 4 t, .int one t1, .int other t2, .int far t3, .ref HD, .ref W, .ref Bt]) Q E ⟨stH, stG, stD, stT, stO⟩ := by
  obtain ⟨rest, hoR, hu, hn⟩ := upd_open U
  replace mB := upd_rest hu mB
  replace mHD := upd_rest hu mHD
  replace N := news_of N (fun p hp => (hn p).mpr hp)
  clear U hn
  k_dflt (refine' enter_def [(Str.ofString "way", .int 4 t), (Str.ofString "one", .int one t1), (Str.ofString "other", .int other t2), (Str.ofString "far", .int far t3), (Str.ofString "held", .ref HD), (Str.ofString "worths", .ref W), (Str.ofString "bits", .ref Bt)] ?k1 ?k2 ?k3 ?k4 ?k5 ?kA ?kF ?kK ?k6 ?k7 ?k8 ?k9 ?kB ?_ ?c2 ?c3 ?c4 ?c5; k_extra "en")
  k_steps
  (rename News h₀ L _ _ => N9)
  exact ret _ _ _ _ _ _ _ _ _ _ _ _ _ _ _ _ _ _ _ _ _ _ _ _ _ _ _ _ _ _ _ _ _ _ _ _ _ _ _ _ _ (by k_asm) (news_of N9 (sub_cons (sub_cons (sub_cons (sub_cons (sub_cons (sub_cons (sub_cons (sub_cons (sub_cons (fun p hp => (hu _ p).mp hp))))))))))) (by first | assumption | (walk_at "lsI")) (fun p hp => kst_ltOf (l := (W, _) :: rest) (by assumption) p ((hu _ p).mp hp)) (by omega) (by omega) (by omega) (by omega) (by omega) (by omega) (by omega) (by omega)
theorem c_ls5 {HD W Bt : Addr} {vsW : List Value} {ws : List Int} {nW nB : Nat} {oD : Obj} {c : List (Int × Int)} {b0 b1 b2 b3 b4 b5 b6 : Int} {tb0 tb1 tb2 tb3 tb4 tb5 tb6 : Tok} {one other far : Int} {t t1 t2 t3 : Tok} (hb : BitsOK b0 b1 b2 b3 b4 b5 b6) (i0 : 0 ≤ one) (i1 : one < 16) (g0 : -2147483648 ≤ far) (g1 : far < 8589934592) (iW : IntsAre vsW ws) (D : DI w HD oD c) (h1 : ws.length = 16) (hc : c.length ≤ 100000) (hun : un + 400 < cLine) (hdp : dp + 16 < recursionLimit) {u1 : Obj → List (Addr × Obj)} {u : Obj → Obj → List (Addr × Obj)} (U1 : UpdF W (listOf vsW.toArray nW) news u1) (U : ∀ o, UpdF HD oD (u1 o) (u o)) (mB : ∀ o o2, (Bt, { cls := .type "tuple", data := .seq (List.toArray [.int b0 tb0, .int b1 tb1, .int b2 tb2, .int b3 tb3, .int b4 tb4, .int b5 tb5, .int b6 tb6]) nB }) ∈ u o o2)
    (ret : ∀ G dG hG0 hG1 hG2 hG3 kG0 kG1 kG2 kG3 uG0 uG1 uG2 uG3 wG O dO hO0 hO1 hO2 hO3 hO4 hO5 hO6 hO7 kO0 kO1 kO2 kO3 kO4 kO5 kO6 kO7 uO0 uO1 uO2 uO3 uO4 uO5 Ls nLs I dI hI0 hI1 hI2 kI0 kI1 kI2 uI0 uI1 Tp nTp Tq nTq vs' o' h' tk', Fr h₀ L h' m → News h₀ L h' ((Tq, { cls := .type "tuple", data := .seq (List.toArray [.ref I, .ref Bt]) nTq }) :: (Tp, { cls := .type "tuple", data := .seq (List.toArray [.ref O]) nTp }) :: (I, instObj 804 dI) :: (dI, dictOf [⟨hI0, .str (Str.ofString "name") kI0, .str (Str.ofString "push") uI0⟩, ⟨hI1, .str (Str.ofString "operands") kI1, .ref Tp⟩, ⟨hI2, .str (Str.ofString "prefix") kI2, .str (Str.ofString "") uI1⟩] 3) :: (Ls, listOf (List.toArray [.ref O]) nLs) :: (O, instObj 751 dO) :: (dO, dictOf [⟨hO0, .str (Str.ofString "kind") kO0, .str (Str.ofString "mem") uO0⟩, ⟨hO1, .str (Str.ofString "base") kO1, .ref G⟩, ⟨hO2, .str (Str.ofString "index") kO2, .none⟩, ⟨hO3, .str (Str.ofString "scale") kO3, .int (1) uO1⟩, ⟨hO4, .str (Str.ofString "worth") kO4, .int (far) uO2⟩, ⟨hO5, .str (Str.ofString "size") kO5, .int (64) uO3⟩, ⟨hO6, .str (Str.ofString "segment") kO6, .str (Str.ofString "") uO4⟩, ⟨hO7, .str (Str.ofString "name") kO7, .str (Str.ofString "") uO5⟩] 8) :: (G, instObj 314 dG) :: (dG, dictOf [⟨hG0, .str (Str.ofString "name") kG0, .str wG uG0⟩, ⟨hG1, .str (Str.ofString "kind") kG1, .str (Str.ofString "gpr") uG1⟩, ⟨hG2, .str (Str.ofString "number") kG2, .int (one) uG2⟩, ⟨hG3, .str (Str.ofString "size") kG3, .int (64) uG3⟩] 4) :: u (listOf vs'.toArray nW) o') → IntsAre vs' (ws.set 4 ((ws.getD 4 0 - 8) % 18446744073709551616)) → DI w HD o' (wrM c ((ws.getD 4 0 - 8) % 18446744073709551616) (rdM c ((ws.getD one.toNat 0) + far) 8) 8) → (∀ p ∈ u (listOf vs'.toArray nW) o', p.1 < dG) → @LT.lt Nat _ dG G → @LT.lt Nat _ dO O → @LT.lt Nat _ dI I → @LT.lt Nat _ I Tp → @LT.lt Nat _ Ls dI → @LT.lt Nat _ G dO → @LT.lt Nat _ O Ls → @LT.lt Nat _ Tp Tq → Q (.ref Tq) ⟨h', stG, stD, tk', stO⟩) :
    wpAny (model PySem.Challenge.rw_nn0065_01.row.prog w) (ktrTop dp un gd cn cs L a ccd cl outer) (call (.ref 876) [.int 5 t, .int one t1, .int other t2, .int far t3, .ref HD, .ref W, .ref Bt]) Q E ⟨stH, stG, stD, stT, stO⟩ := by
  obtain ⟨rest, hRH, hoR, hoH, hu, hn⟩ := upd_open2 U1 U
  replace mB := upd_rest2 hu mB
  replace N := news_of N (fun p hp => (hn p).mpr hp)
  clear U1 U hn
  k_dflt (refine' enter_def [(Str.ofString "way", .int 5 t), (Str.ofString "one", .int one t1), (Str.ofString "other", .int other t2), (Str.ofString "far", .int far t3), (Str.ofString "held", .ref HD), (Str.ofString "worths", .ref W), (Str.ofString "bits", .ref Bt)] ?k1 ?k2 ?k3 ?k4 ?k5 ?kA ?kF ?kK ?k6 ?k7 ?k8 ?k9 ?kB ?_ ?c2 ?c3 ?c4 ?c5; k_extra "en")
  k_steps
  (rename News h₀ L _ _ => N9)
  exact ret _ _ _ _ _ _ _ _ _ _ _ _ _ _ _ _ _ _ _ _ _ _ _ _ _ _ _ _ _ _ _ _ _ _ _ _ _ _ _ _ _ _ _ _ _ _ _ _ _ _ _ _ _ _ _ _ _ _ _ (by k_asm) (news_of N9 (sub_cons (sub_cons (sub_cons (sub_cons (sub_cons (sub_cons (sub_cons (sub_cons (sub_cons (fun p hp => (hu _ _ p).mp hp))))))))))) (by first | assumption | (walk_at "lsI")) (by first | assumption | (walk_at "lsD")) (fun p hp => kst_ltOf (l := (W, _) :: (HD, _) :: rest) (by assumption) p ((hu _ _ p).mp hp)) (by omega) (by omega) (by omega) (by omega) (by omega) (by omega) (by omega) (by omega)
theorem c_ls6 {HD W Bt : Addr} {vsW : List Value} {ws : List Int} {nW nB : Nat} {oD : Obj} {c : List (Int × Int)} {b0 b1 b2 b3 b4 b5 b6 : Int} {tb0 tb1 tb2 tb3 tb4 tb5 tb6 : Tok} {one other far : Int} {t t1 t2 t3 : Tok} (hb : BitsOK b0 b1 b2 b3 b4 b5 b6) (i0 : 0 ≤ one) (i1 : one < 16) (g0 : -2147483648 ≤ far) (g1 : far < 8589934592) (iW : IntsAre vsW ws) (D : DI w HD oD c) (h1 : ws.length = 16) (hc : c.length ≤ 100000) (hun : un + 400 < cLine) (hdp : dp + 16 < recursionLimit) {u1 : Obj → List (Addr × Obj)} {u : Obj → Obj → List (Addr × Obj)} (U1 : UpdF W (listOf vsW.toArray nW) news u1) (U : ∀ o, UpdF HD oD (u1 o) (u o)) (mB : ∀ o o2, (Bt, { cls := .type "tuple", data := .seq (List.toArray [.int b0 tb0, .int b1 tb1, .int b2 tb2, .int b3 tb3, .int b4 tb4, .int b5 tb5, .int b6 tb6]) nB }) ∈ u o o2)
    (ret : ∀ G dG hG0 hG1 hG2 hG3 kG0 kG1 kG2 kG3 uG0 uG1 uG2 uG3 wG O dO hO0 hO1 hO2 hO3 hO4 hO5 hO6 hO7 kO0 kO1 kO2 kO3 kO4 kO5 kO6 kO7 uO0 uO1 uO2 uO3 uO4 uO5 Ls nLs I dI hI0 hI1 hI2 kI0 kI1 kI2 uI0 uI1 Tp nTp Tq nTq vs' o' h' tk', Fr h₀ L h' m → News h₀ L h' ((Tq, { cls := .type "tuple", data := .seq (List.toArray [.ref I, .ref Bt]) nTq }) :: (Tp, { cls := .type "tuple", data := .seq (List.toArray [.ref O]) nTp }) :: (I, instObj 804 dI) :: (dI, dictOf [⟨hI0, .str (Str.ofString "name") kI0, .str (Str.ofString "pop") uI0⟩, ⟨hI1, .str (Str.ofString "operands") kI1, .ref Tp⟩, ⟨hI2, .str (Str.ofString "prefix") kI2, .str (Str.ofString "") uI1⟩] 3) :: (Ls, listOf (List.toArray [.ref O]) nLs) :: (O, instObj 751 dO) :: (dO, dictOf [⟨hO0, .str (Str.ofString "kind") kO0, .str (Str.ofString "mem") uO0⟩, ⟨hO1, .str (Str.ofString "base") kO1, .ref G⟩, ⟨hO2, .str (Str.ofString "index") kO2, .none⟩, ⟨hO3, .str (Str.ofString "scale") kO3, .int (1) uO1⟩, ⟨hO4, .str (Str.ofString "worth") kO4, .int (far) uO2⟩, ⟨hO5, .str (Str.ofString "size") kO5, .int (64) uO3⟩, ⟨hO6, .str (Str.ofString "segment") kO6, .str (Str.ofString "") uO4⟩, ⟨hO7, .str (Str.ofString "name") kO7, .str (Str.ofString "") uO5⟩] 8) :: (G, instObj 314 dG) :: (dG, dictOf [⟨hG0, .str (Str.ofString "name") kG0, .str wG uG0⟩, ⟨hG1, .str (Str.ofString "kind") kG1, .str (Str.ofString "gpr") uG1⟩, ⟨hG2, .str (Str.ofString "number") kG2, .int (one) uG2⟩, ⟨hG3, .str (Str.ofString "size") kG3, .int (64) uG3⟩] 4) :: u (listOf vs'.toArray nW) o') → IntsAre vs' (ws.set 4 ((ws.getD 4 0 + 8) % 18446744073709551616)) → DI w HD o' (wrM c ((ws.set 4 ((ws.getD 4 0 + 8) % 18446744073709551616)).getD one.toNat 0 + far) (rdM c (ws.getD 4 0) 8) 8) → (∀ p ∈ u (listOf vs'.toArray nW) o', p.1 < dG) → @LT.lt Nat _ dG G → @LT.lt Nat _ dO O → @LT.lt Nat _ dI I → @LT.lt Nat _ I Tp → @LT.lt Nat _ Ls dI → @LT.lt Nat _ G dO → @LT.lt Nat _ O Ls → @LT.lt Nat _ Tp Tq → Q (.ref Tq) ⟨h', stG, stD, tk', stO⟩) :
    wpAny (model PySem.Challenge.rw_nn0065_01.row.prog w) (ktrTop dp un gd cn cs L a ccd cl outer) (call (.ref 876) [.int 6 t, .int one t1, .int other t2, .int far t3, .ref HD, .ref W, .ref Bt]) Q E ⟨stH, stG, stD, stT, stO⟩ := by
  obtain ⟨rest, hRH, hoR, hoH, hu, hn⟩ := upd_open2 U1 U
  replace mB := upd_rest2 hu mB
  replace N := news_of N (fun p hp => (hn p).mpr hp)
  clear U1 U hn
  k_dflt (refine' enter_def [(Str.ofString "way", .int 6 t), (Str.ofString "one", .int one t1), (Str.ofString "other", .int other t2), (Str.ofString "far", .int far t3), (Str.ofString "held", .ref HD), (Str.ofString "worths", .ref W), (Str.ofString "bits", .ref Bt)] ?k1 ?k2 ?k3 ?k4 ?k5 ?kA ?kF ?kK ?k6 ?k7 ?k8 ?k9 ?kB ?_ ?c2 ?c3 ?c4 ?c5; k_extra "en")
  k_steps
  (rename News h₀ L _ _ => N9)
  exact ret _ _ _ _ _ _ _ _ _ _ _ _ _ _ _ _ _ _ _ _ _ _ _ _ _ _ _ _ _ _ _ _ _ _ _ _ _ _ _ _ _ _ _ _ _ _ _ _ _ _ _ _ _ _ _ _ _ _ _ (by k_asm) (news_of N9 (sub_cons (sub_cons (sub_cons (sub_cons (sub_cons (sub_cons (sub_cons (sub_cons (sub_cons (fun p hp => (hu _ _ p).mp hp))))))))))) (by first | assumption | (walk_at "lsI")) (by first | assumption | (walk_at "lsD")) (fun p hp => kst_ltOf (l := (W, _) :: (HD, _) :: rest) (by assumption) p ((hu _ _ p).mp hp)) (by omega) (by omega) (by omega) (by omega) (by omega) (by omega) (by omega) (by omega)
theorem c_ls7 {HD W Bt : Addr} {vsW : List Value} {ws : List Int} {nW nB : Nat} {oD : Obj} {c : List (Int × Int)} {b0 b1 b2 b3 b4 b5 b6 : Int} {tb0 tb1 tb2 tb3 tb4 tb5 tb6 : Tok} {one other far : Int} {t t1 t2 t3 : Tok} (hb : BitsOK b0 b1 b2 b3 b4 b5 b6) (i0 : 0 ≤ one) (i1 : one < 16) (g0 : -2147483648 ≤ far) (g1 : far < 8589934592) (iW : IntsAre vsW ws) (D : DI w HD oD c) (h1 : ws.length = 16) (hc : c.length ≤ 100000) (hun : un + 400 < cLine) (hdp : dp + 16 < recursionLimit) {u1 : Obj → List (Addr × Obj)} {u : Obj → Obj → List (Addr × Obj)} (U1 : UpdF W (listOf vsW.toArray nW) news u1) (U : ∀ o, UpdF HD oD (u1 o) (u o)) (mB : ∀ o o2, (Bt, { cls := .type "tuple", data := .seq (List.toArray [.int b0 tb0, .int b1 tb1, .int b2 tb2, .int b3 tb3, .int b4 tb4, .int b5 tb5, .int b6 tb6]) nB }) ∈ u o o2)
    (ret : ∀ Ls nLs I dI hI0 hI1 hI2 kI0 kI1 kI2 uI0 uI1 Tp nTp Tq nTq vs' o' h' tk', Fr h₀ L h' m → News h₀ L h' ((Tq, { cls := .type "tuple", data := .seq (List.toArray [.ref I, .ref Bt]) nTq }) :: (Tp, { cls := .type "tuple", data := .seq (List.toArray []) nTp }) :: (I, instObj 804 dI) :: (dI, dictOf [⟨hI0, .str (Str.ofString "name") kI0, .str (Str.ofString "pushfq") uI0⟩, ⟨hI1, .str (Str.ofString "operands") kI1, .ref Tp⟩, ⟨hI2, .str (Str.ofString "prefix") kI2, .str (Str.ofString "") uI1⟩] 3) :: (Ls, listOf (List.toArray []) nLs) :: u (listOf vs'.toArray nW) o') → IntsAre vs' (ws.set 4 ((ws.getD 4 0 - 8) % 18446744073709551616)) → DI w HD o' (wrM c ((ws.getD 4 0 - 8) % 18446744073709551616) (packB b0 b1 b2 b3 b4 b5 b6) 8) → (∀ p ∈ u (listOf vs'.toArray nW) o', p.1 < Ls) → @LT.lt Nat _ dI I → @LT.lt Nat _ I Tp → @LT.lt Nat _ Ls dI → @LT.lt Nat _ Tp Tq → Q (.ref Tq) ⟨h', stG, stD, tk', stO⟩) :
    wpAny (model PySem.Challenge.rw_nn0065_01.row.prog w) (ktrTop dp un gd cn cs L a ccd cl outer) (call (.ref 876) [.int 7 t, .int one t1, .int other t2, .int far t3, .ref HD, .ref W, .ref Bt]) Q E ⟨stH, stG, stD, stT, stO⟩ := by
  obtain ⟨rest, hRH, hoR, hoH, hu, hn⟩ := upd_open2 U1 U
  replace mB := upd_rest2 hu mB
  replace N := news_of N (fun p hp => (hn p).mpr hp)
  clear U1 U hn
  k_dflt (refine' enter_def [(Str.ofString "way", .int 7 t), (Str.ofString "one", .int one t1), (Str.ofString "other", .int other t2), (Str.ofString "far", .int far t3), (Str.ofString "held", .ref HD), (Str.ofString "worths", .ref W), (Str.ofString "bits", .ref Bt)] ?k1 ?k2 ?k3 ?k4 ?k5 ?kA ?kF ?kK ?k6 ?k7 ?k8 ?k9 ?kB ?_ ?c2 ?c3 ?c4 ?c5; k_extra "en")
  k_steps
  (rename News h₀ L _ _ => N9)
  exact ret _ _ _ _ _ _ _ _ _ _ _ _ _ _ _ _ _ _ _ _ (by k_asm) (news_of N9 (sub_cons (sub_cons (sub_cons (sub_cons (sub_cons (fun p hp => (hu _ _ p).mp hp))))))) (by first | assumption | (walk_at "lsI")) (by first | assumption | (walk_at "lsD")) (fun p hp => kst_ltOf (l := (W, _) :: (HD, _) :: rest) (by assumption) p ((hu _ _ p).mp hp)) (by omega) (by omega) (by omega) (by omega)
theorem c_ls8 {HD W Bt : Addr} {vsW : List Value} {ws : List Int} {nW nB : Nat} {oD : Obj} {c : List (Int × Int)} {b0 b1 b2 b3 b4 b5 b6 : Int} {tb0 tb1 tb2 tb3 tb4 tb5 tb6 : Tok} {one other far : Int} {t t1 t2 t3 : Tok} (hb : BitsOK b0 b1 b2 b3 b4 b5 b6) (i0 : 0 ≤ one) (i1 : one < 16) (g0 : -2147483648 ≤ far) (g1 : far < 8589934592) (iW : IntsAre vsW ws) (D : DI w HD oD c) (h1 : ws.length = 16) (hc : c.length ≤ 100000) (hun : un + 400 < cLine) (hdp : dp + 16 < recursionLimit) {u : Obj → List (Addr × Obj)} (U : UpdF W (listOf vsW.toArray nW) news u) (mHD : ∀ o, (HD, oD) ∈ u o) (mB : ∀ o, (Bt, { cls := .type "tuple", data := .seq (List.toArray [.int b0 tb0, .int b1 tb1, .int b2 tb2, .int b3 tb3, .int b4 tb4, .int b5 tb5, .int b6 tb6]) nB }) ∈ u o)
    (ret : ∀ Ls nLs I dI hI0 hI1 hI2 kI0 kI1 kI2 uI0 uI1 Tp nTp q t0 t1 t2 t3 t4 t5 t6 nq Tq nTq vs'  h' tk', Fr h₀ L h' m → News h₀ L h' ((Tq, { cls := .type "tuple", data := .seq (List.toArray [.ref I, .ref q]) nTq }) :: (q, { cls := .type "tuple", data := .seq (List.toArray [.int (bitZ (rdM c (ws.getD 4 0) 8) 0) t0, .int (bitZ (rdM c (ws.getD 4 0) 8) 2) t1, .int (bitZ (rdM c (ws.getD 4 0) 8) 4) t2, .int (bitZ (rdM c (ws.getD 4 0) 8) 6) t3, .int (bitZ (rdM c (ws.getD 4 0) 8) 7) t4, .int (bitZ (rdM c (ws.getD 4 0) 8) 11) t5, .int (bitZ (rdM c (ws.getD 4 0) 8) 10) t6]) nq }) :: (Tp, { cls := .type "tuple", data := .seq (List.toArray []) nTp }) :: (I, instObj 804 dI) :: (dI, dictOf [⟨hI0, .str (Str.ofString "name") kI0, .str (Str.ofString "popfq") uI0⟩, ⟨hI1, .str (Str.ofString "operands") kI1, .ref Tp⟩, ⟨hI2, .str (Str.ofString "prefix") kI2, .str (Str.ofString "") uI1⟩] 3) :: (Ls, listOf (List.toArray []) nLs) :: u (listOf vs'.toArray nW)) → IntsAre vs' (ws.set 4 ((ws.getD 4 0 + 8) % 18446744073709551616)) → (∀ p ∈ u (listOf vs'.toArray nW), p.1 < Ls) → @LT.lt Nat _ dI I → @LT.lt Nat _ I Tp → @LT.lt Nat _ Ls dI → @LT.lt Nat _ Tp q → @LT.lt Nat _ q Tq → Q (.ref Tq) ⟨h', stG, stD, tk', stO⟩) :
    wpAny (model PySem.Challenge.rw_nn0065_01.row.prog w) (ktrTop dp un gd cn cs L a ccd cl outer) (call (.ref 876) [.int 8 t, .int one t1, .int other t2, .int far t3, .ref HD, .ref W, .ref Bt]) Q E ⟨stH, stG, stD, stT, stO⟩ := by
  obtain ⟨rest, hoR, hu, hn⟩ := upd_open U
  replace mB := upd_rest hu mB
  replace mHD := upd_rest hu mHD
  replace N := news_of N (fun p hp => (hn p).mpr hp)
  clear U hn
  k_dflt (refine' enter_def [(Str.ofString "way", .int 8 t), (Str.ofString "one", .int one t1), (Str.ofString "other", .int other t2), (Str.ofString "far", .int far t3), (Str.ofString "held", .ref HD), (Str.ofString "worths", .ref W), (Str.ofString "bits", .ref Bt)] ?k1 ?k2 ?k3 ?k4 ?k5 ?kA ?kF ?kK ?k6 ?k7 ?k8 ?k9 ?kB ?_ ?c2 ?c3 ?c4 ?c5; k_extra "en")
  k_steps
  (rename News h₀ L _ _ => N9)
  exact ret _ _ _ _ _ _ _ _ _ _ _ _ _ _ _ _ _ _ _ _ _ _ _ _ _ _ _ _ (by k_asm) (news_of N9 (sub_cons (sub_cons (sub_cons (sub_cons (sub_cons (sub_cons (fun p hp => (hu _ p).mp hp)))))))) (by first | assumption | (walk_at "lsI")) (fun p hp => kst_ltOf (l := (W, _) :: rest) (by assumption) p ((hu _ p).mp hp)) (by omega) (by omega) (by omega) (by omega) (by omega)
theorem c_ls9 {HD W Bt : Addr} {vsW : List Value} {ws : List Int} {nW nB : Nat} {oD : Obj} {c : List (Int × Int)} {b0 b1 b2 b3 b4 b5 b6 : Int} {tb0 tb1 tb2 tb3 tb4 tb5 tb6 : Tok} {one other far : Int} {t t1 t2 t3 : Tok} (hb : BitsOK b0 b1 b2 b3 b4 b5 b6) (i0 : 0 ≤ one) (i1 : one < 16) (g0 : -2147483648 ≤ far) (g1 : far < 8589934592) (iW : IntsAre vsW ws) (D : DI w HD oD c) (h1 : ws.length = 16) (hc : c.length ≤ 100000) (hun : un + 400 < cLine) (hdp : dp + 16 < recursionLimit) {u : Obj → List (Addr × Obj)} (U : UpdF W (listOf vsW.toArray nW) news u) (mHD : ∀ o, (HD, oD) ∈ u o) (mB : ∀ o, (Bt, { cls := .type "tuple", data := .seq (List.toArray [.int b0 tb0, .int b1 tb1, .int b2 tb2, .int b3 tb3, .int b4 tb4, .int b5 tb5, .int b6 tb6]) nB }) ∈ u o)
    (ret : ∀ Ls nLs I dI hI0 hI1 hI2 kI0 kI1 kI2 uI0 uI1 Tp nTp Tq nTq vs'  h' tk', Fr h₀ L h' m → News h₀ L h' ((Tq, { cls := .type "tuple", data := .seq (List.toArray [.ref I, .ref Bt]) nTq }) :: (Tp, { cls := .type "tuple", data := .seq (List.toArray []) nTp }) :: (I, instObj 804 dI) :: (dI, dictOf [⟨hI0, .str (Str.ofString "name") kI0, .str (Str.ofString "leave") uI0⟩, ⟨hI1, .str (Str.ofString "operands") kI1, .ref Tp⟩, ⟨hI2, .str (Str.ofString "prefix") kI2, .str (Str.ofString "") uI1⟩] 3) :: (Ls, listOf (List.toArray []) nLs) :: u (listOf vs'.toArray nW)) → IntsAre vs' (((ws.set 4 (ws.getD 5 0)).set 4 (((ws.set 4 (ws.getD 5 0)).getD 4 0 + 8) % 18446744073709551616)).set 5 (rdM c ((ws.set 4 (ws.getD 5 0)).getD 4 0) 8)) → (∀ p ∈ u (listOf vs'.toArray nW), p.1 < Ls) → @LT.lt Nat _ dI I → @LT.lt Nat _ I Tp → @LT.lt Nat _ Ls dI → @LT.lt Nat _ Tp Tq → Q (.ref Tq) ⟨h', stG, stD, tk', stO⟩) :
    wpAny (model PySem.Challenge.rw_nn0065_01.row.prog w) (ktrTop dp un gd cn cs L a ccd cl outer) (call (.ref 876) [.int 9 t, .int one t1, .int other t2, .int far t3, .ref HD, .ref W, .ref Bt]) Q E ⟨stH, stG, stD, stT, stO⟩ := by
  obtain ⟨rest, hoR, hu, hn⟩ := upd_open U
  replace mB := upd_rest hu mB
  replace mHD := upd_rest hu mHD
  replace N := news_of N (fun p hp => (hn p).mpr hp)
  clear U hn
  k_dflt (refine' enter_def [(Str.ofString "way", .int 9 t), (Str.ofString "one", .int one t1), (Str.ofString "other", .int other t2), (Str.ofString "far", .int far t3), (Str.ofString "held", .ref HD), (Str.ofString "worths", .ref W), (Str.ofString "bits", .ref Bt)] ?k1 ?k2 ?k3 ?k4 ?k5 ?kA ?kF ?kK ?k6 ?k7 ?k8 ?k9 ?kB ?_ ?c2 ?c3 ?c4 ?c5; k_extra "en")
  k_steps
  (rename News h₀ L _ _ => N9)
  exact ret _ _ _ _ _ _ _ _ _ _ _ _ _ _ _ _ _ _ _ (by k_asm) (news_of N9 (sub_cons (sub_cons (sub_cons (sub_cons (sub_cons (fun p hp => (hu _ p).mp hp))))))) (by first | assumption | (walk_at "lsI")) (fun p hp => kst_ltOf (l := (W, _) :: rest) (by assumption) p ((hu _ p).mp hp)) (by omega) (by omega) (by omega) (by omega)

end
example : True := by
  k_with "ite" => (((with_reducible show if _ then wpAny _ _ (PySem.eval (PySem.Expr.Constant _ _ _) _) _ _ _ else wpAny _ _ (PySem.eval (PySem.Expr.Name _ _) _) _ _ _); k_dflt (refine' Mine.ife_join ?kF ?kV ?_; (case kF => k_asm); (case kV => exact rfl)); intro t' tk'; (try dsimp only)))
  trivial
theorem ife_join {M : Model} {A : Around} {E : Value → Shared → Prop} {s : Shared} {h₀ : Heap} {L a' : Addr} {m : Str → Option Value} {cn : Str} {cs : Scope} {ccd : Value} {cl : List (Str × Addr)} {x y a b : Int} {tb : Tok} {nm : Str} {kk : Nat} {pos p2 : Pos} {Q : Value → Shared → Prop}
    (F : Fr h₀ L s.heap m) (hv : m nm = some (.int b tb)) (G : ∀ t tk, Q (.int (if x = y then a else b) t) { s with toks := tk })
    (hk : cs.kind = .function := by rfl) (hx : (envX cn cs L a' ccd cl).kindOf nm = some .local := by rfl) (hd : (nm == ("__debug__" : Str)) = false := by decide) :
    if (x == y) = true then wpAny M A (eval (.Constant (.int a) kk pos) (envX cn cs L a' ccd cl)) Q E s else wpAny M A (eval (.Name nm p2) (envX cn cs L a' ccd cl)) Q E s := by
  by_cases h : x = y
  · rw [if_pos (by simp [h])]
    refine wpAny_Constant_int ?_
    have g := G s.toks (s.toks + 1)
    rw [if_pos h] at g
    exact g
  · rw [if_neg (by simp [h])]
    refine nameX_L F hv ?_ hk hx hd
    have g := G tb s.toks
    rw [if_neg h] at g
    exact g
theorem sub_drop {α : Type} {a : α} {l l' : List α} (h : ∀ p ∈ l', p ∈ l) : ∀ p ∈ l', p ∈ a :: l := fun p hp => .tail _ (h p hp)
theorem sz_cases (other : Int) : [64, 32, 16, 8].getD (other.fmod 4).toNat 0 = (64 : Int) ∨ [64, 32, 16, 8].getD (other.fmod 4).toNat 0 = (32 : Int) ∨ [64, 32, 16, 8].getD (other.fmod 4).toNat 0 = (16 : Int) ∨ [64, 32, 16, 8].getD (other.fmod 4).toNat 0 = (8 : Int) := by
  have h : (other.fmod 4).toNat = 0 ∨ (other.fmod 4).toNat = 1 ∨ (other.fmod 4).toNat = 2 ∨ (other.fmod 4).toNat = 3 := by
    have h1 := Int.fmod_eq_emod_of_nonneg other (b := 4) (by decide)
    omega
  rcases h with h | h | h | h <;> rw [h] <;> simp
theorem mx_cases (other : Int) : (if [64, 32, 16, 8].getD (other.fmod 4).toNat 0 > (16 : Int) then [64, 32, 16, 8].getD (other.fmod 4).toNat 0 else (16 : Int)) = (64 : Int) ∨ (if [64, 32, 16, 8].getD (other.fmod 4).toNat 0 > (16 : Int) then [64, 32, 16, 8].getD (other.fmod 4).toNat 0 else (16 : Int)) = (32 : Int) ∨ (if [64, 32, 16, 8].getD (other.fmod 4).toNat 0 > (16 : Int) then [64, 32, 16, 8].getD (other.fmod 4).toNat 0 else (16 : Int)) = (16 : Int) ∨ (if [64, 32, 16, 8].getD (other.fmod 4).toNat 0 > (16 : Int) then [64, 32, 16, 8].getD (other.fmod 4).toNat 0 else (16 : Int)) = (8 : Int) := by
  rcases sz_cases other with h | h | h | h <;> rw [h] <;> simp
theorem sc_cases (far : Int) : [1, 2, 4, 8].getD (far.fmod 4).toNat 0 = (1 : Int) ∨ [1, 2, 4, 8].getD (far.fmod 4).toNat 0 = (2 : Int) ∨ [1, 2, 4, 8].getD (far.fmod 4).toNat 0 = (4 : Int) ∨ [1, 2, 4, 8].getD (far.fmod 4).toNat 0 = (8 : Int) := by
  have h : (far.fmod 4).toNat = 0 ∨ (far.fmod 4).toNat = 1 ∨ (far.fmod 4).toNat = 2 ∨ (far.fmod 4).toNat = 3 := by
    have h1 := Int.fmod_eq_emod_of_nonneg far (b := 4) (by decide)
    omega
  rcases h with h | h | h | h <;> rw [h] <;> simp
section
variable {w : World} {dp un : Nat} {gd : Option (List Code)} {cn : Str} {cs : Scope} {a : Addr} {ccd : Value} {cl : List (Str × Addr)} {outer : List Env} {A₀ : Around} {base h₀ : Heap} {L : Addr} {m : Str → Option Value} {stH : Heap} {stG : Array GenState} {stD : Drawn} {stT : Nat} {stO : OsState} {Q E : Value → Shared → Prop} {p : Program} {loose : List Str} {mean : ExcName → Option Value} {mg mb : Str → Option Value} {news : List (Addr × Obj)}
    (B : Below A₀ base outer h₀) (F : Fr h₀ L stH m) (X : (hd.heap_39 w.params).In h₀) (T : Top p loose mean mg mb h₀) (hk : cs.kind = .function) (N : News h₀ L stH news)
include B F X T hk N
theorem c_lm10 {W : Addr} {vsW : List Value} {ws : List Int} {nW : Nat} {one other far : Int} {t t1 t2 t3 : Tok} {u : Obj → List (Addr × Obj)} (U : UpdF W (listOf vsW.toArray nW) news u) (i0 : 0 ≤ one) (i1 : one < 16) (j0 : 0 ≤ other) (j1 : other < 16) (g0 : -2147483648 ≤ far) (g1 : far < 8589934592) (iW : IntsAre vsW ws) (h1 : ws.length = 16) (hun : un + 400 < cLine) (hdp : dp + 16 < recursionLimit) 
    (ret : ∀ G dG hG0 hG1 hG2 hG3 kG0 kG1 kG2 kG3 uG0 uG1 uG2 uG3 wG O dO hO0 hO1 kO0 kO1 uO0 J dJ hJ0 hJ1 hJ2 hJ3 kJ0 kJ1 kJ2 kJ3 uJ0 uJ1 uJ2 uJ3 wJ P dP hP0 hP1 kP0 kP1 uP0 Ls nLs I dI hI0 hI1 hI2 kI0 kI1 kI2 uI0 uI1 Tp nTp vs' h' tk', Fr h₀ L h' m → News h₀ L h' ((Tp, { cls := .type "tuple", data := .seq (List.toArray [.ref O, .ref P]) nTp }) :: (I, instObj 804 dI) :: (dI, dictOf [⟨hI0, .str (Str.ofString "name") kI0, .str (Str.ofString "mov") uI0⟩, ⟨hI1, .str (Str.ofString "operands") kI1, .ref Tp⟩, ⟨hI2, .str (Str.ofString "prefix") kI2, .str (Str.ofString "") uI1⟩] 3) :: (Ls, listOf (List.toArray [.ref O, .ref P]) nLs) :: (P, instObj 623 dP) :: (dP, dictOf [⟨hP0, .str (Str.ofString "kind") kP0, .str (Str.ofString "reg") uP0⟩, ⟨hP1, .str (Str.ofString "register") kP1, .ref J⟩] 2) :: (J, instObj 314 dJ) :: (dJ, dictOf [⟨hJ0, .str (Str.ofString "name") kJ0, .str wJ uJ0⟩, ⟨hJ1, .str (Str.ofString "kind") kJ1, .str (Str.ofString "gpr") uJ1⟩, ⟨hJ2, .str (Str.ofString "number") kJ2, .int (other) uJ2⟩, ⟨hJ3, .str (Str.ofString "size") kJ3, .int (64) uJ3⟩] 4) :: (O, instObj 623 dO) :: (dO, dictOf [⟨hO0, .str (Str.ofString "kind") kO0, .str (Str.ofString "reg") uO0⟩, ⟨hO1, .str (Str.ofString "register") kO1, .ref G⟩] 2) :: (G, instObj 314 dG) :: (dG, dictOf [⟨hG0, .str (Str.ofString "name") kG0, .str wG uG0⟩, ⟨hG1, .str (Str.ofString "kind") kG1, .str (Str.ofString "gpr") uG1⟩, ⟨hG2, .str (Str.ofString "number") kG2, .int (one) uG2⟩, ⟨hG3, .str (Str.ofString "size") kG3, .int (64) uG3⟩] 4) :: u (listOf vs'.toArray nW)) → IntsAre vs' (ws.set one.toNat (ws.getD other.toNat 0)) → (∀ p ∈ u (listOf vs'.toArray nW), p.1 < dG) → @LT.lt Nat _ dG G → @LT.lt Nat _ dO O → @LT.lt Nat _ dJ J → @LT.lt Nat _ dP P → @LT.lt Nat _ dI I → @LT.lt Nat _ I Tp → @LT.lt Nat _ Ls dI → @LT.lt Nat _ G dO → @LT.lt Nat _ O dJ → @LT.lt Nat _ J dP → @LT.lt Nat _ P Ls → Q (.ref I) ⟨h', stG, stD, tk', stO⟩) :
    wpAny (model PySem.Challenge.rw_nn0065_01.row.prog w) (ktrTop dp un gd cn cs L a ccd cl outer) (call (.ref 883) [.int 10 t, .int one t1, .int other t2, .int far t3, .ref W]) Q E ⟨stH, stG, stD, stT, stO⟩ := by
  obtain ⟨rest, hoR, hu, hn⟩ := upd_open U
  replace N := news_of N (fun p hp => (hn p).mpr hp)
  clear U hn
  have hlen := fun (k : Nat) (x : Int) => (List.length_set .. : (ws.set k x).length = ws.length)
  k_dflt (refine' enter_def [(Str.ofString "way", .int 10 t), (Str.ofString "one", .int one t1), (Str.ofString "other", .int other t2), (Str.ofString "far", .int far t3), (Str.ofString "worths", .ref W)] ?k1 ?k2 ?k3 ?k4 ?k5 ?kA ?kF ?kK ?k6 ?k7 ?k8 ?k9 ?kB ?_ ?c2 ?c3 ?c4 ?c5; k_extra "en")
  k_steps
  (rename News h₀ L _ _ => N9)
  exact ret _ _ _ _ _ _ _ _ _ _ _ _ _ _ _ _ _ _ _ _ _ _ _ _ _ _ _ _ _ _ _ _ _ _ _ _ _ _ _ _ _ _ _ _ _ _ _ _ _ _ _ _ _ _ _ _ _ _ _ _ _ (by k_asm) (news_of N9 (sub_cons (sub_cons (sub_cons (sub_cons (sub_cons (sub_cons (sub_cons (sub_cons (sub_cons (sub_cons (sub_cons (sub_cons (sub_drop (fun p hp => (hu _ p).mp hp))))))))))))))) (by first | assumption | (walk_at "lsI")) (fun p hp => (by walk_at "belowN" : ∀ p ∈ (W, _) :: rest, p.1 < _) p ((hu _ p).mp hp)) (by omega) (by omega) (by omega) (by omega) (by omega) (by omega) (by omega) (by omega) (by omega) (by omega) (by omega)
theorem c_lm11 {W : Addr} {vsW : List Value} {ws : List Int} {nW : Nat} {one other far : Int} {t t1 t2 t3 : Tok} {u : Obj → List (Addr × Obj)} (U : UpdF W (listOf vsW.toArray nW) news u) (i0 : 0 ≤ one) (i1 : one < 16) (j0 : 0 ≤ other) (j1 : other < 16) (g0 : -2147483648 ≤ far) (g1 : far < 8589934592) (iW : IntsAre vsW ws) (h1 : ws.length = 16) (hun : un + 400 < cLine) (hdp : dp + 16 < recursionLimit) 
    (ret : ∀ G dG hG0 hG1 hG2 hG3 kG0 kG1 kG2 kG3 uG0 uG1 uG2 uG3 wG O dO hO0 hO1 kO0 kO1 uO0 J dJ hJ0 hJ1 hJ2 hJ3 kJ0 kJ1 kJ2 kJ3 uJ0 uJ1 uJ2 uJ3 wJ P dP hP0 hP1 kP0 kP1 uP0 Ls nLs I dI hI0 hI1 hI2 kI0 kI1 kI2 uI0 uI1 Tp nTp vs' h' tk', Fr h₀ L h' m → News h₀ L h' ((Tp, { cls := .type "tuple", data := .seq (List.toArray [.ref O, .ref P]) nTp }) :: (I, instObj 804 dI) :: (dI, dictOf [⟨hI0, .str (Str.ofString "name") kI0, .str (Str.ofString "xchg") uI0⟩, ⟨hI1, .str (Str.ofString "operands") kI1, .ref Tp⟩, ⟨hI2, .str (Str.ofString "prefix") kI2, .str (Str.ofString "") uI1⟩] 3) :: (Ls, listOf (List.toArray [.ref O, .ref P]) nLs) :: (P, instObj 623 dP) :: (dP, dictOf [⟨hP0, .str (Str.ofString "kind") kP0, .str (Str.ofString "reg") uP0⟩, ⟨hP1, .str (Str.ofString "register") kP1, .ref J⟩] 2) :: (J, instObj 314 dJ) :: (dJ, dictOf [⟨hJ0, .str (Str.ofString "name") kJ0, .str wJ uJ0⟩, ⟨hJ1, .str (Str.ofString "kind") kJ1, .str (Str.ofString "gpr") uJ1⟩, ⟨hJ2, .str (Str.ofString "number") kJ2, .int (other) uJ2⟩, ⟨hJ3, .str (Str.ofString "size") kJ3, .int ((([64, 32, 16, 8] : List Int).getD (other.fmod 4).toNat 0)) uJ3⟩] 4) :: (O, instObj 623 dO) :: (dO, dictOf [⟨hO0, .str (Str.ofString "kind") kO0, .str (Str.ofString "reg") uO0⟩, ⟨hO1, .str (Str.ofString "register") kO1, .ref G⟩] 2) :: (G, instObj 314 dG) :: (dG, dictOf [⟨hG0, .str (Str.ofString "name") kG0, .str wG uG0⟩, ⟨hG1, .str (Str.ofString "kind") kG1, .str (Str.ofString "gpr") uG1⟩, ⟨hG2, .str (Str.ofString "number") kG2, .int (one) uG2⟩, ⟨hG3, .str (Str.ofString "size") kG3, .int ((([64, 32, 16, 8] : List Int).getD (other.fmod 4).toNat 0)) uG3⟩] 4) :: u (listOf vs'.toArray nW)) → IntsAre vs' ((ws.set one.toNat (setZ (ws.getD one.toNat 0) ((ws.getD other.toNat 0).fmod (2 ^ (([64, 32, 16, 8] : List Int).getD (other.fmod 4).toNat 0).toNat)) (([64, 32, 16, 8] : List Int).getD (other.fmod 4).toNat 0))).set other.toNat (setZ ((ws.set one.toNat (setZ (ws.getD one.toNat 0) ((ws.getD other.toNat 0).fmod (2 ^ (([64, 32, 16, 8] : List Int).getD (other.fmod 4).toNat 0).toNat)) (([64, 32, 16, 8] : List Int).getD (other.fmod 4).toNat 0))).getD other.toNat 0) ((ws.getD one.toNat 0).fmod (2 ^ (([64, 32, 16, 8] : List Int).getD (other.fmod 4).toNat 0).toNat)) (([64, 32, 16, 8] : List Int).getD (other.fmod 4).toNat 0))) → (∀ p ∈ u (listOf vs'.toArray nW), p.1 < dG) → @LT.lt Nat _ dG G → @LT.lt Nat _ dO O → @LT.lt Nat _ dJ J → @LT.lt Nat _ dP P → @LT.lt Nat _ dI I → @LT.lt Nat _ I Tp → @LT.lt Nat _ Ls dI → @LT.lt Nat _ G dO → @LT.lt Nat _ O dJ → @LT.lt Nat _ J dP → @LT.lt Nat _ P Ls → Q (.ref I) ⟨h', stG, stD, tk', stO⟩) :
    wpAny (model PySem.Challenge.rw_nn0065_01.row.prog w) (ktrTop dp un gd cn cs L a ccd cl outer) (call (.ref 883) [.int 11 t, .int one t1, .int other t2, .int far t3, .ref W]) Q E ⟨stH, stG, stD, stT, stO⟩ := by
  obtain ⟨rest, hoR, hu, hn⟩ := upd_open U
  replace N := news_of N (fun p hp => (hn p).mpr hp)
  clear U hn
  have hlen := fun (k : Nat) (x : Int) => (List.length_set .. : (ws.set k x).length = ws.length)
  have hz := sz_cases other
  k_dflt (refine' enter_def [(Str.ofString "way", .int 11 t), (Str.ofString "one", .int one t1), (Str.ofString "other", .int other t2), (Str.ofString "far", .int far t3), (Str.ofString "worths", .ref W)] ?k1 ?k2 ?k3 ?k4 ?k5 ?kA ?kF ?kK ?k6 ?k7 ?k8 ?k9 ?kB ?_ ?c2 ?c3 ?c4 ?c5; k_extra "en")
  k_steps
  (rename News h₀ L _ _ => N9)
  exact ret _ _ _ _ _ _ _ _ _ _ _ _ _ _ _ _ _ _ _ _ _ _ _ _ _ _ _ _ _ _ _ _ _ _ _ _ _ _ _ _ _ _ _ _ _ _ _ _ _ _ _ _ _ _ _ _ _ _ _ _ _ (by k_asm) (news_of N9 (sub_cons (sub_cons (sub_cons (sub_cons (sub_cons (sub_cons (sub_cons (sub_cons (sub_cons (sub_cons (sub_cons (sub_cons (sub_drop (sub_drop (fun p hp => (hu _ p).mp hp)))))))))))))))) (by first | assumption | (walk_at "lsI")) (fun p hp => (by walk_at "belowN" : ∀ p ∈ (W, _) :: rest, p.1 < _) p ((hu _ p).mp hp)) (by omega) (by omega) (by omega) (by omega) (by omega) (by omega) (by omega) (by omega) (by omega) (by omega) (by omega)
theorem c_lm12 {W : Addr} {vsW : List Value} {ws : List Int} {nW : Nat} {one other far : Int} {t t1 t2 t3 : Tok} {u : Obj → List (Addr × Obj)} (U : UpdF W (listOf vsW.toArray nW) news u) (i0 : 0 ≤ one) (i1 : one < 16) (j0 : 0 ≤ other) (j1 : other < 16) (g0 : -2147483648 ≤ far) (g1 : far < 8589934592) (iW : IntsAre vsW ws) (h1 : ws.length = 16) (hun : un + 400 < cLine) (hdp : dp + 16 < recursionLimit) 
    (ret : ∀ G dG hG0 hG1 hG2 hG3 kG0 kG1 kG2 kG3 uG0 uG1 uG2 uG3 wG O dO hO0 hO1 kO0 kO1 uO0 B dB hB0 hB1 hB2 hB3 kB0 kB1 kB2 kB3 uB0 uB1 uB2 uB3 wB J dJ hJ0 hJ1 hJ2 hJ3 kJ0 kJ1 kJ2 kJ3 uJ0 uJ1 uJ2 uJ3 wJ P dP hP0 hP1 hP2 hP3 hP4 hP5 hP6 hP7 kP0 kP1 kP2 kP3 kP4 kP5 kP6 kP7 uP0 uP1 uP2 uP3 uP4 uP5 Ls nLs I dI hI0 hI1 hI2 kI0 kI1 kI2 uI0 uI1 Tp nTp vs' h' tk', Fr h₀ L h' m → News h₀ L h' ((Tp, { cls := .type "tuple", data := .seq (List.toArray [.ref O, .ref P]) nTp }) :: (I, instObj 804 dI) :: (dI, dictOf [⟨hI0, .str (Str.ofString "name") kI0, .str (Str.ofString "lea") uI0⟩, ⟨hI1, .str (Str.ofString "operands") kI1, .ref Tp⟩, ⟨hI2, .str (Str.ofString "prefix") kI2, .str (Str.ofString "") uI1⟩] 3) :: (Ls, listOf (List.toArray [.ref O, .ref P]) nLs) :: (P, instObj 751 dP) :: (dP, dictOf [⟨hP0, .str (Str.ofString "kind") kP0, .str (Str.ofString "mem") uP0⟩, ⟨hP1, .str (Str.ofString "base") kP1, .ref B⟩, ⟨hP2, .str (Str.ofString "index") kP2, .ref J⟩, ⟨hP3, .str (Str.ofString "scale") kP3, .int ((([1, 2, 4, 8] : List Int).getD (far.fmod 4).toNat 0)) uP1⟩, ⟨hP4, .str (Str.ofString "worth") kP4, .int (far) uP2⟩, ⟨hP5, .str (Str.ofString "size") kP5, .int (0) uP3⟩, ⟨hP6, .str (Str.ofString "segment") kP6, .str (Str.ofString "") uP4⟩, ⟨hP7, .str (Str.ofString "name") kP7, .str (Str.ofString "") uP5⟩] 8) :: (J, instObj 314 dJ) :: (dJ, dictOf [⟨hJ0, .str (Str.ofString "name") kJ0, .str wJ uJ0⟩, ⟨hJ1, .str (Str.ofString "kind") kJ1, .str (Str.ofString "gpr") uJ1⟩, ⟨hJ2, .str (Str.ofString "number") kJ2, .int ((if other = 4 then 5 else other)) uJ2⟩, ⟨hJ3, .str (Str.ofString "size") kJ3, .int (64) uJ3⟩] 4) :: (B, instObj 314 dB) :: (dB, dictOf [⟨hB0, .str (Str.ofString "name") kB0, .str wB uB0⟩, ⟨hB1, .str (Str.ofString "kind") kB1, .str (Str.ofString "gpr") uB1⟩, ⟨hB2, .str (Str.ofString "number") kB2, .int (4) uB2⟩, ⟨hB3, .str (Str.ofString "size") kB3, .int (64) uB3⟩] 4) :: (O, instObj 623 dO) :: (dO, dictOf [⟨hO0, .str (Str.ofString "kind") kO0, .str (Str.ofString "reg") uO0⟩, ⟨hO1, .str (Str.ofString "register") kO1, .ref G⟩] 2) :: (G, instObj 314 dG) :: (dG, dictOf [⟨hG0, .str (Str.ofString "name") kG0, .str wG uG0⟩, ⟨hG1, .str (Str.ofString "kind") kG1, .str (Str.ofString "gpr") uG1⟩, ⟨hG2, .str (Str.ofString "number") kG2, .int (one) uG2⟩, ⟨hG3, .str (Str.ofString "size") kG3, .int ((if (([64, 32, 16, 8] : List Int).getD (other.fmod 4).toNat 0) > 16 then (([64, 32, 16, 8] : List Int).getD (other.fmod 4).toNat 0) else 16)) uG3⟩] 4) :: u (listOf vs'.toArray nW)) → IntsAre vs' (ws.set one.toNat (setZ (ws.getD one.toNat 0) (ws.getD 4 0 + ws.getD (if other = 4 then 5 else other).toNat 0 * (([1, 2, 4, 8] : List Int).getD (far.fmod 4).toNat 0) + far) (if (([64, 32, 16, 8] : List Int).getD (other.fmod 4).toNat 0) > 16 then (([64, 32, 16, 8] : List Int).getD (other.fmod 4).toNat 0) else 16))) → (∀ p ∈ u (listOf vs'.toArray nW), p.1 < dG) → @LT.lt Nat _ dG G → @LT.lt Nat _ dO O → @LT.lt Nat _ dB B → @LT.lt Nat _ dJ J → @LT.lt Nat _ dP P → @LT.lt Nat _ dI I → @LT.lt Nat _ I Tp → @LT.lt Nat _ Ls dI → @LT.lt Nat _ G dO → @LT.lt Nat _ O dB → @LT.lt Nat _ B dJ → @LT.lt Nat _ J dP → @LT.lt Nat _ P Ls → Q (.ref I) ⟨h', stG, stD, tk', stO⟩) :
    wpAny (model PySem.Challenge.rw_nn0065_01.row.prog w) (ktrTop dp un gd cn cs L a ccd cl outer) (call (.ref 883) [.int 12 t, .int one t1, .int other t2, .int far t3, .ref W]) Q E ⟨stH, stG, stD, stT, stO⟩ := by
  obtain ⟨rest, hoR, hu, hn⟩ := upd_open U
  replace N := news_of N (fun p hp => (hn p).mpr hp)
  clear U hn
  have hlen := fun (k : Nat) (x : Int) => (List.length_set .. : (ws.set k x).length = ws.length)
  have hz := sz_cases other
  have hsc := sc_cases far
  have hmx := mx_cases other
  have hJ0 : 0 ≤ (if other = 4 then (5 : Int) else other) := by split <;> omega
  have hJ1 : (if other = 4 then (5 : Int) else other) < 16 := by split <;> omega
  k_dflt (refine' enter_def [(Str.ofString "way", .int 12 t), (Str.ofString "one", .int one t1), (Str.ofString "other", .int other t2), (Str.ofString "far", .int far t3), (Str.ofString "worths", .ref W)] ?k1 ?k2 ?k3 ?k4 ?k5 ?kA ?kF ?kK ?k6 ?k7 ?k8 ?k9 ?kB ?_ ?c2 ?c3 ?c4 ?c5; k_extra "en")
  k_steps
  (rename News h₀ L _ _ => N9)
  exact ret _ _ _ _ _ _ _ _ _ _ _ _ _ _ _ _ _ _ _ _ _ _ _ _ _ _ _ _ _ _ _ _ _ _ _ _ _ _ _ _ _ _ _ _ _ _ _ _ _ _ _ _ _ _ _ _ _ _ _ _ _ _ _ _ _ _ _ _ _ _ _ _ _ _ _ _ _ _ _ _ _ _ _ _ _ _ _ _ _ _ _ _ _ (by k_asm) (news_of N9 (sub_cons (sub_cons (sub_cons (sub_cons (sub_cons (sub_cons (sub_cons (sub_cons (sub_cons (sub_cons (sub_cons (sub_cons (sub_cons (sub_cons (sub_drop (sub_drop (fun p hp => (hu _ p).mp hp)))))))))))))))))) (by first | assumption | (walk_at "lsI")) (fun p hp => (by walk_at "belowN" : ∀ p ∈ (W, _) :: rest, p.1 < _) p ((hu _ p).mp hp)) (by omega) (by omega) (by omega) (by omega) (by omega) (by omega) (by omega) (by omega) (by omega) (by omega) (by omega) (by omega) (by omega)

end
section
variable {w : World} {dp un : Nat} {gd : Option (List Code)} {cn : Str} {cs : Scope} {a : Addr} {ccd : Value} {cl : List (Str × Addr)} {outer : List Env} {A₀ : Around} {base h₀ : Heap} {L : Addr} {m : Str → Option Value} {stH : Heap} {stG : Array GenState} {stD : Drawn} {stT : Nat} {stO : OsState} {Q E : Value → Shared → Prop} {p : Program} {loose : List Str} {mean : ExcName → Option Value} {mg mb : Str → Option Value} {news : List (Addr × Obj)}
    (B : Below A₀ base outer h₀) (F : Fr h₀ L stH m) (X : (hd.heap_39 w.params).In h₀) (T : Top p loose mean mg mb h₀) (hk : cs.kind = .function) (N : News h₀ L stH news)
include B F X T hk N
theorem c_lf13 {HD W : Addr} {vsW : List Value} {ws : List Int} {nW : Nat} {oD : Obj} {c : List (Int × Int)} {one far place : Int} {t t1 t2 t3 : Tok} (i0 : 0 ≤ one) (i1 : one < 16) (g0 : -2147483648 ≤ far) (g1 : far < 8589934592)  (iW : IntsAre vsW ws) (D : DI w HD oD c) (h1 : ws.length = 16) (hc : c.length ≤ 100000) (hun : un + 400 < cLine) (hdp : dp + 16 < recursionLimit) {u1 : Obj → List (Addr × Obj)} {u : Obj → Obj → List (Addr × Obj)} (U1 : UpdF W (listOf vsW.toArray nW) news u1) (U : ∀ o, UpdF HD oD (u1 o) (u o))
    (ret : ∀ O dO hO0 hO1 hO2 kO0 kO1 kO2 uO0 uO1 uO2 Ls nLs I dI hI0 hI1 hI2 kI0 kI1 kI2 uI0 uI1 Tp nTp Tq nTq tPl vs' o' h' tk', Fr h₀ L h' m → News h₀ L h' ((Tq, { cls := .type "tuple", data := .seq (List.toArray [.ref I, .int (((place + far).fmod 18446744073709551616)) tPl]) nTq }) :: (Tp, { cls := .type "tuple", data := .seq (List.toArray [.ref O]) nTp }) :: (I, instObj 804 dI) :: (dI, dictOf [⟨hI0, .str (Str.ofString "name") kI0, .str (Str.ofString "call") uI0⟩, ⟨hI1, .str (Str.ofString "operands") kI1, .ref Tp⟩, ⟨hI2, .str (Str.ofString "prefix") kI2, .str (Str.ofString "") uI1⟩] 3) :: (Ls, listOf (List.toArray [.ref O]) nLs) :: (O, instObj 698 dO) :: (dO, dictOf [⟨hO0, .str (Str.ofString "kind") kO0, .str (Str.ofString "rel") uO0⟩, ⟨hO1, .str (Str.ofString "worth") kO1, .int (far) uO1⟩, ⟨hO2, .str (Str.ofString "name") kO2, .str (Str.ofString "") uO2⟩] 3) :: u (listOf vs'.toArray nW) o') → IntsAre vs' (ws.set 4 ((ws.getD 4 0 - 8) % 18446744073709551616)) → DI w HD o' (wrM c ((ws.getD 4 0 - 8) % 18446744073709551616) place 8) → (∀ p ∈ u (listOf vs'.toArray nW) o', p.1 < dO) → @LT.lt Nat _ dO O → @LT.lt Nat _ dI I → @LT.lt Nat _ I Tp → @LT.lt Nat _ Ls dI → @LT.lt Nat _ O Ls → @LT.lt Nat _ Tp Tq → Q (.ref Tq) ⟨h', stG, stD, tk', stO⟩) :
    wpAny (model PySem.Challenge.rw_nn0065_01.row.prog w) (ktrTop dp un gd cn cs L a ccd cl outer) (call (.ref 890) [.int 13 t, .int one t1, .int far t2, .ref HD, .ref W, .int place t3]) Q E ⟨stH, stG, stD, stT, stO⟩ := by
  obtain ⟨rest, hRH, hoR, hoH, hu, hn⟩ := upd_open2 U1 U
  replace N := news_of N (fun p hp => (hn p).mpr hp)
  clear U1 U hn
  have hlen := fun (k : Nat) (x : Int) => (List.length_set .. : (ws.set k x).length = ws.length)
  k_dflt (refine' enter_def [(Str.ofString "way", .int 13 t), (Str.ofString "one", .int one t1), (Str.ofString "far", .int far t2), (Str.ofString "held", .ref HD), (Str.ofString "worths", .ref W), (Str.ofString "place", .int place t3)] ?k1 ?k2 ?k3 ?k4 ?k5 ?kA ?kF ?kK ?k6 ?k7 ?k8 ?k9 ?kB ?_ ?c2 ?c3 ?c4 ?c5; k_extra "en")
  k_steps
  (rename News h₀ L _ _ => N9)
  exact ret _ _ _ _ _ _ _ _ _ _ _ _ _ _ _ _ _ _ _ _ _ _ _ _ _ _ _ _ _ _ _ _ (by k_asm) (news_of N9 (sub_cons (sub_cons (sub_cons (sub_cons (sub_cons (sub_cons (sub_cons (fun p hp => (hu _ _ p).mp hp))))))))) (by first | assumption | (walk_at "lsI")) (by first | assumption | (walk_at "lsD")) (fun p hp => (by walk_at "belowN" : ∀ p ∈ (W, _) :: (HD, _) :: rest, p.1 < _) p ((hu _ _ p).mp hp)) (by omega) (by omega) (by omega) (by omega) (by omega) (by omega)
theorem c_lf14 {HD W : Addr} {vsW : List Value} {ws : List Int} {nW : Nat} {oD : Obj} {c : List (Int × Int)} {one far place : Int} {t t1 t2 t3 : Tok} (i0 : 0 ≤ one) (i1 : one < 16) (g0 : -2147483648 ≤ far) (g1 : far < 8589934592)  (iW : IntsAre vsW ws) (D : DI w HD oD c) (h1 : ws.length = 16) (hc : c.length ≤ 100000) (hun : un + 400 < cLine) (hdp : dp + 16 < recursionLimit) {u1 : Obj → List (Addr × Obj)} {u : Obj → Obj → List (Addr × Obj)} (U1 : UpdF W (listOf vsW.toArray nW) news u1) (U : ∀ o, UpdF HD oD (u1 o) (u o))
    (ret : ∀ G dG hG0 hG1 hG2 hG3 kG0 kG1 kG2 kG3 uG0 uG1 uG2 uG3 wG O dO hO0 hO1 kO0 kO1 uO0 Ls nLs I dI hI0 hI1 hI2 kI0 kI1 kI2 uI0 uI1 Tp nTp Tq nTq tPl vs' o' h' tk', Fr h₀ L h' m → News h₀ L h' ((Tq, { cls := .type "tuple", data := .seq (List.toArray [.ref I, .int (ws.getD one.toNat 0) tPl]) nTq }) :: (Tp, { cls := .type "tuple", data := .seq (List.toArray [.ref O]) nTp }) :: (I, instObj 804 dI) :: (dI, dictOf [⟨hI0, .str (Str.ofString "name") kI0, .str (Str.ofString "call") uI0⟩, ⟨hI1, .str (Str.ofString "operands") kI1, .ref Tp⟩, ⟨hI2, .str (Str.ofString "prefix") kI2, .str (Str.ofString "") uI1⟩] 3) :: (Ls, listOf (List.toArray [.ref O]) nLs) :: (O, instObj 623 dO) :: (dO, dictOf [⟨hO0, .str (Str.ofString "kind") kO0, .str (Str.ofString "reg") uO0⟩, ⟨hO1, .str (Str.ofString "register") kO1, .ref G⟩] 2) :: (G, instObj 314 dG) :: (dG, dictOf [⟨hG0, .str (Str.ofString "name") kG0, .str wG uG0⟩, ⟨hG1, .str (Str.ofString "kind") kG1, .str (Str.ofString "gpr") uG1⟩, ⟨hG2, .str (Str.ofString "number") kG2, .int (one) uG2⟩, ⟨hG3, .str (Str.ofString "size") kG3, .int (64) uG3⟩] 4) :: u (listOf vs'.toArray nW) o') → IntsAre vs' (ws.set 4 ((ws.getD 4 0 - 8) % 18446744073709551616)) → DI w HD o' (wrM c ((ws.getD 4 0 - 8) % 18446744073709551616) place 8) → (∀ p ∈ u (listOf vs'.toArray nW) o', p.1 < dG) → @LT.lt Nat _ dG G → @LT.lt Nat _ dO O → @LT.lt Nat _ dI I → @LT.lt Nat _ I Tp → @LT.lt Nat _ Ls dI → @LT.lt Nat _ G dO → @LT.lt Nat _ O Ls → @LT.lt Nat _ Tp Tq → Q (.ref Tq) ⟨h', stG, stD, tk', stO⟩) :
    wpAny (model PySem.Challenge.rw_nn0065_01.row.prog w) (ktrTop dp un gd cn cs L a ccd cl outer) (call (.ref 890) [.int 14 t, .int one t1, .int far t2, .ref HD, .ref W, .int place t3]) Q E ⟨stH, stG, stD, stT, stO⟩ := by
  obtain ⟨rest, hRH, hoR, hoH, hu, hn⟩ := upd_open2 U1 U
  replace N := news_of N (fun p hp => (hn p).mpr hp)
  clear U1 U hn
  have hlen := fun (k : Nat) (x : Int) => (List.length_set .. : (ws.set k x).length = ws.length)
  k_dflt (refine' enter_def [(Str.ofString "way", .int 14 t), (Str.ofString "one", .int one t1), (Str.ofString "far", .int far t2), (Str.ofString "held", .ref HD), (Str.ofString "worths", .ref W), (Str.ofString "place", .int place t3)] ?k1 ?k2 ?k3 ?k4 ?k5 ?kA ?kF ?kK ?k6 ?k7 ?k8 ?k9 ?kB ?_ ?c2 ?c3 ?c4 ?c5; k_extra "en")
  k_steps
  (rename News h₀ L _ _ => N9)
  exact ret _ _ _ _ _ _ _ _ _ _ _ _ _ _ _ _ _ _ _ _ _ _ _ _ _ _ _ _ _ _ _ _ _ _ _ _ _ _ _ _ _ _ _ (by k_asm) (news_of N9 (sub_cons (sub_cons (sub_cons (sub_cons (sub_cons (sub_cons (sub_cons (sub_cons (sub_cons (fun p hp => (hu _ _ p).mp hp))))))))))) (by first | assumption | (walk_at "lsI")) (by first | assumption | (walk_at "lsD")) (fun p hp => (by walk_at "belowN" : ∀ p ∈ (W, _) :: (HD, _) :: rest, p.1 < _) p ((hu _ _ p).mp hp)) (by omega) (by omega) (by omega) (by omega) (by omega) (by omega) (by omega) (by omega)
theorem c_lf15a {HD W : Addr} {vsW : List Value} {ws : List Int} {nW : Nat} {oD : Obj} {c : List (Int × Int)} {one far place : Int} {t t1 t2 t3 : Tok} (i0 : 0 ≤ one) (i1 : one < 16) (g0 : -2147483648 ≤ far) (g1 : far < 8589934592) (hf : far % 2 = 0) (iW : IntsAre vsW ws) (D : DI w HD oD c) (h1 : ws.length = 16) (hc : c.length ≤ 100000) (hun : un + 400 < cLine) (hdp : dp + 16 < recursionLimit) {u : Obj → List (Addr × Obj)} (U : UpdF W (listOf vsW.toArray nW) news u) (mHD : ∀ o, (HD, oD) ∈ u o)
    (ret : ∀ Ls nLs I dI hI0 hI1 hI2 kI0 kI1 kI2 uI0 uI1 Tp nTp Tq nTq tPl vs'  h' tk', Fr h₀ L h' m → News h₀ L h' ((Tq, { cls := .type "tuple", data := .seq (List.toArray [.ref I, .int (rdM c (ws.getD 4 0) 8) tPl]) nTq }) :: (Tp, { cls := .type "tuple", data := .seq (List.toArray []) nTp }) :: (I, instObj 804 dI) :: (dI, dictOf [⟨hI0, .str (Str.ofString "name") kI0, .str (Str.ofString "ret") uI0⟩, ⟨hI1, .str (Str.ofString "operands") kI1, .ref Tp⟩, ⟨hI2, .str (Str.ofString "prefix") kI2, .str (Str.ofString "") uI1⟩] 3) :: (Ls, listOf (List.toArray []) nLs) :: u (listOf vs'.toArray nW)) → IntsAre vs' (ws.set 4 ((ws.getD 4 0 + 8) % 18446744073709551616)) → (∀ p ∈ u (listOf vs'.toArray nW), p.1 < Ls) → @LT.lt Nat _ dI I → @LT.lt Nat _ I Tp → @LT.lt Nat _ Ls dI → @LT.lt Nat _ Tp Tq → Q (.ref Tq) ⟨h', stG, stD, tk', stO⟩) :
    wpAny (model PySem.Challenge.rw_nn0065_01.row.prog w) (ktrTop dp un gd cn cs L a ccd cl outer) (call (.ref 890) [.int 15 t, .int one t1, .int far t2, .ref HD, .ref W, .int place t3]) Q E ⟨stH, stG, stD, stT, stO⟩ := by
  obtain ⟨rest, hoR, hu, hn⟩ := upd_open U
  replace mHD := upd_rest hu mHD
  replace N := news_of N (fun p hp => (hn p).mpr hp)
  clear U hn
  have hlen := fun (k : Nat) (x : Int) => (List.length_set .. : (ws.set k x).length = ws.length)
  have hf2 : far.fmod 2 = 0 := by rw [Int.fmod_eq_emod_of_nonneg _ (by decide)]; exact hf
  k_dflt (refine' enter_def [(Str.ofString "way", .int 15 t), (Str.ofString "one", .int one t1), (Str.ofString "far", .int far t2), (Str.ofString "held", .ref HD), (Str.ofString "worths", .ref W), (Str.ofString "place", .int place t3)] ?k1 ?k2 ?k3 ?k4 ?k5 ?kA ?kF ?kK ?k6 ?k7 ?k8 ?k9 ?kB ?_ ?c2 ?c3 ?c4 ?c5; k_extra "en")
  k_steps
  all_goals (try (exfalso; omega))
  (rename News h₀ L _ _ => N9)
  exact ret _ _ _ _ _ _ _ _ _ _ _ _ _ _ _ _ _ _ _ _ (by k_asm) (news_of N9 (sub_cons (sub_cons (sub_cons (sub_cons (sub_cons (fun p hp => (hu _ p).mp hp))))))) (by first | assumption | (walk_at "lsI")) (fun p hp => (by walk_at "belowN" : ∀ p ∈ (W, _) :: rest, p.1 < _) p ((hu _ p).mp hp)) (by omega) (by omega) (by omega) (by omega)
theorem c_lf15b {HD W : Addr} {vsW : List Value} {ws : List Int} {nW : Nat} {oD : Obj} {c : List (Int × Int)} {one far place : Int} {t t1 t2 t3 : Tok} (i0 : 0 ≤ one) (i1 : one < 16) (g0 : -2147483648 ≤ far) (g1 : far < 8589934592) (hf : far % 2 = 1) (iW : IntsAre vsW ws) (D : DI w HD oD c) (h1 : ws.length = 16) (hc : c.length ≤ 100000) (hun : un + 400 < cLine) (hdp : dp + 16 < recursionLimit) {u : Obj → List (Addr × Obj)} (U : UpdF W (listOf vsW.toArray nW) news u) (mHD : ∀ o, (HD, oD) ∈ u o)
    (ret : ∀ O dO hO0 hO1 hO2 kO0 kO1 kO2 uO0 uO1 uO2 Ls nLs I dI hI0 hI1 hI2 kI0 kI1 kI2 uI0 uI1 Tp nTp Tq nTq tPl vs'  h' tk', Fr h₀ L h' m → News h₀ L h' ((Tq, { cls := .type "tuple", data := .seq (List.toArray [.ref I, .int (rdM c (ws.getD 4 0) 8) tPl]) nTq }) :: (Tp, { cls := .type "tuple", data := .seq (List.toArray [.ref O]) nTp }) :: (I, instObj 804 dI) :: (dI, dictOf [⟨hI0, .str (Str.ofString "name") kI0, .str (Str.ofString "ret") uI0⟩, ⟨hI1, .str (Str.ofString "operands") kI1, .ref Tp⟩, ⟨hI2, .str (Str.ofString "prefix") kI2, .str (Str.ofString "") uI1⟩] 3) :: (Ls, listOf (List.toArray [.ref O]) nLs) :: (O, instObj 657 dO) :: (dO, dictOf [⟨hO0, .str (Str.ofString "kind") kO0, .str (Str.ofString "imm") uO0⟩, ⟨hO1, .str (Str.ofString "worth") kO1, .int (far.fmod 65536) uO1⟩, ⟨hO2, .str (Str.ofString "name") kO2, .str (Str.ofString "") uO2⟩] 3) :: u (listOf vs'.toArray nW)) → IntsAre vs' ((ws.set 4 ((ws.getD 4 0 + 8) % 18446744073709551616)).set 4 (((ws.set 4 ((ws.getD 4 0 + 8) % 18446744073709551616)).getD 4 0 + far.fmod 65536).fmod 18446744073709551616)) → (∀ p ∈ u (listOf vs'.toArray nW), p.1 < dO) → @LT.lt Nat _ dO O → @LT.lt Nat _ dI I → @LT.lt Nat _ I Tp → @LT.lt Nat _ Ls dI → @LT.lt Nat _ O Ls → @LT.lt Nat _ Tp Tq → Q (.ref Tq) ⟨h', stG, stD, tk', stO⟩) :
    wpAny (model PySem.Challenge.rw_nn0065_01.row.prog w) (ktrTop dp un gd cn cs L a ccd cl outer) (call (.ref 890) [.int 15 t, .int one t1, .int far t2, .ref HD, .ref W, .int place t3]) Q E ⟨stH, stG, stD, stT, stO⟩ := by
  obtain ⟨rest, hoR, hu, hn⟩ := upd_open U
  replace mHD := upd_rest hu mHD
  replace N := news_of N (fun p hp => (hn p).mpr hp)
  clear U hn
  have hlen := fun (k : Nat) (x : Int) => (List.length_set .. : (ws.set k x).length = ws.length)
  have hf2 : far.fmod 2 = 1 := by rw [Int.fmod_eq_emod_of_nonneg _ (by decide)]; exact hf
  k_dflt (refine' enter_def [(Str.ofString "way", .int 15 t), (Str.ofString "one", .int one t1), (Str.ofString "far", .int far t2), (Str.ofString "held", .ref HD), (Str.ofString "worths", .ref W), (Str.ofString "place", .int place t3)] ?k1 ?k2 ?k3 ?k4 ?k5 ?kA ?kF ?kK ?k6 ?k7 ?k8 ?k9 ?kB ?_ ?c2 ?c3 ?c4 ?c5; k_extra "en")
  k_steps
  all_goals (try (exfalso; omega))
  (rename News h₀ L _ _ => N9)
  exact ret _ _ _ _ _ _ _ _ _ _ _ _ _ _ _ _ _ _ _ _ _ _ _ _ _ _ _ _ _ _ _ (by k_asm) (news_of N9 (sub_cons (sub_cons (sub_cons (sub_cons (sub_cons (sub_cons (sub_cons (fun p hp => (hu _ p).mp hp))))))))) (by first | assumption | (walk_at "lsI")) (fun p hp => (by walk_at "belowN" : ∀ p ∈ (W, _) :: rest, p.1 < _) p ((hu _ p).mp hp)) (by omega) (by omega) (by omega) (by omega) (by omega) (by omega)

end
example : True := by
  k_with "call ref" => ((k_here; (with_reducible show wpAny _ _ (PySem.call (Value.ref 822) _ _) _ _ _); k_dflt (refine' Mine.c_cell ?B ?F ?X ?T ?k ?N ?hl ?hi ?hn ?a0 ?a1 ?d ?_; (case B => k_asm); (case F => k_asm); (case X => k_asm); (case T => k_asm); (case k => first | exact rfl | assumption); (case N => k_asm); (case hl => first | assumption | exact Below.stays (by assumption) _ _ (by assumption)); (case hi => l_ints); (case hn => omega); (case a0 => omega); (case a1 => omega); (case d => ktr_room)); intro h' tk' t' F' N'; (try dsimp only at N'); (try k_sweep)))
  trivial
section
variable {w : World} {dp un : Nat} {gd : Option (List Code)} {cn : Str} {cs : Scope} {a : Addr} {ccd : Value} {cl : List (Str × Addr)} {outer : List Env} {A₀ : Around} {base h₀ : Heap} {L : Addr} {m : Str → Option Value} {stH : Heap} {stG : Array GenState} {stD : Drawn} {stT : Nat} {stO : OsState} {Q E : Value → Shared → Prop} {p : Program} {loose : List Str} {mean : ExcName → Option Value} {mg mb : Str → Option Value} {news : List (Addr × Obj)}
    (B : Below A₀ base outer h₀) (F : Fr h₀ L stH m) (X : (hd.heap_39 w.params).In h₀) (T : Top p loose mean mg mb h₀) (hk : cs.kind = .function) (N : News h₀ L stH news)
include B F X T hk N
theorem c_cell {l : Addr} {vs : List Value} {ns : List Int} {k : Int} {t : Tok} (hl : base.IsList l vs.toArray) (hi : IntsAre vs ns) (hn : ns.length < 64) (k0 : 0 ≤ k) (k1 : k < 64) (hdp : dp + 4 < recursionLimit)
    (ret : ∀ h' tk' t', Fr h₀ L h' m → News h₀ L h' news → Q (.int (ns.getD k.toNat 0) t') ⟨h', stG, stD, tk', stO⟩) :
    wpAny (model PySem.Challenge.rw_nn0065_01.row.prog w) (ktrTop dp un gd cn cs L a ccd cl outer) (call (.ref 822) [.ref l, .int k t]) Q E ⟨stH, stG, stD, stT, stO⟩ := by
  have hvl := hi.length
  k_dflt (refine' enter_def [(Str.ofString "script", .ref l), (Str.ofString "spot", .int k t)] ?k1 ?k2 ?k3 ?k4 ?k5 ?kA ?kF ?kK ?k6 ?k7 ?k8 ?k9 ?kB ?_ ?c2 ?c3 ?c4 ?c5; k_extra "en")
  k_lift B'
  k_steps
  · exact ret _ _ _ (by k_asm) (by k_asm)
  · have e : ns.getD k.toNat 0 = 0 := by simp only [List.getD_eq_getElem?_getD]; rw [List.getElem?_eq_none (by omega)]; rfl
    rw [e] at ret
    exact ret _ _ _ (by k_asm) (by k_asm)
end
structure LawMark : Prop where
noncomputable def lastOf : List Stmt → Option Stmt
  | [] => none
  | [x] => some x
  | _ :: r => lastOf r
noncomputable def lawSt : Option Stmt := lastOf PySem.Challenge.rw_nn0065_01.row.prog.main.body
noncomputable def LawGoal (w : World) (fa : Addr) (cd : Value) (L : Addr) (Q : Flow → Shared → Prop) (s : Shared) (st : Stmt) : Prop :=
  match st with
  | .FunctionDef name _ body _ _ _ scope _ _ _ => wpAny (model PySem.Challenge.rw_nn0065_01.row.prog w) (callerA.deeper (envOfC name scope L fa cd)) (execs body (envOfC name scope L fa cd)) Q (fun _ _ => False) s
  | _ => False
theorem law_use {st : Stmt} {P : Prop} (k : lawSt = some st) (f : lawSt = some st → P) : P := f k
theorem law_open {st : Stmt} {G : Stmt → Prop} (k : lawSt = some st) (h : lawSt = some st → G st) : ∀ st', lawSt = some st' → G st' := by
  intro st' k'
  rw [k] at k'
  exact Option.some.inj k' ▸ h k
noncomputable def RestGoal (w : World) (fa : Addr) (cd : Value) (L : Addr) (n : Nat) (Q : Flow → Shared → Prop) (s : Shared) (st : Stmt) : Prop :=
  match st with
  | .FunctionDef name _ body _ _ _ scope _ _ _ => wpAny (model PySem.Challenge.rw_nn0065_01.row.prog w) (callerA.deeper (envOfC name scope L fa cd)) (execs (body.drop n) (envOfC name scope L fa cd)) Q (fun _ _ => False) s
  | _ => False
noncomputable def Stage7 : Prop := ∀ {w : World} {h₀ : Heap} {s : Shared} {L : Addr} {p : Program} {loose : List Str} {mean : ExcName → Option Value} {mg mb : Str → Option Value} {Q : Flow → Shared → Prop} {l : Addr} {vs : List Value} {ns : List Int} {fa : Addr} {cd : Value} {W HD Bt : Addr} {vsW : List Value} {nW nB : Nat} {oD : Obj} {tb0 tb1 tb2 tb3 tb4 tb5 tb6 : Tok} {S R Xm Fl Me Sg : Addr} {rip : Int} {trip tbg : Tok} {dS : Addr} {hS0 hS1 hS2 hS3 hS4 hS5 hS6 hS7 hS8 : Int} {kS0 kS1 kS2 kS3 kS4 kS5 kS6 kS7 kS8 : Tok} {vsR : List Value} {ws : List Int} {nR : Nat} {H : Addr} {dMe : Addr} {hMe0 : Int} {kMe0 : Tok} {oH : Obj} {c : List (Int × Int)} {b0 b1 b2 b3 b4 b5 b6 : Int} {tf0 tf1 tf2 tf3 tf4 tf5 tf6 : Tok} {dFl : Addr} {hFl0 hFl1 hFl2 hFl3 hFl4 hFl5 hFl6 : Int} {kFl0 kFl1 kFl2 kFl3 kFl4 kFl5 kFl6 : Tok} {rest : List (Addr × Obj)} {oHc oSc : Obj} (X : (hd.heap_39 w.params).In h₀) (T : Top p loose mean mg mb h₀) (B : Below callerA h₀ [] h₀) (hl : h₀.IsList l vs.toArray) (hi : IntsAre vs ns) (hn : ns.length < 64)
  (F : Fr h₀ L s.heap (fun y => if y = Str.ofString "state" then some (.ref S) else if y = Str.ofString "bits" then some (.ref Bt) else if y = Str.ofString "worths" then some (.ref W) else none)) (N : News h₀ L s.heap ((W, listOf vsW.toArray nW) :: (HD, oD) :: (R, listOf vsR.toArray nR) :: (H, oH) :: (dS, dictOf [⟨hS0, .str (Str.ofString "iset") kS0, .none⟩, ⟨hS1, .str (Str.ofString "regs") kS1, .ref R⟩, ⟨hS2, .str (Str.ofString "xmm") kS2, .ref Xm⟩, ⟨hS3, .str (Str.ofString "flags") kS3, .ref Fl⟩, ⟨hS4, .str (Str.ofString "memory") kS4, .ref Me⟩, ⟨hS5, .str (Str.ofString "rip") kS5, .int rip trip⟩, ⟨hS6, .str (Str.ofString "begin") kS6, .int 0 tbg⟩, ⟨hS7, .str (Str.ofString "segments") kS7, .ref Sg⟩, ⟨hS8, .str (Str.ofString "is_halted") kS8, .bool false⟩] 9) :: (dFl, dictOf [⟨hFl0, .str (Str.ofString "cf") kFl0, .int b0 tf0⟩, ⟨hFl1, .str (Str.ofString "pf") kFl1, .int b1 tf1⟩, ⟨hFl2, .str (Str.ofString "af") kFl2, .int b2 tf2⟩, ⟨hFl3, .str (Str.ofString "zf") kFl3, .int b3 tf3⟩, ⟨hFl4, .str (Str.ofString "sf") kFl4, .int b4 tf4⟩, ⟨hFl5, .str (Str.ofString "of") kFl5, .int b5 tf5⟩, ⟨hFl6, .str (Str.ofString "df") kFl6, .int b6 tf6⟩] 7) :: rest)) (mS : (S, instObj 546 dS) ∈ rest) (mF : (Fl, instObj 174 dFl) ∈ rest) (mM : (Me, instObj 429 dMe) ∈ rest) (mMd : (dMe, dictOf [⟨hMe0, .str (Str.ofString "held") kMe0, .ref H⟩] 1) ∈ rest) (mB : (Bt, { cls := .type "tuple", data := .seq (List.toArray [.int b0 tb0, .int b1 tb1, .int b2 tb2, .int b3 tb3, .int b4 tb4, .int b5 tb5, .int b6 tb6]) nB }) ∈ rest) (mHc : (L + 2, oHc) ∈ rest) (mSc : (L + 1, oSc) ∈ rest) (dHc : oHc.data = .cell (some (.ref HD))) (dSc : oSc.data = .cell (some (.ref l))) (nWHD : @Ne Nat W HD) (nWR : @Ne Nat W R) (nWH : @Ne Nat W H) (nWdS : @Ne Nat W dS) (nWdFl : @Ne Nat W dFl) (nHDR : @Ne Nat HD R) (nHDH : @Ne Nat HD H) (nHDdS : @Ne Nat HD dS) (nHDdFl : @Ne Nat HD dFl) (nRH : @Ne Nat R H) (nRdS : @Ne Nat R dS) (nRdFl : @Ne Nat R dFl) (nHdS : @Ne Nat H dS) (nHdFl : @Ne Nat H dFl) (ndSdFl : @Ne Nat dS dFl) (rW : ∀ p ∈ rest, p.1 ≠ W) (rHD : ∀ p ∈ rest, p.1 ≠ HD) (rR : ∀ p ∈ rest, p.1 ≠ R) (rH : ∀ p ∈ rest, p.1 ≠ H) (rdS : ∀ p ∈ rest, p.1 ≠ dS) (rdFl : ∀ p ∈ rest, p.1 ≠ dFl) (iW : IntsAre vsW ws) (iR : IntsAre vsR ws) (D1 : DI w HD oD c) (D2 : DI w H oH c) (hbits : BitsOK b0 b1 b2 b3 b4 b5 b6)
  (h16 : ws.length = 16) (hws : ∀ x ∈ ws, 0 ≤ x ∧ x < 18446744073709551616) (hc : c.length ≤ 0)
  (ret : ∀ h' tk' m', Fr h₀ L h' m' → Q (.ret (.bool true)) { s with heap := h', toks := tk' }), ∀ st, lawSt = some st → RestGoal w fa cd L 7 Q s st
theorem pack_bitsB : ∀ x0 x1 x2 x3 x4 x5 x6 : Bool, bitZ (packB (cond x0 1 0) (cond x1 1 0) (cond x2 1 0) (cond x3 1 0) (cond x4 1 0) (cond x5 1 0) (cond x6 1 0)) 0 = cond x0 1 0 ∧ bitZ (packB (cond x0 1 0) (cond x1 1 0) (cond x2 1 0) (cond x3 1 0) (cond x4 1 0) (cond x5 1 0) (cond x6 1 0)) 2 = cond x1 1 0 ∧ bitZ (packB (cond x0 1 0) (cond x1 1 0) (cond x2 1 0) (cond x3 1 0) (cond x4 1 0) (cond x5 1 0) (cond x6 1 0)) 4 = cond x2 1 0 ∧ bitZ (packB (cond x0 1 0) (cond x1 1 0) (cond x2 1 0) (cond x3 1 0) (cond x4 1 0) (cond x5 1 0) (cond x6 1 0)) 6 = cond x3 1 0 ∧ bitZ (packB (cond x0 1 0) (cond x1 1 0) (cond x2 1 0) (cond x3 1 0) (cond x4 1 0) (cond x5 1 0) (cond x6 1 0)) 7 = cond x4 1 0 ∧ bitZ (packB (cond x0 1 0) (cond x1 1 0) (cond x2 1 0) (cond x3 1 0) (cond x4 1 0) (cond x5 1 0) (cond x6 1 0)) 11 = cond x5 1 0 ∧ bitZ (packB (cond x0 1 0) (cond x1 1 0) (cond x2 1 0) (cond x3 1 0) (cond x4 1 0) (cond x5 1 0) (cond x6 1 0)) 10 = cond x6 1 0 := by decide +kernel
theorem pack_bits {b0 b1 b2 b3 b4 b5 b6 : Int} (h : BitsOK b0 b1 b2 b3 b4 b5 b6) : bitZ (packB b0 b1 b2 b3 b4 b5 b6) 0 = b0 ∧ bitZ (packB b0 b1 b2 b3 b4 b5 b6) 2 = b1 ∧ bitZ (packB b0 b1 b2 b3 b4 b5 b6) 4 = b2 ∧ bitZ (packB b0 b1 b2 b3 b4 b5 b6) 6 = b3 ∧ bitZ (packB b0 b1 b2 b3 b4 b5 b6) 7 = b4 ∧ bitZ (packB b0 b1 b2 b3 b4 b5 b6) 11 = b5 ∧ bitZ (packB b0 b1 b2 b3 b4 b5 b6) 10 = b6 := by
  obtain ⟨e0, f0, e1, f1, e2, f2, e3, f3, e4, f4, e5, f5, e6, f6⟩ := h
  obtain ⟨x0, rfl⟩ := exz e0 f0
  obtain ⟨x1, rfl⟩ := exz e1 f1
  obtain ⟨x2, rfl⟩ := exz e2 f2
  obtain ⟨x3, rfl⟩ := exz e3 f3
  obtain ⟨x4, rfl⟩ := exz e4 f4
  obtain ⟨x5, rfl⟩ := exz e5 f5
  obtain ⟨x6, rfl⟩ := exz e6 f6
  exact pack_bitsB x0 x1 x2 x3 x4 x5 x6
theorem to7 (h7 : Stage7) {w : World} {h₀ : Heap} {s : Shared} {L : Addr} {p : Program} {loose : List Str} {mean : ExcName → Option Value} {mg mb : Str → Option Value} {Q : Flow → Shared → Prop} {l : Addr} {vs : List Value} {ns : List Int} {fa : Addr} {cd : Value} {W HD Bt : Addr} {vsW : List Value} {nW nB : Nat} {oD : Obj} {tb0 tb1 tb2 tb3 tb4 tb5 tb6 : Tok} {S R Xm Fl Me Sg : Addr} {rip : Int} {trip tbg : Tok} {dS : Addr} {hS0 hS1 hS2 hS3 hS4 hS5 hS6 hS7 hS8 : Int} {kS0 kS1 kS2 kS3 kS4 kS5 kS6 kS7 kS8 : Tok} {vsR : List Value} {ws : List Int} {nR : Nat} {H : Addr} {dMe : Addr} {hMe0 : Int} {kMe0 : Tok} {oH : Obj} {c : List (Int × Int)} {b0 b1 b2 b3 b4 b5 b6 : Int} {tf0 tf1 tf2 tf3 tf4 tf5 tf6 : Tok} {dFl : Addr} {hFl0 hFl1 hFl2 hFl3 hFl4 hFl5 hFl6 : Int} {kFl0 kFl1 kFl2 kFl3 kFl4 kFl5 kFl6 : Tok}  {oHc oSc : Obj} {oSg : Obj} (X : (hd.heap_39 w.params).In h₀) (T : Top p loose mean mg mb h₀) (B : Below callerA h₀ [] h₀) (hl : h₀.IsList l vs.toArray) (hi : IntsAre vs ns) (hn : ns.length < 64)
  {hh : Heap} {tk : Nat} (F : Fr h₀ L hh (fun y => if y = Str.ofString "state" then some (.ref S) else if y = Str.ofString "bits" then some (.ref Bt) else if y = Str.ofString "worths" then some (.ref W) else none)) (N : News h₀ L hh [(HD, oD), (R, listOf vsR.toArray nR), (Sg, oSg), (H, oH), (Me, instObj 429 dMe), (dMe, dictOf [⟨hMe0, .str (Str.ofString "held") kMe0, .ref H⟩] 1), (Fl, instObj 174 dFl), (dFl, dictOf [⟨hFl0, .str (Str.ofString "cf") kFl0, .int (bitZ (packB b0 b1 b2 b3 b4 b5 b6) 0) tf0⟩, ⟨hFl1, .str (Str.ofString "pf") kFl1, .int (bitZ (packB b0 b1 b2 b3 b4 b5 b6) 2) tf1⟩, ⟨hFl2, .str (Str.ofString "af") kFl2, .int (bitZ (packB b0 b1 b2 b3 b4 b5 b6) 4) tf2⟩, ⟨hFl3, .str (Str.ofString "zf") kFl3, .int (bitZ (packB b0 b1 b2 b3 b4 b5 b6) 6) tf3⟩, ⟨hFl4, .str (Str.ofString "sf") kFl4, .int (bitZ (packB b0 b1 b2 b3 b4 b5 b6) 7) tf4⟩, ⟨hFl5, .str (Str.ofString "of") kFl5, .int (bitZ (packB b0 b1 b2 b3 b4 b5 b6) 11) tf5⟩, ⟨hFl6, .str (Str.ofString "df") kFl6, .int (bitZ (packB b0 b1 b2 b3 b4 b5 b6) 10) tf6⟩] 7), (S, instObj 546 dS), (dS, dictOf [⟨hS0, .str (Str.ofString "iset") kS0, .none⟩, ⟨hS1, .str (Str.ofString "regs") kS1, .ref R⟩, ⟨hS2, .str (Str.ofString "xmm") kS2, .ref Xm⟩, ⟨hS3, .str (Str.ofString "flags") kS3, .ref Fl⟩, ⟨hS4, .str (Str.ofString "memory") kS4, .ref Me⟩, ⟨hS5, .str (Str.ofString "rip") kS5, .int rip trip⟩, ⟨hS6, .str (Str.ofString "begin") kS6, .int 0 tbg⟩, ⟨hS7, .str (Str.ofString "segments") kS7, .ref Sg⟩, ⟨hS8, .str (Str.ofString "is_halted") kS8, .bool false⟩] 9), (Bt, { cls := .type "tuple", data := .seq (List.toArray [.int b0 tb0, .int b1 tb1, .int b2 tb2, .int b3 tb3, .int b4 tb4, .int b5 tb5, .int b6 tb6]) nB }), (W, listOf vsW.toArray nW), (L + 1 + 1, oHc), (L + 1, oSc)]) (q0 : @LT.lt Nat _ W Bt) (q1 : @LT.lt Nat _ ((L : Nat) + 1 + 1) Bt) (q2 : @LT.lt Nat _ ((L : Nat) + 1) Bt) (q3 : @LT.lt Nat _ Bt dS) (q4 : @LT.lt Nat _ dS S) (q5 : @LT.lt Nat _ S dFl) (q6 : @LT.lt Nat _ dFl Fl) (q7 : @LT.lt Nat _ Fl dMe) (q8 : @LT.lt Nat _ dMe Me) (q9 : @LT.lt Nat _ Me H) (q10 : @LT.lt Nat _ H Sg) (q11 : @LT.lt Nat _ Sg R) (q12 : @LT.lt Nat _ R HD) (dHc : oHc.data = .cell (some (.ref HD))) (dSc : oSc.data = .cell (some (.ref l))) (iW : IntsAre vsW ws) (iR : IntsAre vsR ws) (D1 : DI w HD oD c) (D2 : DI w H oH c) (hbits : BitsOK b0 b1 b2 b3 b4 b5 b6)
  (h16 : ws.length = 16) (hws : ∀ x ∈ ws, 0 ≤ x ∧ x < 18446744073709551616) (hc : c.length ≤ 0)
  (ret : ∀ h' tk' m', Fr h₀ L h' m' → Q (.ret (.bool true)) { s with heap := h', toks := tk' }) : ∀ st, lawSt = some st → RestGoal w fa cd L 7 Q { s with heap := hh, toks := tk } st := by
  obtain ⟨p0, p1, p2, p3, p4, p5, p6⟩ := pack_bits hbits
  rw [p0, p1, p2, p3, p4, p5, p6] at N
  have hr : ∀ {X : Nat}, @Ne Nat S X → @Ne Nat Fl X → @Ne Nat Me X → @Ne Nat dMe X → @Ne Nat Bt X → @Ne Nat ((L : Nat) + 1 + 1) X → @Ne Nat ((L : Nat) + 1) X → ∀ p ∈ ([(S, instObj 546 dS), (Fl, instObj 174 dFl), (Me, instObj 429 dMe), (dMe, dictOf [⟨hMe0, .str (Str.ofString "held") kMe0, .ref H⟩] 1), (Bt, { cls := .type "tuple", data := .seq (List.toArray [.int b0 tb0, .int b1 tb1, .int b2 tb2, .int b3 tb3, .int b4 tb4, .int b5 tb5, .int b6 tb6]) nB }), (L + 1 + 1, oHc), (L + 1, oSc)] : List (Addr × Obj)), p.1 ≠ X := by
    intro X h1 h2 h3 h4 h5 h6 h7
    exact List.forall_mem_cons.mpr ⟨h1, List.forall_mem_cons.mpr ⟨h2, List.forall_mem_cons.mpr ⟨h3, List.forall_mem_cons.mpr ⟨h4, List.forall_mem_cons.mpr ⟨h5, List.forall_mem_cons.mpr ⟨h6, List.forall_mem_cons.mpr ⟨h7, List.forall_mem_nil _⟩⟩⟩⟩⟩⟩⟩
  have wN := N (W, listOf vsW.toArray nW) (by simp only [List.mem_cons, eq_self, true_or, or_true])
  have sN := N (L + 1, oSc) (by simp only [List.mem_cons, eq_self, true_or, or_true])
  have hN := N (L + 1 + 1, oHc) (by simp only [List.mem_cons, eq_self, true_or, or_true])
  have a1 : @Ne Nat W ((L : Nat) + 1) := fun e => by
    have h1 := wN.1
    have h2 := sN.1
    dsimp only at h1 h2
    rw [show (W : Addr) = L + 1 from e, h2] at h1
    injection h1 with h1
    rw [h1] at dSc
    cases dSc
  have a2 : @Ne Nat W ((L : Nat) + 1 + 1) := fun e => by
    have h1 := wN.1
    have h2 := hN.1
    dsimp only at h1 h2
    rw [show (W : Addr) = L + 1 + 1 from e, h2] at h1
    injection h1 with h1
    rw [h1] at dHc
    cases dHc
  have N' : News h₀ L hh ((W, listOf vsW.toArray nW) :: (HD, oD) :: (R, listOf vsR.toArray nR) :: (H, oH) :: (dS, dictOf [⟨hS0, .str (Str.ofString "iset") kS0, .none⟩, ⟨hS1, .str (Str.ofString "regs") kS1, .ref R⟩, ⟨hS2, .str (Str.ofString "xmm") kS2, .ref Xm⟩, ⟨hS3, .str (Str.ofString "flags") kS3, .ref Fl⟩, ⟨hS4, .str (Str.ofString "memory") kS4, .ref Me⟩, ⟨hS5, .str (Str.ofString "rip") kS5, .int rip trip⟩, ⟨hS6, .str (Str.ofString "begin") kS6, .int 0 tbg⟩, ⟨hS7, .str (Str.ofString "segments") kS7, .ref Sg⟩, ⟨hS8, .str (Str.ofString "is_halted") kS8, .bool false⟩] 9) :: (dFl, dictOf [⟨hFl0, .str (Str.ofString "cf") kFl0, .int b0 tf0⟩, ⟨hFl1, .str (Str.ofString "pf") kFl1, .int b1 tf1⟩, ⟨hFl2, .str (Str.ofString "af") kFl2, .int b2 tf2⟩, ⟨hFl3, .str (Str.ofString "zf") kFl3, .int b3 tf3⟩, ⟨hFl4, .str (Str.ofString "sf") kFl4, .int b4 tf4⟩, ⟨hFl5, .str (Str.ofString "of") kFl5, .int b5 tf5⟩, ⟨hFl6, .str (Str.ofString "df") kFl6, .int b6 tf6⟩] 7) :: [(S, instObj 546 dS), (Fl, instObj 174 dFl), (Me, instObj 429 dMe), (dMe, dictOf [⟨hMe0, .str (Str.ofString "held") kMe0, .ref H⟩] 1), (Bt, { cls := .type "tuple", data := .seq (List.toArray [.int b0 tb0, .int b1 tb1, .int b2 tb2, .int b3 tb3, .int b4 tb4, .int b5 tb5, .int b6 tb6]) nB }), (L + 1 + 1, oHc), (L + 1, oSc)]) := by
    refine news_of N ?_
    intro p hp
    simp only [List.mem_cons, List.not_mem_nil, or_false] at hp ⊢
    rcases hp with rfl | rfl | rfl | rfl | rfl | rfl | rfl | rfl | rfl | rfl | rfl | rfl | rfl <;> simp only [eq_self, true_or, or_true]
  exact h7 (s := { s with heap := hh, toks := tk }) (rest := [(S, instObj 546 dS), (Fl, instObj 174 dFl), (Me, instObj 429 dMe), (dMe, dictOf [⟨hMe0, .str (Str.ofString "held") kMe0, .ref H⟩] 1), (Bt, { cls := .type "tuple", data := .seq (List.toArray [.int b0 tb0, .int b1 tb1, .int b2 tb2, .int b3 tb3, .int b4 tb4, .int b5 tb5, .int b6 tb6]) nB }), (L + 1 + 1, oHc), (L + 1, oSc)]) X T B hl hi hn F N' (.head _) (.tail _ (.head _)) (.tail _ (.tail _ (.head _))) (.tail _ (.tail _ (.tail _ (.head _)))) (.tail _ (.tail _ (.tail _ (.tail _ (.head _))))) (.tail _ (.tail _ (.tail _ (.tail _ (.tail _ (.head _)))))) (.tail _ (.tail _ (.tail _ (.tail _ (.tail _ (.tail _ (.head _))))))) dHc dSc (Nat.ne_of_lt (Nat.lt_trans (Nat.lt_trans (Nat.lt_trans (Nat.lt_trans (Nat.lt_trans (Nat.lt_trans (Nat.lt_trans (Nat.lt_trans (Nat.lt_trans (Nat.lt_trans q0 q3) q4) q5) q6) q7) q8) q9) q10) q11) q12)) (Nat.ne_of_lt (Nat.lt_trans (Nat.lt_trans (Nat.lt_trans (Nat.lt_trans (Nat.lt_trans (Nat.lt_trans (Nat.lt_trans (Nat.lt_trans (Nat.lt_trans q0 q3) q4) q5) q6) q7) q8) q9) q10) q11)) (Nat.ne_of_lt (Nat.lt_trans (Nat.lt_trans (Nat.lt_trans (Nat.lt_trans (Nat.lt_trans (Nat.lt_trans (Nat.lt_trans q0 q3) q4) q5) q6) q7) q8) q9)) (Nat.ne_of_lt (Nat.lt_trans q0 q3)) (Nat.ne_of_lt (Nat.lt_trans (Nat.lt_trans (Nat.lt_trans q0 q3) q4) q5)) (Nat.ne_of_gt q12) (Nat.ne_of_gt (Nat.lt_trans (Nat.lt_trans q10 q11) q12)) (Nat.ne_of_gt (Nat.lt_trans (Nat.lt_trans (Nat.lt_trans (Nat.lt_trans (Nat.lt_trans (Nat.lt_trans (Nat.lt_trans (Nat.lt_trans q4 q5) q6) q7) q8) q9) q10) q11) q12)) (Nat.ne_of_gt (Nat.lt_trans (Nat.lt_trans (Nat.lt_trans (Nat.lt_trans (Nat.lt_trans (Nat.lt_trans q6 q7) q8) q9) q10) q11) q12)) (Nat.ne_of_gt (Nat.lt_trans q10 q11)) (Nat.ne_of_gt (Nat.lt_trans (Nat.lt_trans (Nat.lt_trans (Nat.lt_trans (Nat.lt_trans (Nat.lt_trans (Nat.lt_trans q4 q5) q6) q7) q8) q9) q10) q11)) (Nat.ne_of_gt (Nat.lt_trans (Nat.lt_trans (Nat.lt_trans (Nat.lt_trans (Nat.lt_trans q6 q7) q8) q9) q10) q11)) (Nat.ne_of_gt (Nat.lt_trans (Nat.lt_trans (Nat.lt_trans (Nat.lt_trans (Nat.lt_trans q4 q5) q6) q7) q8) q9)) (Nat.ne_of_gt (Nat.lt_trans (Nat.lt_trans (Nat.lt_trans q6 q7) q8) q9)) (Nat.ne_of_lt (Nat.lt_trans q4 q5)) (hr (X := W) (Nat.ne_of_gt (Nat.lt_trans (Nat.lt_trans q0 q3) q4)) (Nat.ne_of_gt (Nat.lt_trans (Nat.lt_trans (Nat.lt_trans (Nat.lt_trans q0 q3) q4) q5) q6)) (Nat.ne_of_gt (Nat.lt_trans (Nat.lt_trans (Nat.lt_trans (Nat.lt_trans (Nat.lt_trans (Nat.lt_trans q0 q3) q4) q5) q6) q7) q8)) (Nat.ne_of_gt (Nat.lt_trans (Nat.lt_trans (Nat.lt_trans (Nat.lt_trans (Nat.lt_trans q0 q3) q4) q5) q6) q7)) (Nat.ne_of_gt q0) (Ne.symm a2) (Ne.symm a1)) (hr (X := HD) (Nat.ne_of_lt (Nat.lt_trans (Nat.lt_trans (Nat.lt_trans (Nat.lt_trans (Nat.lt_trans (Nat.lt_trans (Nat.lt_trans q5 q6) q7) q8) q9) q10) q11) q12)) (Nat.ne_of_lt (Nat.lt_trans (Nat.lt_trans (Nat.lt_trans (Nat.lt_trans (Nat.lt_trans q7 q8) q9) q10) q11) q12)) (Nat.ne_of_lt (Nat.lt_trans (Nat.lt_trans (Nat.lt_trans q9 q10) q11) q12)) (Nat.ne_of_lt (Nat.lt_trans (Nat.lt_trans (Nat.lt_trans (Nat.lt_trans q8 q9) q10) q11) q12)) (Nat.ne_of_lt (Nat.lt_trans (Nat.lt_trans (Nat.lt_trans (Nat.lt_trans (Nat.lt_trans (Nat.lt_trans (Nat.lt_trans (Nat.lt_trans (Nat.lt_trans q3 q4) q5) q6) q7) q8) q9) q10) q11) q12)) (Nat.ne_of_lt (Nat.lt_trans (Nat.lt_trans (Nat.lt_trans (Nat.lt_trans (Nat.lt_trans (Nat.lt_trans (Nat.lt_trans (Nat.lt_trans (Nat.lt_trans (Nat.lt_trans q1 q3) q4) q5) q6) q7) q8) q9) q10) q11) q12)) (Nat.ne_of_lt (Nat.lt_trans (Nat.lt_trans (Nat.lt_trans (Nat.lt_trans (Nat.lt_trans (Nat.lt_trans (Nat.lt_trans (Nat.lt_trans (Nat.lt_trans (Nat.lt_trans q2 q3) q4) q5) q6) q7) q8) q9) q10) q11) q12))) (hr (X := R) (Nat.ne_of_lt (Nat.lt_trans (Nat.lt_trans (Nat.lt_trans (Nat.lt_trans (Nat.lt_trans (Nat.lt_trans q5 q6) q7) q8) q9) q10) q11)) (Nat.ne_of_lt (Nat.lt_trans (Nat.lt_trans (Nat.lt_trans (Nat.lt_trans q7 q8) q9) q10) q11)) (Nat.ne_of_lt (Nat.lt_trans (Nat.lt_trans q9 q10) q11)) (Nat.ne_of_lt (Nat.lt_trans (Nat.lt_trans (Nat.lt_trans q8 q9) q10) q11)) (Nat.ne_of_lt (Nat.lt_trans (Nat.lt_trans (Nat.lt_trans (Nat.lt_trans (Nat.lt_trans (Nat.lt_trans (Nat.lt_trans (Nat.lt_trans q3 q4) q5) q6) q7) q8) q9) q10) q11)) (Nat.ne_of_lt (Nat.lt_trans (Nat.lt_trans (Nat.lt_trans (Nat.lt_trans (Nat.lt_trans (Nat.lt_trans (Nat.lt_trans (Nat.lt_trans (Nat.lt_trans q1 q3) q4) q5) q6) q7) q8) q9) q10) q11)) (Nat.ne_of_lt (Nat.lt_trans (Nat.lt_trans (Nat.lt_trans (Nat.lt_trans (Nat.lt_trans (Nat.lt_trans (Nat.lt_trans (Nat.lt_trans (Nat.lt_trans q2 q3) q4) q5) q6) q7) q8) q9) q10) q11))) (hr (X := H) (Nat.ne_of_lt (Nat.lt_trans (Nat.lt_trans (Nat.lt_trans (Nat.lt_trans q5 q6) q7) q8) q9)) (Nat.ne_of_lt (Nat.lt_trans (Nat.lt_trans q7 q8) q9)) (Nat.ne_of_lt q9) (Nat.ne_of_lt (Nat.lt_trans q8 q9)) (Nat.ne_of_lt (Nat.lt_trans (Nat.lt_trans (Nat.lt_trans (Nat.lt_trans (Nat.lt_trans (Nat.lt_trans q3 q4) q5) q6) q7) q8) q9)) (Nat.ne_of_lt (Nat.lt_trans (Nat.lt_trans (Nat.lt_trans (Nat.lt_trans (Nat.lt_trans (Nat.lt_trans (Nat.lt_trans q1 q3) q4) q5) q6) q7) q8) q9)) (Nat.ne_of_lt (Nat.lt_trans (Nat.lt_trans (Nat.lt_trans (Nat.lt_trans (Nat.lt_trans (Nat.lt_trans (Nat.lt_trans q2 q3) q4) q5) q6) q7) q8) q9))) (hr (X := dS) (Nat.ne_of_gt q4) (Nat.ne_of_gt (Nat.lt_trans (Nat.lt_trans q4 q5) q6)) (Nat.ne_of_gt (Nat.lt_trans (Nat.lt_trans (Nat.lt_trans (Nat.lt_trans q4 q5) q6) q7) q8)) (Nat.ne_of_gt (Nat.lt_trans (Nat.lt_trans (Nat.lt_trans q4 q5) q6) q7)) (Nat.ne_of_lt q3) (Nat.ne_of_lt (Nat.lt_trans q1 q3)) (Nat.ne_of_lt (Nat.lt_trans q2 q3))) (hr (X := dFl) (Nat.ne_of_lt q5) (Nat.ne_of_gt q6) (Nat.ne_of_gt (Nat.lt_trans (Nat.lt_trans q6 q7) q8)) (Nat.ne_of_gt (Nat.lt_trans q6 q7)) (Nat.ne_of_lt (Nat.lt_trans (Nat.lt_trans q3 q4) q5)) (Nat.ne_of_lt (Nat.lt_trans (Nat.lt_trans (Nat.lt_trans q1 q3) q4) q5)) (Nat.ne_of_lt (Nat.lt_trans (Nat.lt_trans (Nat.lt_trans q2 q3) q4) q5))) iW iR D1 D2 hbits h16 hws hc ret

example : True := by
  k_with "call ref" => ((k_here; (with_reducible show wpAny _ _ (PySem.call (Value.ref 174) _ _) _ _ _); k_dflt (refine' call_cls ?k1 ?k2 ?k3 ?k4 ?k5 ?k6 ?_; (case k1 => k_asm); (case k2 => k_asm); (case k3 => k_asm); (case k4 => k_is); (case k5 => k_is); (case k6 => k_is); k_whole; intro x' d' h' F' N' l1 l2; (try k_lt l1); (try k_lt2 l2); (try k_sweep); refine' Mine.code_zip [Str.ofString "self"] ?k1 ?k2 ?k3 ?k4 ?k5 ?kA ?kF ?kK ?k6 ?k7 ?k8 ?k9 ?kB ?_ ?c2 ?c3 ?c4 ?c5; (case kA => exact rfl); (case kF => exact rfl); (case kK => first | exact rfl | assumption); (case k1 => k_asm); (case k2 => k_asm); (case k3 => k_asm); (case k4 => k_asm); (case k5 => k_asm); (case k6 => k_is); (case k7 => k_is); (case k8 => ktr_room); (case k9 => first | exact BindsTo.of_eq rfl); (case c5 => decide); (case kB => exact locs rfl); (case c2 => exact rfl); (case c3 => exact rfl); (case c4 => exact rfl); k_whole; intro g' L' h' tk' FG' F' N' B' X' T'; (dsimp only [Mine.mapL, List.zip, List.zipWith, List.zip_cons_cons, List.zip_nil_left, List.zip_nil_right, List.reverse_cons, List.reverse_nil, List.reverse, List.reverseAux, List.nil_append, List.cons_append] at F'); (try dsimp only); (try k_fold))))
  k_with "call ref" => ((k_here; (with_reducible show wpAny _ _ (PySem.call (Value.ref 429) _ _) _ _ _); k_dflt (refine' call_cls ?k1 ?k2 ?k3 ?k4 ?k5 ?k6 ?_; (case k1 => k_asm); (case k2 => k_asm); (case k3 => k_asm); (case k4 => k_is); (case k5 => k_is); (case k6 => k_is); k_whole; intro x' d' h' F' N' l1 l2; (try k_lt l1); (try k_lt2 l2); (try k_sweep); refine' Mine.code_zip [Str.ofString "self"] ?k1 ?k2 ?k3 ?k4 ?k5 ?kA ?kF ?kK ?k6 ?k7 ?k8 ?k9 ?kB ?_ ?c2 ?c3 ?c4 ?c5; (case kA => exact rfl); (case kF => exact rfl); (case kK => first | exact rfl | assumption); (case k1 => k_asm); (case k2 => k_asm); (case k3 => k_asm); (case k4 => k_asm); (case k5 => k_asm); (case k6 => k_is); (case k7 => k_is); (case k8 => ktr_room); (case k9 => first | exact BindsTo.of_eq rfl); (case c5 => decide); (case kB => exact locs rfl); (case c2 => exact rfl); (case c3 => exact rfl); (case c4 => exact rfl); k_whole; intro g' L' h' tk' FG' F' N' B' X' T'; (dsimp only [Mine.mapL, List.zip, List.zipWith, List.zip_cons_cons, List.zip_nil_left, List.zip_nil_right, List.reverse_cons, List.reverse_nil, List.reverse, List.reverseAux, List.nil_append, List.cons_append] at F'); (try dsimp only); (try k_fold))))
  k_with "call ref" => ((k_here; (with_reducible show wpAny _ _ (PySem.call (Value.ref 546) _ _) _ _ _); k_dflt (refine' call_cls ?k1 ?k2 ?k3 ?k4 ?k5 ?k6 ?_; (case k1 => k_asm); (case k2 => k_asm); (case k3 => k_asm); (case k4 => k_is); (case k5 => k_is); (case k6 => k_is); k_whole; intro x' d' h' F' N' l1 l2; (try k_lt l1); (try k_lt2 l2); (try k_sweep); refine' Mine.code_zip [Str.ofString "self", Str.ofString "iset"] ?k1 ?k2 ?k3 ?k4 ?k5 ?kA ?kF ?kK ?k6 ?k7 ?k8 ?k9 ?kB ?_ ?c2 ?c3 ?c4 ?c5; (case kA => exact rfl); (case kF => exact rfl); (case kK => first | exact rfl | assumption); (case k1 => k_asm); (case k2 => k_asm); (case k3 => k_asm); (case k4 => k_asm); (case k5 => k_asm); (case k6 => k_is); (case k7 => k_is); (case k8 => ktr_room); (case k9 => first | exact BindsTo.of_eq rfl); (case c5 => decide); (case kB => exact locs rfl); (case c2 => exact rfl); (case c3 => exact rfl); (case c4 => exact rfl); k_whole; intro g' L' h' tk' FG' F' N' B' X' T'; (dsimp only [Mine.mapL, List.zip, List.zipWith, List.zip_cons_cons, List.zip_nil_left, List.zip_nil_right, List.reverse_cons, List.reverse_nil, List.reverse, List.reverseAux, List.nil_append, List.cons_append] at F'); (try dsimp only); (try k_fold))))
  k_with "call ref" => ((k_here; (with_reducible show wpAny _ _ (PySem.call (Value.ref 174) _ _) _ _ _); k_dflt (refine' Mine.c_Flags ?B ?F ?X ?T ?k ?N ?d ?_; (case B => k_asm); (case F => k_asm); (case X => k_asm); (case T => k_asm); (case k => first | exact rfl | assumption); (case N => k_asm); (case d => ktr_room)); intro Fl' dFl' hl0 hl1 hl2 hl3 hl4 hl5 hl6 kl0 kl1 kl2 kl3 kl4 kl5 kl6 tf0 tf1 tf2 tf3 tf4 tf5 tf6 h' tk' F' N' l1 l2; (try dsimp only at N'); (try k_lt l1); (try k_lt2 l2); (try k_sweep)))
  k_with "call ref" => ((k_here; (with_reducible show wpAny _ _ (PySem.call (Value.ref 429) _ _) _ _ _); k_dflt (refine' Mine.c_Memory ?B ?F ?X ?T ?k ?N ?d ?_; (case B => k_asm); (case F => k_asm); (case X => k_asm); (case T => k_asm); (case k => first | exact rfl | assumption); (case N => k_asm); (case d => ktr_room)); intro Me' dMe' hm0 km0 H' oM' h' tk' F' N' l1 l2 l3 lo' hd'; (try dsimp only at N'); (try k_lt l1); (try k_lt2 l2); (try k_sweep)))
  k_with "call ref" => ((k_here; (with_reducible show wpAny _ _ (PySem.call (Value.ref 546) _ _) _ _ _); k_dflt (refine' Mine.c_State ?B ?F ?X ?T ?k ?N ?d ?_; (case B => k_asm); (case F => k_asm); (case X => k_asm); (case T => k_asm); (case k => first | exact rfl | assumption); (case N => k_asm); (case d => ktr_room)); intro S' dS' hs0 hs1 hs2 hs3 hs4 hs5 hs6 hs7 hs8 ks0 ks1 ks2 ks3 ks4 ks5 ks6 ks7 ks8 tr' tb' R' Xm' Sg' oSg' Fl' dFl' hl0 hl1 hl2 hl3 hl4 hl5 hl6 kl0 kl1 kl2 kl3 kl4 kl5 kl6 tf0 tf1 tf2 tf3 tf4 tf5 tf6 Me' dMe' hm0 km0 H' oM' h' tk' F' N' l1 l2 lo' hd'; (try dsimp only at N'); (try k_lt l1); (try k_sweep)))
  trivial
section
variable {w : World} {dp un : Nat} {gd : Option (List Code)} {cn : Str} {cs : Scope} {a : Addr} {ccd : Value} {cl : List (Str × Addr)} {outer : List Env} {A₀ : Around} {base h₀ : Heap} {L : Addr} {m : Str → Option Value} {stH : Heap} {stG : Array GenState} {stD : Drawn} {stT : Nat} {stO : OsState} {Q E : Value → Shared → Prop} {p : Program} {loose : List Str} {mean : ExcName → Option Value} {mg mb : Str → Option Value} {news : List (Addr × Obj)}
    (B : Below A₀ base outer h₀) (F : Fr h₀ L stH m) (X : (hd.heap_39 w.params).In h₀) (T : Top p loose mean mg mb h₀) (hk : cs.kind = .function) (N : News h₀ L stH news)
include B F X T hk N
theorem c_Flags (hdp : dp + 6 < recursionLimit)
    (ret : ∀ Fl dFl hFl0 hFl1 hFl2 hFl3 hFl4 hFl5 hFl6 kFl0 kFl1 kFl2 kFl3 kFl4 kFl5 kFl6 tf0 tf1 tf2 tf3 tf4 tf5 tf6 h' tk', Fr h₀ L h' m → News h₀ L h' ((Fl, instObj 174 dFl) :: (dFl, dictOf [⟨hFl0, .str (Str.ofString "cf") kFl0, .int 0 tf0⟩, ⟨hFl1, .str (Str.ofString "pf") kFl1, .int 0 tf1⟩, ⟨hFl2, .str (Str.ofString "af") kFl2, .int 0 tf2⟩, ⟨hFl3, .str (Str.ofString "zf") kFl3, .int 0 tf3⟩, ⟨hFl4, .str (Str.ofString "sf") kFl4, .int 0 tf4⟩, ⟨hFl5, .str (Str.ofString "of") kFl5, .int 0 tf5⟩, ⟨hFl6, .str (Str.ofString "df") kFl6, .int 0 tf6⟩] 7) :: news) → (∀ p ∈ news, p.1 < dFl) → dFl < Fl → Q (.ref Fl) ⟨h', stG, stD, tk', stO⟩) :
    wpAny (model PySem.Challenge.rw_nn0065_01.row.prog w) (ktrTop dp un gd cn cs L a ccd cl outer) (call (.ref 174) []) Q E ⟨stH, stG, stD, stT, stO⟩ := by
  k_steps
  exact ret _ _ _ _ _ _ _ _ _ _ _ _ _ _ _ _ _ _ _ _ _ _ _ _ _ (by k_asm) (by k_asm) (by first | assumption | exact kst_ltOf (by assumption)) (by assumption)
theorem c_Memory (hdp : dp + 6 < recursionLimit)
    (ret : ∀ Me dMe hMe0 kMe0 H oM h' tk', Fr h₀ L h' m → News h₀ L h' ((H, oM) :: (Me, instObj 429 dMe) :: (dMe, dictOf [⟨hMe0, .str (Str.ofString "held") kMe0, .ref H⟩] 1) :: news) → (∀ p ∈ news, p.1 < dMe) → dMe < Me → @LT.lt Nat _ Me H → (H == sysModules) = false → oM.IsDictOf (PySem.intKind PySem.Challenge.rw_nn0065_01.row.prog w) [] → Q (.ref Me) ⟨h', stG, stD, tk', stO⟩) :
    wpAny (model PySem.Challenge.rw_nn0065_01.row.prog w) (ktrTop dp un gd cn cs L a ccd cl outer) (call (.ref 429) []) Q E ⟨stH, stG, stD, stT, stO⟩ := by
  k_steps
  exact ret _ _ _ _ _ _ _ _ (by k_asm) (news_of (by k_asm) (List.forall_mem_cons.mpr ⟨by k_mem, List.forall_mem_cons.mpr ⟨by k_mem, List.forall_mem_cons.mpr ⟨by k_mem, fun p hp => by first | exact .tail _ (.tail _ (.tail _ hp))⟩⟩⟩)) (by first | assumption | exact kst_ltOf (by assumption)) (by assumption) (by omega) (by assumption) (by assumption)
end
section
variable {w : World} {dp un : Nat} {gd : Option (List Code)} {cn : Str} {cs : Scope} {a : Addr} {ccd : Value} {cl : List (Str × Addr)} {outer : List Env} {A₀ : Around} {base h₀ : Heap} {L : Addr} {m : Str → Option Value} {stH : Heap} {stG : Array GenState} {stD : Drawn} {stT : Nat} {stO : OsState} {Q E : Value → Shared → Prop} {p : Program} {loose : List Str} {mean : ExcName → Option Value} {mg mb : Str → Option Value} {news : List (Addr × Obj)}
    (B : Below A₀ base outer h₀) (F : Fr h₀ L stH m) (X : (hd.heap_39 w.params).In h₀) (T : Top p loose mean mg mb h₀) (hk : cs.kind = .function) (N : News h₀ L stH news)
include B F X T hk N
theorem c_State (hdp : dp + 10 < recursionLimit)
    (ret : ∀ S dS hS0 hS1 hS2 hS3 hS4 hS5 hS6 hS7 hS8 kS0 kS1 kS2 kS3 kS4 kS5 kS6 kS7 kS8 trip tbg R0 Xm Sg oSg Fl dFl hFl0 hFl1 hFl2 hFl3 hFl4 hFl5 hFl6 kFl0 kFl1 kFl2 kFl3 kFl4 kFl5 kFl6 tf0 tf1 tf2 tf3 tf4 tf5 tf6 Me dMe hMe0 kMe0 H oM h' tk', Fr h₀ L h' m → News h₀ L h' ((Sg, oSg) :: (H, oM) :: (Me, instObj 429 dMe) :: (dMe, dictOf [⟨hMe0, .str (Str.ofString "held") kMe0, .ref H⟩] 1) :: (Fl, instObj 174 dFl) :: (dFl, dictOf [⟨hFl0, .str (Str.ofString "cf") kFl0, .int 0 tf0⟩, ⟨hFl1, .str (Str.ofString "pf") kFl1, .int 0 tf1⟩, ⟨hFl2, .str (Str.ofString "af") kFl2, .int 0 tf2⟩, ⟨hFl3, .str (Str.ofString "zf") kFl3, .int 0 tf3⟩, ⟨hFl4, .str (Str.ofString "sf") kFl4, .int 0 tf4⟩, ⟨hFl5, .str (Str.ofString "of") kFl5, .int 0 tf5⟩, ⟨hFl6, .str (Str.ofString "df") kFl6, .int 0 tf6⟩] 7) :: (S, instObj 546 dS) :: (dS, dictOf [⟨hS0, .str (Str.ofString "iset") kS0, .none⟩, ⟨hS1, .str (Str.ofString "regs") kS1, .ref R0⟩, ⟨hS2, .str (Str.ofString "xmm") kS2, .ref Xm⟩, ⟨hS3, .str (Str.ofString "flags") kS3, .ref Fl⟩, ⟨hS4, .str (Str.ofString "memory") kS4, .ref Me⟩, ⟨hS5, .str (Str.ofString "rip") kS5, .int 0 trip⟩, ⟨hS6, .str (Str.ofString "begin") kS6, .int 0 tbg⟩, ⟨hS7, .str (Str.ofString "segments") kS7, .ref Sg⟩, ⟨hS8, .str (Str.ofString "is_halted") kS8, .bool false⟩] 9) :: news) → (∀ p ∈ news, p.1 < dS) → @LT.lt Nat _ dS S ∧ @LT.lt Nat _ S dFl ∧ @LT.lt Nat _ dFl Fl ∧ @LT.lt Nat _ Fl dMe ∧ @LT.lt Nat _ dMe Me ∧ @LT.lt Nat _ Me H ∧ @LT.lt Nat _ H Sg → (H == sysModules) = false → oM.IsDictOf (PySem.intKind PySem.Challenge.rw_nn0065_01.row.prog w) [] → Q (.ref S) ⟨h', stG, stD, tk', stO⟩) :
    wpAny (model PySem.Challenge.rw_nn0065_01.row.prog w) (ktrTop dp un gd cn cs L a ccd cl outer) (call (.ref 546) [.none]) Q E ⟨stH, stG, stD, stT, stO⟩ := by
  k_steps
  exact ret _ _ _ _ _ _ _ _ _ _ _ _ _ _ _ _ _ _ _ _ _ _ _ _ _ _ _ _ _ _ _ _ _ _ _ _ _ _ _ _ _ _ _ _ _ _ _ _ _ _ _ _ _ _ _ _ _ (by k_asm) (news_of (by k_asm) (List.forall_mem_cons.mpr ⟨(.head _), (List.forall_mem_cons.mpr ⟨(.tail _ (.head _)), (List.forall_mem_cons.mpr ⟨(.tail _ (.tail _ (.head _))), (List.forall_mem_cons.mpr ⟨(.tail _ (.tail _ (.tail _ (.head _)))), (List.forall_mem_cons.mpr ⟨(.tail _ (.tail _ (.tail _ (.tail _ (.head _))))), (List.forall_mem_cons.mpr ⟨(.tail _ (.tail _ (.tail _ (.tail _ (.tail _ (.head _)))))), (List.forall_mem_cons.mpr ⟨(.tail _ (.tail _ (.tail _ (.tail _ (.tail _ (.tail _ (.tail _ (.tail _ (.tail _ (.tail _ (.head _))))))))))), (List.forall_mem_cons.mpr ⟨(.tail _ (.tail _ (.tail _ (.tail _ (.tail _ (.tail _ (.tail _ (.tail _ (.tail _ (.tail _ (.tail _ (.head _)))))))))))), (fun p hp => (.tail _ (.tail _ (.tail _ (.tail _ (.tail _ (.tail _ (.tail _ (.tail _ (.tail _ (.tail _ (.tail _ (.tail _ hp)))))))))))))⟩)⟩)⟩)⟩)⟩)⟩)⟩)⟩)) (by first | assumption | exact kst_ltOf (by assumption)) ⟨by omega, by omega, by omega, by omega, by omega, by omega, by omega⟩ (by assumption) (by assumption)
end
example : True := by
  k_with "execs cons" => (((with_reducible rename Mine.LawMark => lM9); (with_reducible show wpAny _ _ (PySem.execs (List.cons (PySem.Stmt.For _ _ _ _ _) _) _) _ _ _); refine stop_intro ?_))
  k_with "setItem ref int" => (((with_reducible rename PyProof.Rows.News _ _ _ ((_, PyProof.Rows.LCg.lst _) :: _) => k_lst); refine stop_intro ?_))
  k_with "call type:tuple" => (((with_reducible rename PyProof.Rows.News _ _ _ ((_, PyProof.Rows.LCg.lst _) :: _) => k_lst); refine stop_intro ?_))
  k_with "execs cons" => (((with_reducible rename Mine.CutT => lM9); (first | (with_reducible show wpAny _ _ (PySem.execs (List.cons (PySem.Stmt.Assign (List.cons (PySem.Expr.Name (PySem.Str.ofString "bits") _) _) _ _) _) _) _ _ _) | (with_reducible show wpAny _ _ (PySem.execs (List.cons (PySem.Stmt.Assign (List.cons (PySem.Expr.Name (PySem.Str.ofString "state") _) _) _ _) _) _) _ _ _) | (with_reducible show wpAny _ _ (PySem.execs (List.cons (PySem.Stmt.Assign (List.cons (PySem.Expr.Attribute (PySem.Expr.Name (PySem.Str.ofString "state") _) _ _) _) _ _) _) _) _ _ _)); clear lM9; refine stop_intro ?_))
  k_with "execs cons Assign" => (((with_reducible rename Mine.CutT => lM9); (first | (with_reducible show wpAny _ _ (PySem.execs (List.cons (PySem.Stmt.Assign (List.cons (PySem.Expr.Name (PySem.Str.ofString "bits") _) _) _ _) _) _) _ _ _) | (with_reducible show wpAny _ _ (PySem.execs (List.cons (PySem.Stmt.Assign (List.cons (PySem.Expr.Name (PySem.Str.ofString "state") _) _) _ _) _) _) _ _ _) | (with_reducible show wpAny _ _ (PySem.execs (List.cons (PySem.Stmt.Assign (List.cons (PySem.Expr.Attribute (PySem.Expr.Name (PySem.Str.ofString "state") _) _ _) _) _ _) _) _) _ _ _)); clear lM9; refine stop_intro ?_))
  trivial
structure CutT : Prop where
theorem rest_use {w : World} {fa : Addr} {cd : Value} {L : Addr} {n : Nat} {Q : Flow → Shared → Prop} {s : Shared} {st : Stmt} (hst : lawSt = some st) (h : ∀ st', lawSt = some st' → RestGoal w fa cd L n Q s st') : RestGoal w fa cd L n Q s st := h st hst
theorem drop1 {h₀ h : Heap} {L : Addr} {a b : Addr × Obj} {l : List (Addr × Obj)} (N : News h₀ L h (a :: b :: l)) : News h₀ L h (a :: l) := fun p hp => N p ((List.mem_cons.mp hp).elim (fun e => e ▸ .head _) fun e => .tail _ (.tail _ e))
noncomputable def ws0 (ns : List Int) : List Int := List.map (fun k' => (ns.getD (Int.toNat 1) 0 * (2 * k' + 1) + k' * k').fmod 18446744073709551616) (rangeKs 0 (16 - 0 : Int).toNat)
theorem ws0_len (ns : List Int) : (ws0 ns).length = 16 := by unfold ws0; rw [List.length_map]; rfl
theorem ws0_range (ns : List Int) : ∀ x ∈ ws0 ns, 0 ≤ x ∧ x < 18446744073709551616 := by
  intro x hx
  obtain ⟨k, _, rfl⟩ := List.mem_map.mp hx
  rw [Int.fmod_eq_emod_of_nonneg _ (by decide)]
  exact ⟨Int.emod_nonneg _ (by decide), Int.emod_lt_of_pos _ (by decide)⟩
theorem ints_cons {ys : List Value} {x : Int} {xs : List Int} (h : IntsAre ys (x :: xs)) : ∃ t ys', ys = .int x t :: ys' ∧ IntsAre ys' xs := by
  cases h with
  | cons _ t r => exact ⟨t, _, rfl, r⟩
theorem ints_nil {ys : List Value} (h : IntsAre ys []) : ys = [] := by cases h; rfl
theorem bits_are {ys : List Value} {f : Int → Int} (h : IntsAre ys (List.map f (rangeKs 0 (7 - 0 : Int).toNat))) (hf : ∀ k, 0 ≤ f k ∧ f k ≤ 1) : ∃ b0 b1 b2 b3 b4 b5 b6 t0 t1 t2 t3 t4 t5 t6, ys = [.int b0 t0, .int b1 t1, .int b2 t2, .int b3 t3, .int b4 t4, .int b5 t5, .int b6 t6] ∧ BitsOK b0 b1 b2 b3 b4 b5 b6 := by
  have e : rangeKs 0 (7 - 0 : Int).toNat = [0, 1, 2, 3, 4, 5, 6] := by decide
  rw [e] at h
  simp only [List.map_cons, List.map_nil] at h
  obtain ⟨t0, _, rfl, q1⟩ := ints_cons h
  obtain ⟨t1, _, rfl, q2⟩ := ints_cons q1
  obtain ⟨t2, _, rfl, q3⟩ := ints_cons q2
  obtain ⟨t3, _, rfl, q4⟩ := ints_cons q3
  obtain ⟨t4, _, rfl, q5⟩ := ints_cons q4
  obtain ⟨t5, _, rfl, q6⟩ := ints_cons q5
  obtain ⟨t6, _, rfl, q7⟩ := ints_cons q6
  rw [ints_nil q7]
  exact ⟨_, _, _, _, _, _, _, t0, t1, t2, t3, t4, t5, t6, rfl, ⟨(hf 0).1, (hf 0).2, (hf 1).1, (hf 1).2, (hf 2).1, (hf 2).2, (hf 3).1, (hf 3).2, (hf 4).1, (hf 4).2, (hf 5).1, (hf 5).2, (hf 6).1, (hf 6).2⟩⟩
theorem fmod_two (x : Int) : 0 ≤ x.fmod 2 ∧ x.fmod 2 ≤ 1 := by rw [Int.fmod_eq_emod_of_nonneg _ (by decide)]; omega
theorem ws1_range (ns : List Int) : ∀ x ∈ (ws0 ns).set (Int.toNat 4) ((ns.getD (Int.toNat 0) 0).fmod 18446744073709551616), 0 ≤ x ∧ x < 18446744073709551616 := by
  intro x hx
  rcases List.mem_or_eq_of_mem_set hx with h | rfl
  · exact ws0_range ns x h
  · rw [Int.fmod_eq_emod_of_nonneg _ (by decide)]
    exact ⟨Int.emod_nonneg _ (by decide), Int.emod_lt_of_pos _ (by decide)⟩
noncomputable def StageC : Prop := ∀ {w : World} {h₀ : Heap} {s : Shared} {L : Addr} {p : Program} {loose : List Str} {mean : ExcName → Option Value} {mg mb : Str → Option Value} {Q : Flow → Shared → Prop} {l : Addr} {vs : List Value} {ns : List Int} {fa : Addr} {cd : Value} {W : Addr} {vsW : List Value} {nW : Nat} {ws : List Int} {oS oH : Obj} {Bt : Addr} {nB : Nat} {b0 b1 b2 b3 b4 b5 b6 : Int} {tb0 tb1 tb2 tb3 tb4 tb5 tb6 : Tok} {S R0 Xm Fl Me Sg dS dFl dMe H : Addr} {trip tbg : Tok} {hS0 hS1 hS2 hS3 hS4 hS5 hS6 hS7 hS8 : Int} {kS0 kS1 kS2 kS3 kS4 kS5 kS6 kS7 kS8 : Tok} {hFl0 hFl1 hFl2 hFl3 hFl4 hFl5 hFl6 : Int} {kFl0 kFl1 kFl2 kFl3 kFl4 kFl5 kFl6 : Tok} {hMe0 : Int} {kMe0 : Tok} {tf0 tf1 tf2 tf3 tf4 tf5 tf6 : Tok} {oSg oM : Obj} (X : (hd.heap_39 w.params).In h₀) (T : Top p loose mean mg mb h₀) (B : Below callerA h₀ [] h₀) (hl : h₀.IsList l vs.toArray) (hi : IntsAre vs ns) (hn : ns.length < 64) (F : Fr h₀ L s.heap (fun y => if y = Str.ofString "state" then some (.ref S) else if y = Str.ofString "bits" then some (.ref Bt) else if y = Str.ofString "worths" then some (.ref W) else none)) (N : News h₀ L s.heap ((Sg, oSg) :: (H, oM) :: (Me, instObj 429 dMe) :: (dMe, dictOf [⟨hMe0, .str (Str.ofString "held") kMe0, .ref H⟩] 1) :: (Fl, instObj 174 dFl) :: (dFl, dictOf [⟨hFl0, .str (Str.ofString "cf") kFl0, .int 0 tf0⟩, ⟨hFl1, .str (Str.ofString "pf") kFl1, .int 0 tf1⟩, ⟨hFl2, .str (Str.ofString "af") kFl2, .int 0 tf2⟩, ⟨hFl3, .str (Str.ofString "zf") kFl3, .int 0 tf3⟩, ⟨hFl4, .str (Str.ofString "sf") kFl4, .int 0 tf4⟩, ⟨hFl5, .str (Str.ofString "of") kFl5, .int 0 tf5⟩, ⟨hFl6, .str (Str.ofString "df") kFl6, .int 0 tf6⟩] 7) :: (S, instObj 546 dS) :: (dS, dictOf [⟨hS0, .str (Str.ofString "iset") kS0, .none⟩, ⟨hS1, .str (Str.ofString "regs") kS1, .ref R0⟩, ⟨hS2, .str (Str.ofString "xmm") kS2, .ref Xm⟩, ⟨hS3, .str (Str.ofString "flags") kS3, .ref Fl⟩, ⟨hS4, .str (Str.ofString "memory") kS4, .ref Me⟩, ⟨hS5, .str (Str.ofString "rip") kS5, .int 0 trip⟩, ⟨hS6, .str (Str.ofString "begin") kS6, .int 0 tbg⟩, ⟨hS7, .str (Str.ofString "segments") kS7, .ref Sg⟩, ⟨hS8, .str (Str.ofString "is_halted") kS8, .bool false⟩] 9) :: (Bt, { cls := .type "tuple", data := .seq (List.toArray [.int b0 tb0, .int b1 tb1, .int b2 tb2, .int b3 tb3, .int b4 tb4, .int b5 tb5, .int b6 tb6]) nB }) :: (W, listOf vsW.toArray nW) :: (L + 1 + 1, oH) :: (L + 1, oS) :: [])) (iW : IntsAre vsW ws) (h16 : ws.length = 16) (hws : ∀ x ∈ ws, 0 ≤ x ∧ x < 18446744073709551616) (dSc : oS.data = .cell (some (.ref l))) (dHc : oH.data = .cell none) (hbits : BitsOK b0 b1 b2 b3 b4 b5 b6) (q0 : @LT.lt Nat _ W Bt) (q1 : @LT.lt Nat _ ((L : Nat) + 1 + 1) Bt) (q2 : @LT.lt Nat _ ((L : Nat) + 1) Bt) (q3 : @LT.lt Nat _ Bt dS) (q4 : @LT.lt Nat _ dS S) (q5 : @LT.lt Nat _ S dFl) (q6 : @LT.lt Nat _ dFl Fl) (q7 : @LT.lt Nat _ Fl dMe) (q8 : @LT.lt Nat _ dMe Me) (q9 : @LT.lt Nat _ Me H) (q10 : @LT.lt Nat _ H Sg) (lo : (H == sysModules) = false) (hd : oM.IsDictOf (PySem.intKind PySem.Challenge.rw_nn0065_01.row.prog w) []) (ret : ∀ h' tk' m', Fr h₀ L h' m' → Q (.ret (.bool true)) { s with heap := h', toks := tk' }), ∀ st, lawSt = some st → RestGoal w fa cd L 4 Q s st
noncomputable def StageB : Prop := ∀ {w : World} {h₀ : Heap} {s : Shared} {L : Addr} {p : Program} {loose : List Str} {mean : ExcName → Option Value} {mg mb : Str → Option Value} {Q : Flow → Shared → Prop} {l : Addr} {vs : List Value} {ns : List Int} {fa : Addr} {cd : Value} {W : Addr} {vsW : List Value} {nW : Nat} {ws : List Int} {oS oH : Obj} {Bt : Addr} {nB : Nat} {b0 b1 b2 b3 b4 b5 b6 : Int} {tb0 tb1 tb2 tb3 tb4 tb5 tb6 : Tok} (X : (hd.heap_39 w.params).In h₀) (T : Top p loose mean mg mb h₀) (B : Below callerA h₀ [] h₀) (hl : h₀.IsList l vs.toArray) (hi : IntsAre vs ns) (hn : ns.length < 64) (F : Fr h₀ L s.heap (fun y => if y = Str.ofString "bits" then some (.ref Bt) else if y = Str.ofString "worths" then some (.ref W) else none)) (N : News h₀ L s.heap ((Bt, { cls := .type "tuple", data := .seq (List.toArray [.int b0 tb0, .int b1 tb1, .int b2 tb2, .int b3 tb3, .int b4 tb4, .int b5 tb5, .int b6 tb6]) nB }) :: (W, listOf vsW.toArray nW) :: (L + 1 + 1, oH) :: (L + 1, oS) :: [])) (iW : IntsAre vsW ws) (h16 : ws.length = 16) (hws : ∀ x ∈ ws, 0 ≤ x ∧ x < 18446744073709551616) (dSc : oS.data = .cell (some (.ref l))) (dHc : oH.data = .cell none) (hbits : BitsOK b0 b1 b2 b3 b4 b5 b6) (q0 : @LT.lt Nat _ W Bt) (q1 : @LT.lt Nat _ ((L : Nat) + 1 + 1) Bt) (q2 : @LT.lt Nat _ ((L : Nat) + 1) Bt) (ret : ∀ h' tk' m', Fr h₀ L h' m' → Q (.ret (.bool true)) { s with heap := h', toks := tk' }), ∀ st, lawSt = some st → RestGoal w fa cd L 3 Q s st
noncomputable def StageA : Prop := ∀ {w : World} {h₀ : Heap} {s : Shared} {L : Addr} {p : Program} {loose : List Str} {mean : ExcName → Option Value} {mg mb : Str → Option Value} {Q : Flow → Shared → Prop} {l : Addr} {vs : List Value} {ns : List Int} {fa : Addr} {cd : Value} {W : Addr} {vsW : List Value} {nW : Nat} {ws : List Int} {oS oH : Obj} (X : (hd.heap_39 w.params).In h₀) (T : Top p loose mean mg mb h₀) (B : Below callerA h₀ [] h₀) (hl : h₀.IsList l vs.toArray) (hi : IntsAre vs ns) (hn : ns.length < 64) (F : Fr h₀ L s.heap (fun y => if y = Str.ofString "worths" then some (.ref W) else none)) (N : News h₀ L s.heap ((W, listOf vsW.toArray nW) :: (L + 1 + 1, oH) :: (L + 1, oS) :: [])) (iW : IntsAre vsW ws) (h16 : ws.length = 16) (hws : ∀ x ∈ ws, 0 ≤ x ∧ x < 18446744073709551616) (dSc : oS.data = .cell (some (.ref l))) (dHc : oH.data = .cell none) (ret : ∀ h' tk' m', Fr h₀ L h' m' → Q (.ret (.bool true)) { s with heap := h', toks := tk' }), ∀ st, lawSt = some st → RestGoal w fa cd L 2 Q s st
theorem law_thm (hA : StageA) {w : World} {h₀ : Heap} {s : Shared} {L : Addr} {p : Program} {loose : List Str} {mean : ExcName → Option Value} {mg mb : Str → Option Value} {Q : Flow → Shared → Prop} {l : Addr} {vs : List Value} {ns : List Int} {fa : Addr} {cd : Value} {oS oH : Obj} (X : (hd.heap_39 w.params).In h₀) (T : Top p loose mean mg mb h₀) (B : Below callerA h₀ [] h₀) (F : Fr h₀ L s.heap (fun _ => none)) (N : News h₀ L s.heap [(L + 2, oH), (L + 1, oS)]) (dSc : oS.data = .cell (some (.ref l))) (dHc : oH.data = .cell none)
    (hl : h₀.IsList l vs.toArray) (hi : IntsAre vs ns) (hn : ns.length < 64) (ret : ∀ h' tk' m', Fr h₀ L h' m' → Q (.ret (.bool true)) { s with heap := h', toks := tk' }) : ∀ st, lawSt = some st → LawGoal w fa cd L Q s st := by
  refine' law_open ?k ?_
  (case k => exact rfl)
  intro hst
  unfold LawGoal
  dsimp only
  have lM := LoopMark.mk
  k_steps
  refine stop_out ?_
  (rename IntsAre _ (List.map _ _) => I9)
  (rename News h₀ L _ _ => N9)
  replace I9 : IntsAre _ (ws0 ns) := I9
  have hy9 := I9.length
  rw [ws0_len] at hy9
  have N8 : ∃ n, News h₀ L _ [(_, listOf (List.toArray _) n), _, _] := ⟨_, N9⟩
  clear N9
  obtain ⟨n9, N9⟩ := N8
  have h16 := ws0_len ns
  have lC := CutT.mk
  k_steps
  refine stop_out ?_
  (rename Fr h₀ L _ _ => F9)
  (rename News h₀ L _ _ => N9)
  (rename IntsAre _ (List.set _ _ _) => J9)
  refine rest_use (w := w) (fa := fa) (cd := cd) (L := L) (n := 2) hst ?_
  exact hA X T B hl hi hn F9 N9 J9 (by rw [List.length_set]; exact ws0_len ns) (ws1_range ns) dSc dHc ret
theorem stageA_ (hB : StageB) {w : World} {h₀ : Heap} {s : Shared} {L : Addr} {p : Program} {loose : List Str} {mean : ExcName → Option Value} {mg mb : Str → Option Value} {Q : Flow → Shared → Prop} {l : Addr} {vs : List Value} {ns : List Int} {fa : Addr} {cd : Value} {W : Addr} {vsW : List Value} {nW : Nat} {ws : List Int} {oS oH : Obj} (X : (hd.heap_39 w.params).In h₀) (T : Top p loose mean mg mb h₀) (B : Below callerA h₀ [] h₀) (hl : h₀.IsList l vs.toArray) (hi : IntsAre vs ns) (hn : ns.length < 64) (F : Fr h₀ L s.heap (fun y => if y = Str.ofString "worths" then some (.ref W) else none)) (N : News h₀ L s.heap ((W, listOf vsW.toArray nW) :: (L + 1 + 1, oH) :: (L + 1, oS) :: [])) (iW : IntsAre vsW ws) (h16 : ws.length = 16) (hws : ∀ x ∈ ws, 0 ≤ x ∧ x < 18446744073709551616) (dSc : oS.data = .cell (some (.ref l))) (dHc : oH.data = .cell none) (ret : ∀ h' tk' m', Fr h₀ L h' m' → Q (.ret (.bool true)) { s with heap := h', toks := tk' }) : ∀ st, lawSt = some st → RestGoal w fa cd L 2 Q s st := by
  refine' law_open ?k ?_
  (case k => exact rfl)
  intro hst
  show wpAny _ _ (execs (List.cons _ _) _) _ _ _
  have lM := LoopMark.mk
  k_steps
  refine stop_out ?_
  (rename IntsAre _ (List.map _ (rangeKs 0 (7 - 0 : Int).toNat)) => I9)
  (rename News h₀ L _ _ => N9)
  obtain ⟨b0, b1, b2, b3, b4, b5, b6, t0, t1, t2, t3, t4, t5, t6, e7, hbits⟩ := bits_are I9 (fun k => fmod_two _)
  subst e7
  have N8 : ∃ n, News h₀ L _ [(_, listOf (List.toArray _) n), _, _, _] := ⟨_, N9⟩
  clear N9
  obtain ⟨n8, N9⟩ := N8
  have lC := CutT.mk
  k_steps
  refine stop_out ?_
  (rename Fr h₀ L _ _ => F9)
  (rename News h₀ L _ _ => N9)
  (rename _ < _ ∧ _ < _ ∧ _ < _ ∧ _ < _ => l9)
  have N8 : ∃ (q : Addr) (n : Nat), News h₀ L _ ((q, { cls := .type "tuple", data := .seq (List.toArray [.int b0 t0, .int b1 t1, .int b2 t2, .int b3 t3, .int b4 t4, .int b5 t5, .int b6 t6]) n }) :: _ :: (W, listOf vsW.toArray nW) :: (L + 1 + 1, oH) :: (L + 1, oS) :: []) ∧ Fr h₀ L _ (fun y => if y = Str.ofString "bits" then some (.ref q) else if y = Str.ofString "worths" then some (.ref W) else none) ∧ @LT.lt Nat _ W q ∧ @LT.lt Nat _ ((L : Nat) + 1 + 1) q ∧ @LT.lt Nat _ ((L : Nat) + 1) q := ⟨_, _, N9, F9, l9.2⟩
  clear F9 N9
  obtain ⟨Bt, nB, N9, F9, q0, q1, q2⟩ := N8
  have N7 := drop1 N9
  refine rest_use (w := w) (fa := fa) (cd := cd) (L := L) (n := 3) hst ?_
  exact hB X T B hl hi hn F9 N7 iW h16 hws dSc dHc hbits q0 q1 q2 ret
theorem stageA (hB : StageB) : StageA := stageA_ hB
theorem stageB_ (hC : StageC) {w : World} {h₀ : Heap} {s : Shared} {L : Addr} {p : Program} {loose : List Str} {mean : ExcName → Option Value} {mg mb : Str → Option Value} {Q : Flow → Shared → Prop} {l : Addr} {vs : List Value} {ns : List Int} {fa : Addr} {cd : Value} {W : Addr} {vsW : List Value} {nW : Nat} {ws : List Int} {oS oH : Obj} {Bt : Addr} {nB : Nat} {b0 b1 b2 b3 b4 b5 b6 : Int} {tb0 tb1 tb2 tb3 tb4 tb5 tb6 : Tok} (X : (hd.heap_39 w.params).In h₀) (T : Top p loose mean mg mb h₀) (B : Below callerA h₀ [] h₀) (hl : h₀.IsList l vs.toArray) (hi : IntsAre vs ns) (hn : ns.length < 64) (F : Fr h₀ L s.heap (fun y => if y = Str.ofString "bits" then some (.ref Bt) else if y = Str.ofString "worths" then some (.ref W) else none)) (N : News h₀ L s.heap ((Bt, { cls := .type "tuple", data := .seq (List.toArray [.int b0 tb0, .int b1 tb1, .int b2 tb2, .int b3 tb3, .int b4 tb4, .int b5 tb5, .int b6 tb6]) nB }) :: (W, listOf vsW.toArray nW) :: (L + 1 + 1, oH) :: (L + 1, oS) :: [])) (iW : IntsAre vsW ws) (h16 : ws.length = 16) (hws : ∀ x ∈ ws, 0 ≤ x ∧ x < 18446744073709551616) (dSc : oS.data = .cell (some (.ref l))) (dHc : oH.data = .cell none) (hbits : BitsOK b0 b1 b2 b3 b4 b5 b6) (q0 : @LT.lt Nat _ W Bt) (q1 : @LT.lt Nat _ ((L : Nat) + 1 + 1) Bt) (q2 : @LT.lt Nat _ ((L : Nat) + 1) Bt) (ret : ∀ h' tk' m', Fr h₀ L h' m' → Q (.ret (.bool true)) { s with heap := h', toks := tk' }) : ∀ st, lawSt = some st → RestGoal w fa cd L 3 Q s st := by
  refine' law_open ?k ?_
  (case k => exact rfl)
  intro hst
  show wpAny _ _ (execs (List.cons _ _) _) _ _ _
  refine wpAny_execs_cons ?_
  (try dsimp only)
  have lC := CutT.mk
  k_steps
  refine stop_out ?_
  (rename Fr h₀ L _ _ => F9)
  (rename News h₀ L _ _ => N9)
  refine rest_use (w := w) (fa := fa) (cd := cd) (L := L) (n := 4) hst ?_
  exact hC X T B hl hi hn F9 N9 iW h16 hws dSc dHc hbits q0 q1 q2 (by omega) (by omega) (by omega) (by omega) (by omega) (by omega) (by omega) (by omega) (by assumption) (by assumption) ret
theorem stageB (hC : StageC) : StageB := stageB_ hC
theorem stageC_ (h7 : Stage7) {w : World} {h₀ : Heap} {s : Shared} {L : Addr} {p : Program} {loose : List Str} {mean : ExcName → Option Value} {mg mb : Str → Option Value} {Q : Flow → Shared → Prop} {l : Addr} {vs : List Value} {ns : List Int} {fa : Addr} {cd : Value} {W : Addr} {vsW : List Value} {nW : Nat} {ws : List Int} {oS oH : Obj} {Bt : Addr} {nB : Nat} {b0 b1 b2 b3 b4 b5 b6 : Int} {tb0 tb1 tb2 tb3 tb4 tb5 tb6 : Tok} {S R0 Xm Fl Me Sg dS dFl dMe H : Addr} {trip tbg : Tok} {hS0 hS1 hS2 hS3 hS4 hS5 hS6 hS7 hS8 : Int} {kS0 kS1 kS2 kS3 kS4 kS5 kS6 kS7 kS8 : Tok} {hFl0 hFl1 hFl2 hFl3 hFl4 hFl5 hFl6 : Int} {kFl0 kFl1 kFl2 kFl3 kFl4 kFl5 kFl6 : Tok} {hMe0 : Int} {kMe0 : Tok} {tf0 tf1 tf2 tf3 tf4 tf5 tf6 : Tok} {oSg oM : Obj} (X : (hd.heap_39 w.params).In h₀) (T : Top p loose mean mg mb h₀) (B : Below callerA h₀ [] h₀) (hl : h₀.IsList l vs.toArray) (hi : IntsAre vs ns) (hn : ns.length < 64) (F : Fr h₀ L s.heap (fun y => if y = Str.ofString "state" then some (.ref S) else if y = Str.ofString "bits" then some (.ref Bt) else if y = Str.ofString "worths" then some (.ref W) else none)) (N : News h₀ L s.heap ((Sg, oSg) :: (H, oM) :: (Me, instObj 429 dMe) :: (dMe, dictOf [⟨hMe0, .str (Str.ofString "held") kMe0, .ref H⟩] 1) :: (Fl, instObj 174 dFl) :: (dFl, dictOf [⟨hFl0, .str (Str.ofString "cf") kFl0, .int 0 tf0⟩, ⟨hFl1, .str (Str.ofString "pf") kFl1, .int 0 tf1⟩, ⟨hFl2, .str (Str.ofString "af") kFl2, .int 0 tf2⟩, ⟨hFl3, .str (Str.ofString "zf") kFl3, .int 0 tf3⟩, ⟨hFl4, .str (Str.ofString "sf") kFl4, .int 0 tf4⟩, ⟨hFl5, .str (Str.ofString "of") kFl5, .int 0 tf5⟩, ⟨hFl6, .str (Str.ofString "df") kFl6, .int 0 tf6⟩] 7) :: (S, instObj 546 dS) :: (dS, dictOf [⟨hS0, .str (Str.ofString "iset") kS0, .none⟩, ⟨hS1, .str (Str.ofString "regs") kS1, .ref R0⟩, ⟨hS2, .str (Str.ofString "xmm") kS2, .ref Xm⟩, ⟨hS3, .str (Str.ofString "flags") kS3, .ref Fl⟩, ⟨hS4, .str (Str.ofString "memory") kS4, .ref Me⟩, ⟨hS5, .str (Str.ofString "rip") kS5, .int 0 trip⟩, ⟨hS6, .str (Str.ofString "begin") kS6, .int 0 tbg⟩, ⟨hS7, .str (Str.ofString "segments") kS7, .ref Sg⟩, ⟨hS8, .str (Str.ofString "is_halted") kS8, .bool false⟩] 9) :: (Bt, { cls := .type "tuple", data := .seq (List.toArray [.int b0 tb0, .int b1 tb1, .int b2 tb2, .int b3 tb3, .int b4 tb4, .int b5 tb5, .int b6 tb6]) nB }) :: (W, listOf vsW.toArray nW) :: (L + 1 + 1, oH) :: (L + 1, oS) :: [])) (iW : IntsAre vsW ws) (h16 : ws.length = 16) (hws : ∀ x ∈ ws, 0 ≤ x ∧ x < 18446744073709551616) (dSc : oS.data = .cell (some (.ref l))) (dHc : oH.data = .cell none) (hbits : BitsOK b0 b1 b2 b3 b4 b5 b6) (q0 : @LT.lt Nat _ W Bt) (q1 : @LT.lt Nat _ ((L : Nat) + 1 + 1) Bt) (q2 : @LT.lt Nat _ ((L : Nat) + 1) Bt) (q3 : @LT.lt Nat _ Bt dS) (q4 : @LT.lt Nat _ dS S) (q5 : @LT.lt Nat _ S dFl) (q6 : @LT.lt Nat _ dFl Fl) (q7 : @LT.lt Nat _ Fl dMe) (q8 : @LT.lt Nat _ dMe Me) (q9 : @LT.lt Nat _ Me H) (q10 : @LT.lt Nat _ H Sg) (lo : (H == sysModules) = false) (hd : oM.IsDictOf (PySem.intKind PySem.Challenge.rw_nn0065_01.row.prog w) []) (ret : ∀ h' tk' m', Fr h₀ L h' m' → Q (.ret (.bool true)) { s with heap := h', toks := tk' }) : ∀ st, lawSt = some st → RestGoal w fa cd L 4 Q s st := by
  refine' law_open ?k ?_
  (case k => exact rfl)
  intro hst
  show wpAny _ _ (execs (List.cons _ _) _) _ _ _
  have wN := N _ (.tail _ (.tail _ (.tail _ (.tail _ (.tail _ (.tail _ (.tail _ (.tail _ (.tail _ (.head _))))))))))
  have hN := N _ (.tail _ (.tail _ (.tail _ (.tail _ (.tail _ (.tail _ (.tail _ (.tail _ (.tail _ (.tail _ (.head _)))))))))))
  have sN := N _ (.tail _ (.tail _ (.tail _ (.tail _ (.tail _ (.tail _ (.tail _ (.tail _ (.tail _ (.tail _ (.tail _ (.head _))))))))))))
  have a1 : @Ne Nat W ((L : Nat) + 1) := fun e => by
    have h1 := wN.1
    have h2 := sN.1
    dsimp only at h1 h2
    rw [show (W : Addr) = L + 1 from e, h2] at h1
    injection h1 with h1
    rw [h1] at dSc
    cases dSc
  have a2 : @Ne Nat W ((L : Nat) + 1 + 1) := fun e => by
    have h1 := wN.1
    have h2 := hN.1
    dsimp only at h1 h2
    rw [show (W : Addr) = L + 1 + 1 from e, h2] at h1
    injection h1 with h1
    rw [h1] at dHc
    cases dHc
  clear wN hN sN
  have lW := LawMark.mk
  k_steps
  refine stop_out ?_
  (rename Fr h₀ L _ _ => F9)
  (rename News h₀ L _ _ => N9)
  refine to7 (s := s) (c := []) h7 X T B hl hi hn F9 N9 (by omega) (by omega) (by omega) (by omega) (by omega) (by omega) (by omega) (by omega) (by omega) (by omega) (by omega) (by omega) (by omega) ?dH dSc (by assumption) (by assumption) ⟨by assumption, [], by assumption, by assumption, fun _ h => nomatch h⟩ ⟨by assumption, [], by assumption, by assumption, fun _ h => nomatch h⟩ hbits h16 hws (Nat.le_refl 0) ret _ hst
  case dH => assumption
theorem stageC (h7 : Stage7) : StageC := stageC_ h7

example : True := by
  k_with "execs cons" => (((with_reducible rename Mine.QuickMark => lM8); (with_reducible refine wpAny_execs_cons ?_); try dsimp only))
  trivial
structure QuickMark : Prop where
theorem look_map (k v d : Int) : ∀ c : List (Int × Int), c.any (fun p => decide (p.1 = k)) = true → kdfLook (c.map (fun p => if decide (p.1 = k) then (p.1, v) else p)) k d = v
  | [], h => by simp at h
  | p :: c, h => by
    unfold kdfLook
    rw [List.map_cons, List.find?_cons]
    by_cases e : p.1 = k
    · simp [e]
    · have h' : c.any (fun p => decide (p.1 = k)) = true := by simpa [e] using h
      have ih := look_map k v d c h'
      unfold kdfLook at ih
      simp only [e, decide_false, if_neg, Bool.false_eq_true, not_false_eq_true]
      exact ih
theorem look_app (k v d : Int) : ∀ c : List (Int × Int), c.any (fun p => decide (p.1 = k)) = false → kdfLook (c ++ [(k, v)]) k d = v
  | [], _ => by simp [kdfLook]
  | p :: c, h => by
    have e : ¬ p.1 = k := by intro e; simp [e] at h
    have h' : c.any (fun p => decide (p.1 = k)) = false := by simpa [e] using h
    have ih := look_app k v d c h'
    unfold kdfLook at ih ⊢
    rw [List.cons_append, List.find?_cons]
    simp only [e, decide_false]
    exact ih
theorem look_put (c : List (Int × Int)) (k v d : Int) : kdfLook (kdfPut c k v) k d = v := by
  unfold kdfPut
  split
  · rename_i h; exact look_map k v d c h
  · rename_i h; exact look_app k v d c (Bool.eq_false_iff.mpr h)
theorem wr1_put {c : List (Int × Int)} {v e : Int} (h0 : 0 ≤ e) (h1 : e < 256) : wrM c v (kdfLook (kdfPut c (v.fmod 18446744073709551616) e) (v.fmod 18446744073709551616) 0) (Int.toNat 1) = kdfPut c (v.fmod 18446744073709551616) e := by
  rw [look_put]
  show kdfPut c ((v + ((0 : Nat) : Int)) % 18446744073709551616) (e / 256 ^ 0 % 256) = _
  rw [fmod64, Int.natCast_zero, Int.add_zero, Int.pow_zero, Int.ediv_one, Int.emod_eq_of_lt h0 h1]
noncomputable def Stage8 : Prop := ∀ {w : World} {h₀ : Heap} {s : Shared} {L : Addr} {p : Program} {loose : List Str} {mean : ExcName → Option Value} {mg mb : Str → Option Value} {Q : Flow → Shared → Prop} {l : Addr} {vs : List Value} {ns : List Int} {fa : Addr} {cd : Value} {W HD Bt : Addr} {vsW : List Value} {nW nB : Nat} {oD : Obj} {tb0 tb1 tb2 tb3 tb4 tb5 tb6 : Tok} {S R Xm Fl Me Sg : Addr} {rip : Int} {trip tbg : Tok} {dS : Addr} {hS0 hS1 hS2 hS3 hS4 hS5 hS6 hS7 hS8 : Int} {kS0 kS1 kS2 kS3 kS4 kS5 kS6 kS7 kS8 : Tok} {vsR : List Value} {ws : List Int} {nR : Nat} {H : Addr} {dMe : Addr} {hMe0 : Int} {kMe0 : Tok} {oH : Obj} {c : List (Int × Int)} {b0 b1 b2 b3 b4 b5 b6 : Int} {tf0 tf1 tf2 tf3 tf4 tf5 tf6 : Tok} {dFl : Addr} {hFl0 hFl1 hFl2 hFl3 hFl4 hFl5 hFl6 : Int} {kFl0 kFl1 kFl2 kFl3 kFl4 kFl5 kFl6 : Tok} {rest : List (Addr × Obj)} {oHc oSc : Obj} {uS : Option Value} (X : (hd.heap_39 w.params).In h₀) (T : Top p loose mean mg mb h₀) (B : Below callerA h₀ [] h₀) (hl : h₀.IsList l vs.toArray) (hi : IntsAre vs ns) (hn : ns.length < 64)
  (F : Fr h₀ L s.heap (fun y => if y = Str.ofString "spot" then uS else if y = Str.ofString "state" then some (.ref S) else if y = Str.ofString "bits" then some (.ref Bt) else if y = Str.ofString "worths" then some (.ref W) else none)) (N : News h₀ L s.heap ((W, listOf vsW.toArray nW) :: (HD, oD) :: (R, listOf vsR.toArray nR) :: (H, oH) :: (dS, dictOf [⟨hS0, .str (Str.ofString "iset") kS0, .none⟩, ⟨hS1, .str (Str.ofString "regs") kS1, .ref R⟩, ⟨hS2, .str (Str.ofString "xmm") kS2, .ref Xm⟩, ⟨hS3, .str (Str.ofString "flags") kS3, .ref Fl⟩, ⟨hS4, .str (Str.ofString "memory") kS4, .ref Me⟩, ⟨hS5, .str (Str.ofString "rip") kS5, .int rip trip⟩, ⟨hS6, .str (Str.ofString "begin") kS6, .int 0 tbg⟩, ⟨hS7, .str (Str.ofString "segments") kS7, .ref Sg⟩, ⟨hS8, .str (Str.ofString "is_halted") kS8, .bool false⟩] 9) :: (dFl, dictOf [⟨hFl0, .str (Str.ofString "cf") kFl0, .int b0 tf0⟩, ⟨hFl1, .str (Str.ofString "pf") kFl1, .int b1 tf1⟩, ⟨hFl2, .str (Str.ofString "af") kFl2, .int b2 tf2⟩, ⟨hFl3, .str (Str.ofString "zf") kFl3, .int b3 tf3⟩, ⟨hFl4, .str (Str.ofString "sf") kFl4, .int b4 tf4⟩, ⟨hFl5, .str (Str.ofString "of") kFl5, .int b5 tf5⟩, ⟨hFl6, .str (Str.ofString "df") kFl6, .int b6 tf6⟩] 7) :: rest)) (mS : (S, instObj 546 dS) ∈ rest) (mF : (Fl, instObj 174 dFl) ∈ rest) (mM : (Me, instObj 429 dMe) ∈ rest) (mMd : (dMe, dictOf [⟨hMe0, .str (Str.ofString "held") kMe0, .ref H⟩] 1) ∈ rest) (mB : (Bt, { cls := .type "tuple", data := .seq (List.toArray [.int b0 tb0, .int b1 tb1, .int b2 tb2, .int b3 tb3, .int b4 tb4, .int b5 tb5, .int b6 tb6]) nB }) ∈ rest) (mHc : (L + 2, oHc) ∈ rest) (mSc : (L + 1, oSc) ∈ rest) (dHc : oHc.data = .cell (some (.ref HD))) (dSc : oSc.data = .cell (some (.ref l))) (nWHD : @Ne Nat W HD) (nWR : @Ne Nat W R) (nWH : @Ne Nat W H) (nWdS : @Ne Nat W dS) (nWdFl : @Ne Nat W dFl) (nHDR : @Ne Nat HD R) (nHDH : @Ne Nat HD H) (nHDdS : @Ne Nat HD dS) (nHDdFl : @Ne Nat HD dFl) (nRH : @Ne Nat R H) (nRdS : @Ne Nat R dS) (nRdFl : @Ne Nat R dFl) (nHdS : @Ne Nat H dS) (nHdFl : @Ne Nat H dFl) (ndSdFl : @Ne Nat dS dFl) (rW : ∀ p ∈ rest, p.1 ≠ W) (rHD : ∀ p ∈ rest, p.1 ≠ HD) (rR : ∀ p ∈ rest, p.1 ≠ R) (rH : ∀ p ∈ rest, p.1 ≠ H) (rdS : ∀ p ∈ rest, p.1 ≠ dS) (rdFl : ∀ p ∈ rest, p.1 ≠ dFl) (iW : IntsAre vsW ws) (iR : IntsAre vsR ws) (D1 : DI w HD oD c) (D2 : DI w H oH c) (hbits : BitsOK b0 b1 b2 b3 b4 b5 b6)
  (h16 : ws.length = 16) (hws : ∀ x ∈ ws, 0 ≤ x ∧ x < 18446744073709551616) (hc : c.length ≤ 24)
  (ret : ∀ h' tk' m', Fr h₀ L h' m' → Q (.ret (.bool true)) { s with heap := h', toks := tk' }), ∀ st, lawSt = some st → RestGoal w fa cd L 8 Q s st
theorem app_ne {X : Addr} {a b : List (Addr × Obj)} (h1 : ∀ p ∈ a, p.1 ≠ X) (h2 : ∀ p ∈ b, p.1 ≠ X) : ∀ p ∈ a ++ b, p.1 ≠ X := fun p hp => (List.mem_append.mp hp).elim (h1 p) (h2 p)
inductive JT (f : Obj → Obj → List (Addr × Obj)) (P Q : Obj → List (Int × Int) → Prop) (n : Nat) : List (Addr × Obj) → Prop where
  | mk {c : List (Int × Int)} {oD oH : Obj} (h1 : P oD c) (h2 : Q oH c) (h3 : c.length ≤ n) : JT f P Q n (f oD oH)
theorem stage7_ (h8 : Stage8) {w : World} {h₀ : Heap} {s : Shared} {L : Addr} {p : Program} {loose : List Str} {mean : ExcName → Option Value} {mg mb : Str → Option Value} {Q : Flow → Shared → Prop} {l : Addr} {vs : List Value} {ns : List Int} {fa : Addr} {cd : Value} {W HD Bt : Addr} {vsW : List Value} {nW nB : Nat} {oD : Obj} {tb0 tb1 tb2 tb3 tb4 tb5 tb6 : Tok} {S R Xm Fl Me Sg : Addr} {rip : Int} {trip tbg : Tok} {dS : Addr} {hS0 hS1 hS2 hS3 hS4 hS5 hS6 hS7 hS8 : Int} {kS0 kS1 kS2 kS3 kS4 kS5 kS6 kS7 kS8 : Tok} {vsR : List Value} {ws : List Int} {nR : Nat} {H : Addr} {dMe : Addr} {hMe0 : Int} {kMe0 : Tok} {oH : Obj} {c : List (Int × Int)} {b0 b1 b2 b3 b4 b5 b6 : Int} {tf0 tf1 tf2 tf3 tf4 tf5 tf6 : Tok} {dFl : Addr} {hFl0 hFl1 hFl2 hFl3 hFl4 hFl5 hFl6 : Int} {kFl0 kFl1 kFl2 kFl3 kFl4 kFl5 kFl6 : Tok} {rest : List (Addr × Obj)} {oHc oSc : Obj}  (X : (hd.heap_39 w.params).In h₀) (T : Top p loose mean mg mb h₀) (B : Below callerA h₀ [] h₀) (hl : h₀.IsList l vs.toArray) (hi : IntsAre vs ns) (hn : ns.length < 64)
  (F : Fr h₀ L s.heap (fun y => if y = Str.ofString "state" then some (.ref S) else if y = Str.ofString "bits" then some (.ref Bt) else if y = Str.ofString "worths" then some (.ref W) else none)) (N : News h₀ L s.heap ((W, listOf vsW.toArray nW) :: (HD, oD) :: (R, listOf vsR.toArray nR) :: (H, oH) :: (dS, dictOf [⟨hS0, .str (Str.ofString "iset") kS0, .none⟩, ⟨hS1, .str (Str.ofString "regs") kS1, .ref R⟩, ⟨hS2, .str (Str.ofString "xmm") kS2, .ref Xm⟩, ⟨hS3, .str (Str.ofString "flags") kS3, .ref Fl⟩, ⟨hS4, .str (Str.ofString "memory") kS4, .ref Me⟩, ⟨hS5, .str (Str.ofString "rip") kS5, .int rip trip⟩, ⟨hS6, .str (Str.ofString "begin") kS6, .int 0 tbg⟩, ⟨hS7, .str (Str.ofString "segments") kS7, .ref Sg⟩, ⟨hS8, .str (Str.ofString "is_halted") kS8, .bool false⟩] 9) :: (dFl, dictOf [⟨hFl0, .str (Str.ofString "cf") kFl0, .int b0 tf0⟩, ⟨hFl1, .str (Str.ofString "pf") kFl1, .int b1 tf1⟩, ⟨hFl2, .str (Str.ofString "af") kFl2, .int b2 tf2⟩, ⟨hFl3, .str (Str.ofString "zf") kFl3, .int b3 tf3⟩, ⟨hFl4, .str (Str.ofString "sf") kFl4, .int b4 tf4⟩, ⟨hFl5, .str (Str.ofString "of") kFl5, .int b5 tf5⟩, ⟨hFl6, .str (Str.ofString "df") kFl6, .int b6 tf6⟩] 7) :: rest)) (mS : (S, instObj 546 dS) ∈ rest) (mF : (Fl, instObj 174 dFl) ∈ rest) (mM : (Me, instObj 429 dMe) ∈ rest) (mMd : (dMe, dictOf [⟨hMe0, .str (Str.ofString "held") kMe0, .ref H⟩] 1) ∈ rest) (mB : (Bt, { cls := .type "tuple", data := .seq (List.toArray [.int b0 tb0, .int b1 tb1, .int b2 tb2, .int b3 tb3, .int b4 tb4, .int b5 tb5, .int b6 tb6]) nB }) ∈ rest) (mHc : (L + 2, oHc) ∈ rest) (mSc : (L + 1, oSc) ∈ rest) (dHc : oHc.data = .cell (some (.ref HD))) (dSc : oSc.data = .cell (some (.ref l))) (nWHD : @Ne Nat W HD) (nWR : @Ne Nat W R) (nWH : @Ne Nat W H) (nWdS : @Ne Nat W dS) (nWdFl : @Ne Nat W dFl) (nHDR : @Ne Nat HD R) (nHDH : @Ne Nat HD H) (nHDdS : @Ne Nat HD dS) (nHDdFl : @Ne Nat HD dFl) (nRH : @Ne Nat R H) (nRdS : @Ne Nat R dS) (nRdFl : @Ne Nat R dFl) (nHdS : @Ne Nat H dS) (nHdFl : @Ne Nat H dFl) (ndSdFl : @Ne Nat dS dFl) (rW : ∀ p ∈ rest, p.1 ≠ W) (rHD : ∀ p ∈ rest, p.1 ≠ HD) (rR : ∀ p ∈ rest, p.1 ≠ R) (rH : ∀ p ∈ rest, p.1 ≠ H) (rdS : ∀ p ∈ rest, p.1 ≠ dS) (rdFl : ∀ p ∈ rest, p.1 ≠ dFl) (iW : IntsAre vsW ws) (iR : IntsAre vsR ws) (D1 : DI w HD oD c) (D2 : DI w H oH c) (hbits : BitsOK b0 b1 b2 b3 b4 b5 b6)
  (h16 : ws.length = 16) (hws : ∀ x ∈ ws, 0 ≤ x ∧ x < 18446744073709551616) (hc : c.length ≤ 0)
  (ret : ∀ h' tk' m', Fr h₀ L h' m' → Q (.ret (.bool true)) { s with heap := h', toks := tk' }) : ∀ st, lawSt = some st → RestGoal w fa cd L 7 Q s st := by
  refine' law_open ?k ?_
  (case k => exact rfl)
  intro hst
  show wpAny _ _ (execs (List.cons _ _) _) _ _ _
  walk1
  (with_unfolding_all refine' For_invVF F ?k1 ?k2 ?_; (case k1 => exact rfl); (case k2 => exact rfl))
  have lM := LoopMark.mk
  k_steps
  refine stop_out ?_
  (rename IsRange _ _ _ _ _ _ _ _ => rgX)
  (rename Fr _ _ _ _ => lF)
  (rename News _ _ _ _ => lN)
  refine' loop_range1 (n := 24) (fun i nx => JT (fun oD oH => (W, listOf vsW.toArray nW) :: (HD, oD) :: (R, listOf vsR.toArray nR) :: (H, oH) :: (dS, dictOf [⟨hS0, .str (Str.ofString "iset") kS0, .none⟩, ⟨hS1, .str (Str.ofString "regs") kS1, .ref R⟩, ⟨hS2, .str (Str.ofString "xmm") kS2, .ref Xm⟩, ⟨hS3, .str (Str.ofString "flags") kS3, .ref Fl⟩, ⟨hS4, .str (Str.ofString "memory") kS4, .ref Me⟩, ⟨hS5, .str (Str.ofString "rip") kS5, .int rip trip⟩, ⟨hS6, .str (Str.ofString "begin") kS6, .int 0 tbg⟩, ⟨hS7, .str (Str.ofString "segments") kS7, .ref Sg⟩, ⟨hS8, .str (Str.ofString "is_halted") kS8, .bool false⟩] 9) :: (dFl, dictOf [⟨hFl0, .str (Str.ofString "cf") kFl0, .int b0 tf0⟩, ⟨hFl1, .str (Str.ofString "pf") kFl1, .int b1 tf1⟩, ⟨hFl2, .str (Str.ofString "af") kFl2, .int b2 tf2⟩, ⟨hFl3, .str (Str.ofString "zf") kFl3, .int b3 tf3⟩, ⟨hFl4, .str (Str.ofString "sf") kFl4, .int b4 tf4⟩, ⟨hFl5, .str (Str.ofString "of") kFl5, .int b5 tf5⟩, ⟨hFl6, .str (Str.ofString "df") kFl6, .int b6 tf6⟩] 7) :: rest) (DI w HD) (DI w H) i nx) (by rfl) rgX (by exact small_one (by omega) (by omega) (by omega) (by omega)) (by decide) lF lN (JT.mk (oD := oD) (oH := oH) D1 D2 hc) ?_ ?_
  · rintro i t' nx h' tk' own hi24 hoff' @⟨c, oD, oH, D1, D2, hc⟩ F' N'
    (try dsimp only at N' hoff' F')
    clear lF lN rgX
    have ow : ∀ X ∈ ([W, HD, R, H, dS, dFl] : List Addr), ∀ p ∈ own, p.1 ≠ X := fun X hX p hp => hoff' p hp X (by
      simp only [List.map_cons, List.mem_cons, List.not_mem_nil, or_false] at hX ⊢
      rcases hX with h | h | h | h | h | h <;> simp only [h, true_or, or_true])
    have sW := app_ne rW (ow W (by simp only [List.mem_cons, true_or, or_true]))
    have sHD := app_ne rHD (ow HD (by simp only [List.mem_cons, true_or, or_true]))
    have sR := app_ne rR (ow R (by simp only [List.mem_cons, true_or, or_true]))
    have sH := app_ne rH (ow H (by simp only [List.mem_cons, true_or, or_true]))
    have sdS := app_ne rdS (ow dS (by simp only [List.mem_cons, true_or, or_true]))
    have sdFl := app_ne rdFl (ow dFl (by simp only [List.mem_cons, true_or, or_true]))
    have mS' := List.mem_append_left own mS
    have mF' := List.mem_append_left own mF
    have mM' := List.mem_append_left own mM
    have mMd' := List.mem_append_left own mMd
    have mB' := List.mem_append_left own mB
    have mHc' := List.mem_append_left own mHc
    have mSc' := List.mem_append_left own mSc
    clear mS mF mM mMd mB mHc mSc
    rw [show (0 : Int) + (i : Int) = i by omega] at F'
    simp only [List.cons_append] at N'
    generalize hr2 : rest ++ own = r2 at N' sW sHD sR sH sdS sdFl mS' mF' mM' mMd' mB' mHc' mSc'
    (try k_fold)
    have lQ := QuickMark.mk
    obtain ⟨lo1, kv1, hd1, hf1, ho1⟩ := D1
    k_steps
    (rename FlatPairs _ _ (kdfD (kdfPut _ _ _)) => hf9)
    (rename Obj.IsDictOf _ _ (_ : List (Int × Value)) => hd9)
    (rename DI _ _ _ (wrM _ _ _ _) => D9)
    have he0 : ∀ x : Int, 0 ≤ x.fmod 256 ∧ x.fmod 256 < 256 := fun x => by rw [Int.fmod_eq_emod_of_nonneg _ (by decide)]; exact ⟨Int.emod_nonneg _ (by decide), Int.emod_lt_of_pos _ (by decide)⟩
    rw [wr1_put (he0 _).1 (he0 _).2] at D9
    subst hr2
    (rename News h₀ L _ _ => N9)
    have N8 := news_of N9 (l' := (W, listOf vsW.toArray nW) :: (HD, _) :: (R, listOf vsR.toArray nR) :: (H, _) :: (dS, dictOf [⟨hS0, .str (Str.ofString "iset") kS0, .none⟩, ⟨hS1, .str (Str.ofString "regs") kS1, .ref R⟩, ⟨hS2, .str (Str.ofString "xmm") kS2, .ref Xm⟩, ⟨hS3, .str (Str.ofString "flags") kS3, .ref Fl⟩, ⟨hS4, .str (Str.ofString "memory") kS4, .ref Me⟩, ⟨hS5, .str (Str.ofString "rip") kS5, .int rip trip⟩, ⟨hS6, .str (Str.ofString "begin") kS6, .int 0 tbg⟩, ⟨hS7, .str (Str.ofString "segments") kS7, .ref Sg⟩, ⟨hS8, .str (Str.ofString "is_halted") kS8, .bool false⟩] 9) :: (dFl, dictOf [⟨hFl0, .str (Str.ofString "cf") kFl0, .int b0 tf0⟩, ⟨hFl1, .str (Str.ofString "pf") kFl1, .int b1 tf1⟩, ⟨hFl2, .str (Str.ofString "af") kFl2, .int b2 tf2⟩, ⟨hFl3, .str (Str.ofString "zf") kFl3, .int b3 tf3⟩, ⟨hFl4, .str (Str.ofString "sf") kFl4, .int b4 tf4⟩, ⟨hFl5, .str (Str.ofString "of") kFl5, .int b5 tf5⟩, ⟨hFl6, .str (Str.ofString "df") kFl6, .int b6 tf6⟩] 7) :: (rest ++ own)) (fun p hp => hp)
    refine TurnEnd.intro (nx := (W, listOf vsW.toArray nW) :: (HD, _) :: (R, listOf vsR.toArray nR) :: (H, _) :: (dS, dictOf [⟨hS0, .str (Str.ofString "iset") kS0, .none⟩, ⟨hS1, .str (Str.ofString "regs") kS1, .ref R⟩, ⟨hS2, .str (Str.ofString "xmm") kS2, .ref Xm⟩, ⟨hS3, .str (Str.ofString "flags") kS3, .ref Fl⟩, ⟨hS4, .str (Str.ofString "memory") kS4, .ref Me⟩, ⟨hS5, .str (Str.ofString "rip") kS5, .int rip trip⟩, ⟨hS6, .str (Str.ofString "begin") kS6, .int 0 tbg⟩, ⟨hS7, .str (Str.ofString "segments") kS7, .ref Sg⟩, ⟨hS8, .str (Str.ofString "is_halted") kS8, .bool false⟩] 9) :: (dFl, dictOf [⟨hFl0, .str (Str.ofString "cf") kFl0, .int b0 tf0⟩, ⟨hFl1, .str (Str.ofString "pf") kFl1, .int b1 tf1⟩, ⟨hFl2, .str (Str.ofString "af") kFl2, .int b2 tf2⟩, ⟨hFl3, .str (Str.ofString "zf") kFl3, .int b3 tf3⟩, ⟨hFl4, .str (Str.ofString "sf") kFl4, .int b4 tf4⟩, ⟨hFl5, .str (Str.ofString "of") kFl5, .int b5 tf5⟩, ⟨hFl6, .str (Str.ofString "df") kFl6, .int b6 tf6⟩] 7) :: rest) (by k_asm) N8 hoff' ⟨JT.mk ⟨lo1, _, hd9, hf9, kdfPut_octet ho1 _ (he0 _).1 (he0 _).2⟩ D9 (Nat.le_trans (kdfPut_len _ _ _) (Nat.succ_le_succ hc)), ?_⟩
    intro z hz
    simp only [if_neg hz]
  · rintro u nx h' tk' @⟨c, oD, oH, D1, D2, hc⟩ F' N'
    (try dsimp only at N' F')
    clear lF lN rgX
    (try k_unfold)
    (try dsimp only)
    exact h8 (s := { s with heap := h', toks := tk' }) (rest := rest) X T B hl hi hn F' N' mS mF mM mMd mB mHc mSc dHc dSc nWHD nWR nWH nWdS nWdFl nHDR nHDH nHDdS nHDdFl nRH nRdS nRdFl nHdS nHdFl ndSdFl rW rHD rR rH rdS rdFl iW iR D1 D2 hbits h16 hws hc ret _ hst
theorem stage7 (h8 : Stage8) : Stage7 := stage7_ h8

theorem hk1 {α : Type} {a0 x : α} {l : List α} : x ∈ a0 :: x :: l := .tail _ (.head _)
theorem tk1 {α : Type} {a0 x : α} {l : List α} (h : x ∈ l) : x ∈ a0 :: l := .tail _ h
theorem hk2 {α : Type} {a0 a1 x : α} {l : List α} : x ∈ a0 :: a1 :: x :: l := .tail _ (.tail _ (.head _))
theorem tk2 {α : Type} {a0 a1 x : α} {l : List α} (h : x ∈ l) : x ∈ a0 :: a1 :: l := .tail _ (.tail _ h)
theorem hk3 {α : Type} {a0 a1 a2 x : α} {l : List α} : x ∈ a0 :: a1 :: a2 :: x :: l := .tail _ (.tail _ (.tail _ (.head _)))
theorem tk3 {α : Type} {a0 a1 a2 x : α} {l : List α} (h : x ∈ l) : x ∈ a0 :: a1 :: a2 :: l := .tail _ (.tail _ (.tail _ h))
theorem hk4 {α : Type} {a0 a1 a2 a3 x : α} {l : List α} : x ∈ a0 :: a1 :: a2 :: a3 :: x :: l := .tail _ (.tail _ (.tail _ (.tail _ (.head _))))
theorem tk4 {α : Type} {a0 a1 a2 a3 x : α} {l : List α} (h : x ∈ l) : x ∈ a0 :: a1 :: a2 :: a3 :: l := .tail _ (.tail _ (.tail _ (.tail _ h)))
theorem hk5 {α : Type} {a0 a1 a2 a3 a4 x : α} {l : List α} : x ∈ a0 :: a1 :: a2 :: a3 :: a4 :: x :: l := .tail _ (.tail _ (.tail _ (.tail _ (.tail _ (.head _)))))
theorem tk5 {α : Type} {a0 a1 a2 a3 a4 x : α} {l : List α} (h : x ∈ l) : x ∈ a0 :: a1 :: a2 :: a3 :: a4 :: l := .tail _ (.tail _ (.tail _ (.tail _ (.tail _ h))))
theorem hk6 {α : Type} {a0 a1 a2 a3 a4 a5 x : α} {l : List α} : x ∈ a0 :: a1 :: a2 :: a3 :: a4 :: a5 :: x :: l := .tail _ (.tail _ (.tail _ (.tail _ (.tail _ (.tail _ (.head _))))))
theorem tk6 {α : Type} {a0 a1 a2 a3 a4 a5 x : α} {l : List α} (h : x ∈ l) : x ∈ a0 :: a1 :: a2 :: a3 :: a4 :: a5 :: l := .tail _ (.tail _ (.tail _ (.tail _ (.tail _ (.tail _ h)))))
theorem hk7 {α : Type} {a0 a1 a2 a3 a4 a5 a6 x : α} {l : List α} : x ∈ a0 :: a1 :: a2 :: a3 :: a4 :: a5 :: a6 :: x :: l := .tail _ (.tail _ (.tail _ (.tail _ (.tail _ (.tail _ (.tail _ (.head _)))))))
theorem tk7 {α : Type} {a0 a1 a2 a3 a4 a5 a6 x : α} {l : List α} (h : x ∈ l) : x ∈ a0 :: a1 :: a2 :: a3 :: a4 :: a5 :: a6 :: l := .tail _ (.tail _ (.tail _ (.tail _ (.tail _ (.tail _ (.tail _ h))))))
theorem hk8 {α : Type} {a0 a1 a2 a3 a4 a5 a6 a7 x : α} {l : List α} : x ∈ a0 :: a1 :: a2 :: a3 :: a4 :: a5 :: a6 :: a7 :: x :: l := .tail _ (.tail _ (.tail _ (.tail _ (.tail _ (.tail _ (.tail _ (.tail _ (.head _))))))))
theorem tk8 {α : Type} {a0 a1 a2 a3 a4 a5 a6 a7 x : α} {l : List α} (h : x ∈ l) : x ∈ a0 :: a1 :: a2 :: a3 :: a4 :: a5 :: a6 :: a7 :: l := .tail _ (.tail _ (.tail _ (.tail _ (.tail _ (.tail _ (.tail _ (.tail _ h)))))))
theorem hk9 {α : Type} {a0 a1 a2 a3 a4 a5 a6 a7 a8 x : α} {l : List α} : x ∈ a0 :: a1 :: a2 :: a3 :: a4 :: a5 :: a6 :: a7 :: a8 :: x :: l := .tail _ (.tail _ (.tail _ (.tail _ (.tail _ (.tail _ (.tail _ (.tail _ (.tail _ (.head _)))))))))
theorem tk9 {α : Type} {a0 a1 a2 a3 a4 a5 a6 a7 a8 x : α} {l : List α} (h : x ∈ l) : x ∈ a0 :: a1 :: a2 :: a3 :: a4 :: a5 :: a6 :: a7 :: a8 :: l := .tail _ (.tail _ (.tail _ (.tail _ (.tail _ (.tail _ (.tail _ (.tail _ (.tail _ h))))))))
theorem hk10 {α : Type} {a0 a1 a2 a3 a4 a5 a6 a7 a8 a9 x : α} {l : List α} : x ∈ a0 :: a1 :: a2 :: a3 :: a4 :: a5 :: a6 :: a7 :: a8 :: a9 :: x :: l := .tail _ (.tail _ (.tail _ (.tail _ (.tail _ (.tail _ (.tail _ (.tail _ (.tail _ (.tail _ (.head _))))))))))
theorem tk10 {α : Type} {a0 a1 a2 a3 a4 a5 a6 a7 a8 a9 x : α} {l : List α} (h : x ∈ l) : x ∈ a0 :: a1 :: a2 :: a3 :: a4 :: a5 :: a6 :: a7 :: a8 :: a9 :: l := .tail _ (.tail _ (.tail _ (.tail _ (.tail _ (.tail _ (.tail _ (.tail _ (.tail _ (.tail _ h)))))))))
theorem hk11 {α : Type} {a0 a1 a2 a3 a4 a5 a6 a7 a8 a9 a10 x : α} {l : List α} : x ∈ a0 :: a1 :: a2 :: a3 :: a4 :: a5 :: a6 :: a7 :: a8 :: a9 :: a10 :: x :: l := .tail _ (.tail _ (.tail _ (.tail _ (.tail _ (.tail _ (.tail _ (.tail _ (.tail _ (.tail _ (.tail _ (.head _)))))))))))
theorem tk11 {α : Type} {a0 a1 a2 a3 a4 a5 a6 a7 a8 a9 a10 x : α} {l : List α} (h : x ∈ l) : x ∈ a0 :: a1 :: a2 :: a3 :: a4 :: a5 :: a6 :: a7 :: a8 :: a9 :: a10 :: l := .tail _ (.tail _ (.tail _ (.tail _ (.tail _ (.tail _ (.tail _ (.tail _ (.tail _ (.tail _ (.tail _ h))))))))))
theorem hk12 {α : Type} {a0 a1 a2 a3 a4 a5 a6 a7 a8 a9 a10 a11 x : α} {l : List α} : x ∈ a0 :: a1 :: a2 :: a3 :: a4 :: a5 :: a6 :: a7 :: a8 :: a9 :: a10 :: a11 :: x :: l := .tail _ (.tail _ (.tail _ (.tail _ (.tail _ (.tail _ (.tail _ (.tail _ (.tail _ (.tail _ (.tail _ (.tail _ (.head _))))))))))))
theorem tk12 {α : Type} {a0 a1 a2 a3 a4 a5 a6 a7 a8 a9 a10 a11 x : α} {l : List α} (h : x ∈ l) : x ∈ a0 :: a1 :: a2 :: a3 :: a4 :: a5 :: a6 :: a7 :: a8 :: a9 :: a10 :: a11 :: l := .tail _ (.tail _ (.tail _ (.tail _ (.tail _ (.tail _ (.tail _ (.tail _ (.tail _ (.tail _ (.tail _ (.tail _ h)))))))))))
theorem hk13 {α : Type} {a0 a1 a2 a3 a4 a5 a6 a7 a8 a9 a10 a11 a12 x : α} {l : List α} : x ∈ a0 :: a1 :: a2 :: a3 :: a4 :: a5 :: a6 :: a7 :: a8 :: a9 :: a10 :: a11 :: a12 :: x :: l := .tail _ (.tail _ (.tail _ (.tail _ (.tail _ (.tail _ (.tail _ (.tail _ (.tail _ (.tail _ (.tail _ (.tail _ (.tail _ (.head _)))))))))))))
theorem tk13 {α : Type} {a0 a1 a2 a3 a4 a5 a6 a7 a8 a9 a10 a11 a12 x : α} {l : List α} (h : x ∈ l) : x ∈ a0 :: a1 :: a2 :: a3 :: a4 :: a5 :: a6 :: a7 :: a8 :: a9 :: a10 :: a11 :: a12 :: l := .tail _ (.tail _ (.tail _ (.tail _ (.tail _ (.tail _ (.tail _ (.tail _ (.tail _ (.tail _ (.tail _ (.tail _ (.tail _ h))))))))))))
theorem hk14 {α : Type} {a0 a1 a2 a3 a4 a5 a6 a7 a8 a9 a10 a11 a12 a13 x : α} {l : List α} : x ∈ a0 :: a1 :: a2 :: a3 :: a4 :: a5 :: a6 :: a7 :: a8 :: a9 :: a10 :: a11 :: a12 :: a13 :: x :: l := .tail _ (.tail _ (.tail _ (.tail _ (.tail _ (.tail _ (.tail _ (.tail _ (.tail _ (.tail _ (.tail _ (.tail _ (.tail _ (.tail _ (.head _))))))))))))))
theorem tk14 {α : Type} {a0 a1 a2 a3 a4 a5 a6 a7 a8 a9 a10 a11 a12 a13 x : α} {l : List α} (h : x ∈ l) : x ∈ a0 :: a1 :: a2 :: a3 :: a4 :: a5 :: a6 :: a7 :: a8 :: a9 :: a10 :: a11 :: a12 :: a13 :: l := .tail _ (.tail _ (.tail _ (.tail _ (.tail _ (.tail _ (.tail _ (.tail _ (.tail _ (.tail _ (.tail _ (.tail _ (.tail _ (.tail _ h)))))))))))))
theorem hk15 {α : Type} {a0 a1 a2 a3 a4 a5 a6 a7 a8 a9 a10 a11 a12 a13 a14 x : α} {l : List α} : x ∈ a0 :: a1 :: a2 :: a3 :: a4 :: a5 :: a6 :: a7 :: a8 :: a9 :: a10 :: a11 :: a12 :: a13 :: a14 :: x :: l := .tail _ (.tail _ (.tail _ (.tail _ (.tail _ (.tail _ (.tail _ (.tail _ (.tail _ (.tail _ (.tail _ (.tail _ (.tail _ (.tail _ (.tail _ (.head _)))))))))))))))
theorem tk15 {α : Type} {a0 a1 a2 a3 a4 a5 a6 a7 a8 a9 a10 a11 a12 a13 a14 x : α} {l : List α} (h : x ∈ l) : x ∈ a0 :: a1 :: a2 :: a3 :: a4 :: a5 :: a6 :: a7 :: a8 :: a9 :: a10 :: a11 :: a12 :: a13 :: a14 :: l := .tail _ (.tail _ (.tail _ (.tail _ (.tail _ (.tail _ (.tail _ (.tail _ (.tail _ (.tail _ (.tail _ (.tail _ (.tail _ (.tail _ (.tail _ h))))))))))))))
theorem hk16 {α : Type} {a0 a1 a2 a3 a4 a5 a6 a7 a8 a9 a10 a11 a12 a13 a14 a15 x : α} {l : List α} : x ∈ a0 :: a1 :: a2 :: a3 :: a4 :: a5 :: a6 :: a7 :: a8 :: a9 :: a10 :: a11 :: a12 :: a13 :: a14 :: a15 :: x :: l := .tail _ (.tail _ (.tail _ (.tail _ (.tail _ (.tail _ (.tail _ (.tail _ (.tail _ (.tail _ (.tail _ (.tail _ (.tail _ (.tail _ (.tail _ (.tail _ (.head _))))))))))))))))
theorem tk16 {α : Type} {a0 a1 a2 a3 a4 a5 a6 a7 a8 a9 a10 a11 a12 a13 a14 a15 x : α} {l : List α} (h : x ∈ l) : x ∈ a0 :: a1 :: a2 :: a3 :: a4 :: a5 :: a6 :: a7 :: a8 :: a9 :: a10 :: a11 :: a12 :: a13 :: a14 :: a15 :: l := .tail _ (.tail _ (.tail _ (.tail _ (.tail _ (.tail _ (.tail _ (.tail _ (.tail _ (.tail _ (.tail _ (.tail _ (.tail _ (.tail _ (.tail _ (.tail _ h)))))))))))))))
theorem hk17 {α : Type} {a0 a1 a2 a3 a4 a5 a6 a7 a8 a9 a10 a11 a12 a13 a14 a15 a16 x : α} {l : List α} : x ∈ a0 :: a1 :: a2 :: a3 :: a4 :: a5 :: a6 :: a7 :: a8 :: a9 :: a10 :: a11 :: a12 :: a13 :: a14 :: a15 :: a16 :: x :: l := .tail _ (.tail _ (.tail _ (.tail _ (.tail _ (.tail _ (.tail _ (.tail _ (.tail _ (.tail _ (.tail _ (.tail _ (.tail _ (.tail _ (.tail _ (.tail _ (.tail _ (.head _)))))))))))))))))
theorem tk17 {α : Type} {a0 a1 a2 a3 a4 a5 a6 a7 a8 a9 a10 a11 a12 a13 a14 a15 a16 x : α} {l : List α} (h : x ∈ l) : x ∈ a0 :: a1 :: a2 :: a3 :: a4 :: a5 :: a6 :: a7 :: a8 :: a9 :: a10 :: a11 :: a12 :: a13 :: a14 :: a15 :: a16 :: l := .tail _ (.tail _ (.tail _ (.tail _ (.tail _ (.tail _ (.tail _ (.tail _ (.tail _ (.tail _ (.tail _ (.tail _ (.tail _ (.tail _ (.tail _ (.tail _ (.tail _ h))))))))))))))))
theorem hk18 {α : Type} {a0 a1 a2 a3 a4 a5 a6 a7 a8 a9 a10 a11 a12 a13 a14 a15 a16 a17 x : α} {l : List α} : x ∈ a0 :: a1 :: a2 :: a3 :: a4 :: a5 :: a6 :: a7 :: a8 :: a9 :: a10 :: a11 :: a12 :: a13 :: a14 :: a15 :: a16 :: a17 :: x :: l := .tail _ (.tail _ (.tail _ (.tail _ (.tail _ (.tail _ (.tail _ (.tail _ (.tail _ (.tail _ (.tail _ (.tail _ (.tail _ (.tail _ (.tail _ (.tail _ (.tail _ (.tail _ (.head _))))))))))))))))))
theorem tk18 {α : Type} {a0 a1 a2 a3 a4 a5 a6 a7 a8 a9 a10 a11 a12 a13 a14 a15 a16 a17 x : α} {l : List α} (h : x ∈ l) : x ∈ a0 :: a1 :: a2 :: a3 :: a4 :: a5 :: a6 :: a7 :: a8 :: a9 :: a10 :: a11 :: a12 :: a13 :: a14 :: a15 :: a16 :: a17 :: l := .tail _ (.tail _ (.tail _ (.tail _ (.tail _ (.tail _ (.tail _ (.tail _ (.tail _ (.tail _ (.tail _ (.tail _ (.tail _ (.tail _ (.tail _ (.tail _ (.tail _ (.tail _ h)))))))))))))))))
theorem hk19 {α : Type} {a0 a1 a2 a3 a4 a5 a6 a7 a8 a9 a10 a11 a12 a13 a14 a15 a16 a17 a18 x : α} {l : List α} : x ∈ a0 :: a1 :: a2 :: a3 :: a4 :: a5 :: a6 :: a7 :: a8 :: a9 :: a10 :: a11 :: a12 :: a13 :: a14 :: a15 :: a16 :: a17 :: a18 :: x :: l := .tail _ (.tail _ (.tail _ (.tail _ (.tail _ (.tail _ (.tail _ (.tail _ (.tail _ (.tail _ (.tail _ (.tail _ (.tail _ (.tail _ (.tail _ (.tail _ (.tail _ (.tail _ (.tail _ (.head _)))))))))))))))))))
theorem tk19 {α : Type} {a0 a1 a2 a3 a4 a5 a6 a7 a8 a9 a10 a11 a12 a13 a14 a15 a16 a17 a18 x : α} {l : List α} (h : x ∈ l) : x ∈ a0 :: a1 :: a2 :: a3 :: a4 :: a5 :: a6 :: a7 :: a8 :: a9 :: a10 :: a11 :: a12 :: a13 :: a14 :: a15 :: a16 :: a17 :: a18 :: l := .tail _ (.tail _ (.tail _ (.tail _ (.tail _ (.tail _ (.tail _ (.tail _ (.tail _ (.tail _ (.tail _ (.tail _ (.tail _ (.tail _ (.tail _ (.tail _ (.tail _ (.tail _ (.tail _ h))))))))))))))))))
theorem hk20 {α : Type} {a0 a1 a2 a3 a4 a5 a6 a7 a8 a9 a10 a11 a12 a13 a14 a15 a16 a17 a18 a19 x : α} {l : List α} : x ∈ a0 :: a1 :: a2 :: a3 :: a4 :: a5 :: a6 :: a7 :: a8 :: a9 :: a10 :: a11 :: a12 :: a13 :: a14 :: a15 :: a16 :: a17 :: a18 :: a19 :: x :: l := .tail _ (.tail _ (.tail _ (.tail _ (.tail _ (.tail _ (.tail _ (.tail _ (.tail _ (.tail _ (.tail _ (.tail _ (.tail _ (.tail _ (.tail _ (.tail _ (.tail _ (.tail _ (.tail _ (.tail _ (.head _))))))))))))))))))))
theorem tk20 {α : Type} {a0 a1 a2 a3 a4 a5 a6 a7 a8 a9 a10 a11 a12 a13 a14 a15 a16 a17 a18 a19 x : α} {l : List α} (h : x ∈ l) : x ∈ a0 :: a1 :: a2 :: a3 :: a4 :: a5 :: a6 :: a7 :: a8 :: a9 :: a10 :: a11 :: a12 :: a13 :: a14 :: a15 :: a16 :: a17 :: a18 :: a19 :: l := .tail _ (.tail _ (.tail _ (.tail _ (.tail _ (.tail _ (.tail _ (.tail _ (.tail _ (.tail _ (.tail _ (.tail _ (.tail _ (.tail _ (.tail _ (.tail _ (.tail _ (.tail _ (.tail _ (.tail _ h)))))))))))))))))))
theorem hk21 {α : Type} {a0 a1 a2 a3 a4 a5 a6 a7 a8 a9 a10 a11 a12 a13 a14 a15 a16 a17 a18 a19 a20 x : α} {l : List α} : x ∈ a0 :: a1 :: a2 :: a3 :: a4 :: a5 :: a6 :: a7 :: a8 :: a9 :: a10 :: a11 :: a12 :: a13 :: a14 :: a15 :: a16 :: a17 :: a18 :: a19 :: a20 :: x :: l := .tail _ (.tail _ (.tail _ (.tail _ (.tail _ (.tail _ (.tail _ (.tail _ (.tail _ (.tail _ (.tail _ (.tail _ (.tail _ (.tail _ (.tail _ (.tail _ (.tail _ (.tail _ (.tail _ (.tail _ (.tail _ (.head _)))))))))))))))))))))
theorem tk21 {α : Type} {a0 a1 a2 a3 a4 a5 a6 a7 a8 a9 a10 a11 a12 a13 a14 a15 a16 a17 a18 a19 a20 x : α} {l : List α} (h : x ∈ l) : x ∈ a0 :: a1 :: a2 :: a3 :: a4 :: a5 :: a6 :: a7 :: a8 :: a9 :: a10 :: a11 :: a12 :: a13 :: a14 :: a15 :: a16 :: a17 :: a18 :: a19 :: a20 :: l := .tail _ (.tail _ (.tail _ (.tail _ (.tail _ (.tail _ (.tail _ (.tail _ (.tail _ (.tail _ (.tail _ (.tail _ (.tail _ (.tail _ (.tail _ (.tail _ (.tail _ (.tail _ (.tail _ (.tail _ (.tail _ h))))))))))))))))))))
theorem hk22 {α : Type} {a0 a1 a2 a3 a4 a5 a6 a7 a8 a9 a10 a11 a12 a13 a14 a15 a16 a17 a18 a19 a20 a21 x : α} {l : List α} : x ∈ a0 :: a1 :: a2 :: a3 :: a4 :: a5 :: a6 :: a7 :: a8 :: a9 :: a10 :: a11 :: a12 :: a13 :: a14 :: a15 :: a16 :: a17 :: a18 :: a19 :: a20 :: a21 :: x :: l := .tail _ (.tail _ (.tail _ (.tail _ (.tail _ (.tail _ (.tail _ (.tail _ (.tail _ (.tail _ (.tail _ (.tail _ (.tail _ (.tail _ (.tail _ (.tail _ (.tail _ (.tail _ (.tail _ (.tail _ (.tail _ (.tail _ (.head _))))))))))))))))))))))
theorem tk22 {α : Type} {a0 a1 a2 a3 a4 a5 a6 a7 a8 a9 a10 a11 a12 a13 a14 a15 a16 a17 a18 a19 a20 a21 x : α} {l : List α} (h : x ∈ l) : x ∈ a0 :: a1 :: a2 :: a3 :: a4 :: a5 :: a6 :: a7 :: a8 :: a9 :: a10 :: a11 :: a12 :: a13 :: a14 :: a15 :: a16 :: a17 :: a18 :: a19 :: a20 :: a21 :: l := .tail _ (.tail _ (.tail _ (.tail _ (.tail _ (.tail _ (.tail _ (.tail _ (.tail _ (.tail _ (.tail _ (.tail _ (.tail _ (.tail _ (.tail _ (.tail _ (.tail _ (.tail _ (.tail _ (.tail _ (.tail _ (.tail _ h)))))))))))))))))))))
theorem hk23 {α : Type} {a0 a1 a2 a3 a4 a5 a6 a7 a8 a9 a10 a11 a12 a13 a14 a15 a16 a17 a18 a19 a20 a21 a22 x : α} {l : List α} : x ∈ a0 :: a1 :: a2 :: a3 :: a4 :: a5 :: a6 :: a7 :: a8 :: a9 :: a10 :: a11 :: a12 :: a13 :: a14 :: a15 :: a16 :: a17 :: a18 :: a19 :: a20 :: a21 :: a22 :: x :: l := .tail _ (.tail _ (.tail _ (.tail _ (.tail _ (.tail _ (.tail _ (.tail _ (.tail _ (.tail _ (.tail _ (.tail _ (.tail _ (.tail _ (.tail _ (.tail _ (.tail _ (.tail _ (.tail _ (.tail _ (.tail _ (.tail _ (.tail _ (.head _)))))))))))))))))))))))
theorem tk23 {α : Type} {a0 a1 a2 a3 a4 a5 a6 a7 a8 a9 a10 a11 a12 a13 a14 a15 a16 a17 a18 a19 a20 a21 a22 x : α} {l : List α} (h : x ∈ l) : x ∈ a0 :: a1 :: a2 :: a3 :: a4 :: a5 :: a6 :: a7 :: a8 :: a9 :: a10 :: a11 :: a12 :: a13 :: a14 :: a15 :: a16 :: a17 :: a18 :: a19 :: a20 :: a21 :: a22 :: l := .tail _ (.tail _ (.tail _ (.tail _ (.tail _ (.tail _ (.tail _ (.tail _ (.tail _ (.tail _ (.tail _ (.tail _ (.tail _ (.tail _ (.tail _ (.tail _ (.tail _ (.tail _ (.tail _ (.tail _ (.tail _ (.tail _ (.tail _ h))))))))))))))))))))))
theorem hk24 {α : Type} {a0 a1 a2 a3 a4 a5 a6 a7 a8 a9 a10 a11 a12 a13 a14 a15 a16 a17 a18 a19 a20 a21 a22 a23 x : α} {l : List α} : x ∈ a0 :: a1 :: a2 :: a3 :: a4 :: a5 :: a6 :: a7 :: a8 :: a9 :: a10 :: a11 :: a12 :: a13 :: a14 :: a15 :: a16 :: a17 :: a18 :: a19 :: a20 :: a21 :: a22 :: a23 :: x :: l := .tail _ (.tail _ (.tail _ (.tail _ (.tail _ (.tail _ (.tail _ (.tail _ (.tail _ (.tail _ (.tail _ (.tail _ (.tail _ (.tail _ (.tail _ (.tail _ (.tail _ (.tail _ (.tail _ (.tail _ (.tail _ (.tail _ (.tail _ (.tail _ (.head _))))))))))))))))))))))))
theorem tk24 {α : Type} {a0 a1 a2 a3 a4 a5 a6 a7 a8 a9 a10 a11 a12 a13 a14 a15 a16 a17 a18 a19 a20 a21 a22 a23 x : α} {l : List α} (h : x ∈ l) : x ∈ a0 :: a1 :: a2 :: a3 :: a4 :: a5 :: a6 :: a7 :: a8 :: a9 :: a10 :: a11 :: a12 :: a13 :: a14 :: a15 :: a16 :: a17 :: a18 :: a19 :: a20 :: a21 :: a22 :: a23 :: l := .tail _ (.tail _ (.tail _ (.tail _ (.tail _ (.tail _ (.tail _ (.tail _ (.tail _ (.tail _ (.tail _ (.tail _ (.tail _ (.tail _ (.tail _ (.tail _ (.tail _ (.tail _ (.tail _ (.tail _ (.tail _ (.tail _ (.tail _ (.tail _ h)))))))))))))))))))))))
theorem hk25 {α : Type} {a0 a1 a2 a3 a4 a5 a6 a7 a8 a9 a10 a11 a12 a13 a14 a15 a16 a17 a18 a19 a20 a21 a22 a23 a24 x : α} {l : List α} : x ∈ a0 :: a1 :: a2 :: a3 :: a4 :: a5 :: a6 :: a7 :: a8 :: a9 :: a10 :: a11 :: a12 :: a13 :: a14 :: a15 :: a16 :: a17 :: a18 :: a19 :: a20 :: a21 :: a22 :: a23 :: a24 :: x :: l := .tail _ (.tail _ (.tail _ (.tail _ (.tail _ (.tail _ (.tail _ (.tail _ (.tail _ (.tail _ (.tail _ (.tail _ (.tail _ (.tail _ (.tail _ (.tail _ (.tail _ (.tail _ (.tail _ (.tail _ (.tail _ (.tail _ (.tail _ (.tail _ (.tail _ (.head _)))))))))))))))))))))))))
theorem tk25 {α : Type} {a0 a1 a2 a3 a4 a5 a6 a7 a8 a9 a10 a11 a12 a13 a14 a15 a16 a17 a18 a19 a20 a21 a22 a23 a24 x : α} {l : List α} (h : x ∈ l) : x ∈ a0 :: a1 :: a2 :: a3 :: a4 :: a5 :: a6 :: a7 :: a8 :: a9 :: a10 :: a11 :: a12 :: a13 :: a14 :: a15 :: a16 :: a17 :: a18 :: a19 :: a20 :: a21 :: a22 :: a23 :: a24 :: l := .tail _ (.tail _ (.tail _ (.tail _ (.tail _ (.tail _ (.tail _ (.tail _ (.tail _ (.tail _ (.tail _ (.tail _ (.tail _ (.tail _ (.tail _ (.tail _ (.tail _ (.tail _ (.tail _ (.tail _ (.tail _ (.tail _ (.tail _ (.tail _ (.tail _ h))))))))))))))))))))))))
noncomputable def mapO : List (Str × Option Value) → Str → Option Value
  | [], _ => none
  | p :: l, y => if y = p.1 then p.2 else mapO l y
inductive IsMap : (Str → Option Value) → List (Str × Option Value) → Prop where
  | nil : IsMap (fun _ => none) []
  | cons {k : Str} {v : Option Value} {m : Str → Option Value} {l : List (Str × Option Value)} (h : IsMap m l) : IsMap (fun y => if y = k then v else m y) ((k, v) :: l)
inductive Agree (l l' : List (Str × Option Value)) : List (Str × Option Value) → Prop where
  | nil : Agree l l' []
  | cons {k : Str} {v : Option Value} {ks : List (Str × Option Value)} (h : mapO l k = mapO l' k) (r : Agree l l' ks) : Agree l l' ((k, v) :: ks)
theorem IsMap.eq {m : Str → Option Value} {l : List (Str × Option Value)} (h : IsMap m l) : ∀ y, m y = mapO l y := by
  induction h with
  | nil => intro y; rfl
  | cons h ih => intro y; show (if _ then _ else _) = (if _ then _ else _); rw [ih]
theorem mapO_none {l : List (Str × Option Value)} {y : Str} (h : ∀ p ∈ l, y ≠ p.1) : mapO l y = none := by
  induction l with
  | nil => rfl
  | cons p l ih =>
    show (if y = p.1 then p.2 else mapO l y) = none
    rw [if_neg (h p (.head _))]
    exact ih fun q hq => h q (.tail _ hq)
theorem Agree.at {l l' ks : List (Str × Option Value)} (h : Agree l l' ks) : ∀ p ∈ ks, mapO l p.1 = mapO l' p.1 := by
  induction h with
  | nil => intro p hp; exact nomatch hp
  | cons h r ih =>
    intro p hp
    rcases List.mem_cons.mp hp with e | hp
    · subst e; exact h
    · exact ih p hp
theorem map_agree {m m' : Str → Option Value} {l l' : List (Str × Option Value)} (i1 : IsMap m l) (i2 : IsMap m' l') (a1 : Agree l l' l) (a2 : Agree l l' l') : ∀ y, m y = m' y := by
  intro y
  rw [i1.eq, i2.eq]
  by_cases h1 : ∃ p ∈ l, y = p.1
  · obtain ⟨p, hp, rfl⟩ := h1; exact a1.at p hp
  by_cases h2 : ∃ p ∈ l', y = p.1
  · obtain ⟨p, hp, rfl⟩ := h2; exact a2.at p hp
  rw [mapO_none fun p hp e => h1 ⟨p, hp, e⟩, mapO_none fun p hp e => h2 ⟨p, hp, e⟩]
theorem low64 (v : Int) : low v 64 = v % 18446744073709551616 := by unfold low; rw [p64]
theorem low16 (v : Int) : low v 16 = v % 65536 := rfl
theorem low64_id {v : Int} (h : 0 ≤ v ∧ v < 18446744073709551616) : low v 64 = v := by rw [low64]; exact Int.emod_eq_of_lt h.1 h.2
theorem low_low (v z : Int) : low (low v z) z = low v z := by unfold low; exact Int.emod_emod_of_dvd _ (Int.dvd_refl _)
theorem low_range64 (v : Int) : 0 ≤ low v 64 ∧ low v 64 < 18446744073709551616 := by rw [low64]; exact ⟨Int.emod_nonneg _ (by decide), Int.emod_lt_of_pos _ (by decide)⟩
theorem fd64 : Int.fdiv 64 8 = 8 := by decide
theorem fd16 : Int.fdiv 16 8 = 2 := by decide
theorem tn8 : Int.toNat 8 = 8 := by decide
theorem tn2 : Int.toNat 2 = 2 := by decide
theorem emod64_range (v : Int) : 0 ≤ v % 18446744073709551616 ∧ v % 18446744073709551616 < 18446744073709551616 := ⟨Int.emod_nonneg _ (by decide), Int.emod_lt_of_pos _ (by decide)⟩
theorem rdM_nonneg {c : List (Int × Int)} (h : ∀ p ∈ c, 0 ≤ p.2 ∧ p.2 < 256) (v : Int) : ∀ n, 0 ≤ rdM c v n ∧ rdM c v n < 256 ^ n
  | 0 => ⟨Int.le_refl 0, (by show (0 : Int) < 1; decide)⟩
  | n + 1 => by
    have ih := rdM_nonneg h v n
    have o := kdfLook_octet h ((v + n) % 18446744073709551616)
    have hp : (0 : Int) < 256 ^ n := pow_pos_of (by decide) n
    have h1 : 0 ≤ kdfLook c ((v + n) % 18446744073709551616) 0 * 256 ^ n := Int.mul_nonneg o.1 (Int.le_of_lt hp)
    have h2 : kdfLook c ((v + n) % 18446744073709551616) 0 * 256 ^ n ≤ 255 * 256 ^ n := Int.mul_le_mul_of_nonneg_right (by omega) (Int.le_of_lt hp)
    have h3 : (256 : Int) ^ (n + 1) = 256 * 256 ^ n := by rw [Int.pow_succ, Int.mul_comm]
    show 0 ≤ rdM c v n + _ ∧ rdM c v n + _ < _
    rw [h3]
    omega
theorem rdM8 {c : List (Int × Int)} (h : ∀ p ∈ c, 0 ≤ p.2 ∧ p.2 < 256) (v : Int) : 0 ≤ rdM c v 8 ∧ rdM c v 8 < 18446744073709551616 := rdM_nonneg h v 8
theorem rdM2 {c : List (Int × Int)} (h : ∀ p ∈ c, 0 ≤ p.2 ∧ p.2 < 256) (v : Int) : 0 ≤ rdM c v 2 ∧ rdM c v 2 < 65536 := rdM_nonneg h v 2
theorem rdM_mod (c : List (Int × Int)) (v : Int) : ∀ n, rdM c (v % 18446744073709551616) n = rdM c v n
  | 0 => rfl
  | n + 1 => by
    show rdM c (v % 18446744073709551616) n + _ = rdM c v n + _
    rw [rdM_mod c v n, Int.emod_add_emod]
theorem wrM_mod (c : List (Int × Int)) (v e : Int) : ∀ n, wrM c (v % 18446744073709551616) e n = wrM c v e n
  | 0 => rfl
  | n + 1 => by
    show kdfPut (wrM c (v % 18446744073709551616) e n) _ _ = kdfPut (wrM c v e n) _ _
    rw [wrM_mod c v e n, Int.emod_add_emod]
theorem wrM_octet {c : List (Int × Int)} (h : ∀ p ∈ c, 0 ≤ p.2 ∧ p.2 < 256) (v e : Int) : ∀ n, ∀ p ∈ wrM c v e n, 0 ≤ p.2 ∧ p.2 < 256
  | 0 => h
  | n + 1 => kdfPut_octet (wrM_octet h v e n) _ (oct_range e n).1 (oct_range e n).2
/-- the place of memory that hangs on a register -/
theorem place_eq (far r : Int) : low (low (far + low r 64) 64 + 0) 64 = (r + far) % 18446744073709551616 := by
  simp only [low64]
  omega
noncomputable def WOK (ws : List Int) : Prop := ws.length = 16 ∧ ∀ x ∈ ws, 0 ≤ x ∧ x < 18446744073709551616
theorem WOK.at {ws : List Int} (h : WOK ws) (k : Nat) : 0 ≤ ws.getD k 0 ∧ ws.getD k 0 < 18446744073709551616 := by
  by_cases hk : k < ws.length
  · have e : ws.getD k 0 = ws[k] := by simp [hk]
    rw [e]; exact h.2 _ (List.getElem_mem hk)
  · have e : ws.getD k 0 = 0 := by simp [Nat.le_of_not_lt hk]
    rw [e]; exact ⟨by decide, by decide⟩
theorem WOK.set {ws : List Int} (h : WOK ws) (k : Nat) {x : Int} (hx : 0 ≤ x ∧ x < 18446744073709551616) : WOK (ws.set k x) := by
  refine ⟨by rw [List.length_set]; exact h.1, fun y hy => ?_⟩
  rcases List.mem_or_eq_of_mem_set hy with h' | rfl
  · exact h.2 y h'
  · exact hx
theorem joined64 (old v : Int) : joinedZ old v 64 = v := rfl
theorem joined_set {old v z : Int} (hz : z = 64 ∨ z = 32 ∨ z = 16 ∨ z = 8) : joinedZ old (low v z) z = setZ old v z := by
  rcases hz with rfl | rfl | rfl | rfl <;> rfl
theorem setZ_range {old v z : Int} (ho : 0 ≤ old ∧ old < 18446744073709551616) (hz : z = 64 ∨ z = 32 ∨ z = 16 ∨ z = 8) : 0 ≤ setZ old v z ∧ setZ old v z < 18446744073709551616 := by
  rcases hz with rfl | rfl | rfl | rfl
  · show 0 ≤ v % 18446744073709551616 ∧ v % 18446744073709551616 < _; omega
  · show 0 ≤ v % 4294967296 ∧ v % 4294967296 < _; omega
  · show 0 ≤ old - old % 65536 + v % 65536 ∧ old - old % 65536 + v % 65536 < _; omega
  · show 0 ≤ old - old % 256 + v % 256 ∧ old - old % 256 + v % 256 < _; omega
theorem DI.octets {w : World} {H : Addr} {o : Obj} {c : List (Int × Int)} (D : DI w H o c) : ∀ p ∈ c, 0 ≤ p.2 ∧ p.2 < 256 := by
  obtain ⟨_, _, _, _, h⟩ := D; exact h
theorem dvd_z {z : Int} (hz : z = 64 ∨ z = 32 ∨ z = 16 ∨ z = 8) : (2 : Int) ^ z.toNat ∣ 18446744073709551616 := by
  rcases hz with rfl | rfl | rfl | rfl <;> decide
theorem low_lowz {v z : Int} (hz : z = 64 ∨ z = 32 ∨ z = 16 ∨ z = 8) : low (low v 64) z = low v z := by
  rw [low64]; exact Int.emod_emod_of_dvd _ (dvd_z hz)
-- what the program does of each way, told as the law tells it
theorem w_pop (ws : List Int) (i v : Int) : (ws.set 4 (low (ws.getD 4 0 + Int.fdiv 64 8) 64)).set i.toNat (joinedZ ((ws.set 4 (low (ws.getD 4 0 + Int.fdiv 64 8) 64)).getD i.toNat 0) (low (low v 64) 64) 64) = (ws.set 4 ((ws.getD 4 0 + 8) % 18446744073709551616)).set i.toNat (v % 18446744073709551616) := by
  rw [joined64, low_low, low64, low64, fd64]
structure Apart (W HD R H dS dFl : Addr) (rest : List (Addr × Obj)) : Prop where
  nWHD : @Ne Nat W HD
  nWR : @Ne Nat W R
  nWH : @Ne Nat W H
  nWdS : @Ne Nat W dS
  nWdFl : @Ne Nat W dFl
  nHDR : @Ne Nat HD R
  nHDH : @Ne Nat HD H
  nHDdS : @Ne Nat HD dS
  nHDdFl : @Ne Nat HD dFl
  nRH : @Ne Nat R H
  nRdS : @Ne Nat R dS
  nRdFl : @Ne Nat R dFl
  nHdS : @Ne Nat H dS
  nHdFl : @Ne Nat H dFl
  ndSdFl : @Ne Nat dS dFl
  rW : ∀ p ∈ rest, p.1 ≠ W
  rHD : ∀ p ∈ rest, p.1 ≠ HD
  rR : ∀ p ∈ rest, p.1 ≠ R
  rH : ∀ p ∈ rest, p.1 ≠ H
  rdS : ∀ p ∈ rest, p.1 ≠ dS
  rdFl : ∀ p ∈ rest, p.1 ≠ dFl
structure Below6 (W HD R H dS dFl lo : Nat) : Prop where
  lW : W < lo
  lHD : HD < lo
  lR : R < lo
  lH : H < lo
  ldS : dS < lo
  ldFl : dFl < lo
section
variable {W HD R H dS dFl : Addr} {rest : List (Addr × Obj)} {oW oD oR oH oS oF : Obj}
theorem led_W (ap : Apart W HD R H dS dFl rest) : UpdF W oW ((W, oW) :: (HD, oD) :: (R, oR) :: (H, oH) :: (dS, oS) :: (dFl, oF) :: rest) (fun o' => (W, o') :: (HD, oD) :: (R, oR) :: (H, oH) :: (dS, oS) :: (dFl, oF) :: rest) := (.head (List.forall_mem_cons.mpr ⟨(fun e => ap.nWHD (Eq.symm e)), (List.forall_mem_cons.mpr ⟨(fun e => ap.nWR (Eq.symm e)), (List.forall_mem_cons.mpr ⟨(fun e => ap.nWH (Eq.symm e)), (List.forall_mem_cons.mpr ⟨(fun e => ap.nWdS (Eq.symm e)), (List.forall_mem_cons.mpr ⟨(fun e => ap.nWdFl (Eq.symm e)), ap.rW⟩)⟩)⟩)⟩)⟩))
theorem led_HD (ap : Apart W HD R H dS dFl rest) : UpdF HD oD ((W, oW) :: (HD, oD) :: (R, oR) :: (H, oH) :: (dS, oS) :: (dFl, oF) :: rest) (fun o' => (W, oW) :: (HD, o') :: (R, oR) :: (H, oH) :: (dS, oS) :: (dFl, oF) :: rest) := (.tail ap.nWHD (.head (List.forall_mem_cons.mpr ⟨(fun e => ap.nHDR (Eq.symm e)), (List.forall_mem_cons.mpr ⟨(fun e => ap.nHDH (Eq.symm e)), (List.forall_mem_cons.mpr ⟨(fun e => ap.nHDdS (Eq.symm e)), (List.forall_mem_cons.mpr ⟨(fun e => ap.nHDdFl (Eq.symm e)), ap.rHD⟩)⟩)⟩)⟩)))
theorem led_R (ap : Apart W HD R H dS dFl rest) : UpdF R oR ((W, oW) :: (HD, oD) :: (R, oR) :: (H, oH) :: (dS, oS) :: (dFl, oF) :: rest) (fun o' => (W, oW) :: (HD, oD) :: (R, o') :: (H, oH) :: (dS, oS) :: (dFl, oF) :: rest) := (.tail ap.nWR (.tail ap.nHDR (.head (List.forall_mem_cons.mpr ⟨(fun e => ap.nRH (Eq.symm e)), (List.forall_mem_cons.mpr ⟨(fun e => ap.nRdS (Eq.symm e)), (List.forall_mem_cons.mpr ⟨(fun e => ap.nRdFl (Eq.symm e)), ap.rR⟩)⟩)⟩))))
theorem led_H (ap : Apart W HD R H dS dFl rest) : UpdF H oH ((W, oW) :: (HD, oD) :: (R, oR) :: (H, oH) :: (dS, oS) :: (dFl, oF) :: rest) (fun o' => (W, oW) :: (HD, oD) :: (R, oR) :: (H, o') :: (dS, oS) :: (dFl, oF) :: rest) := (.tail ap.nWH (.tail ap.nHDH (.tail ap.nRH (.head (List.forall_mem_cons.mpr ⟨(fun e => ap.nHdS (Eq.symm e)), (List.forall_mem_cons.mpr ⟨(fun e => ap.nHdFl (Eq.symm e)), ap.rH⟩)⟩)))))
theorem led_dS (ap : Apart W HD R H dS dFl rest) : UpdF dS oS ((W, oW) :: (HD, oD) :: (R, oR) :: (H, oH) :: (dS, oS) :: (dFl, oF) :: rest) (fun o' => (W, oW) :: (HD, oD) :: (R, oR) :: (H, oH) :: (dS, o') :: (dFl, oF) :: rest) := (.tail ap.nWdS (.tail ap.nHDdS (.tail ap.nRdS (.tail ap.nHdS (.head (List.forall_mem_cons.mpr ⟨(fun e => ap.ndSdFl (Eq.symm e)), ap.rdS⟩))))))
theorem led_dFl (ap : Apart W HD R H dS dFl rest) : UpdF dFl oF ((W, oW) :: (HD, oD) :: (R, oR) :: (H, oH) :: (dS, oS) :: (dFl, oF) :: rest) (fun o' => (W, oW) :: (HD, oD) :: (R, oR) :: (H, oH) :: (dS, oS) :: (dFl, o') :: rest) := (.tail ap.nWdFl (.tail ap.nHDdFl (.tail ap.nRdFl (.tail ap.nHdFl (.tail ap.ndSdFl (.head ap.rdFl))))))
theorem below6 {lo : Addr} (h : ∀ p ∈ (W, oW) :: (HD, oD) :: (R, oR) :: (H, oH) :: (dS, oS) :: (dFl, oF) :: rest, p.1 < lo) : Below6 W HD R H dS dFl lo := ⟨h _ (.head _), h _ hk1, h _ hk2, h _ hk3, h _ hk4, h _ hk5⟩
theorem Apart.add {lo : Addr} {x : Addr} {o : Obj} (ap : Apart W HD R H dS dFl rest) (h : Below6 W HD R H dS dFl lo) (hx : @LE.le Nat _ lo x) : Apart W HD R H dS dFl ((x, o) :: rest) :=
  ⟨ap.nWHD, ap.nWR, ap.nWH, ap.nWdS, ap.nWdFl, ap.nHDR, ap.nHDH, ap.nHDdS, ap.nHDdFl, ap.nRH, ap.nRdS, ap.nRdFl, ap.nHdS, ap.nHdFl, ap.ndSdFl, List.forall_mem_cons.mpr ⟨Nat.ne_of_gt (Nat.lt_of_lt_of_le h.lW hx), ap.rW⟩, List.forall_mem_cons.mpr ⟨Nat.ne_of_gt (Nat.lt_of_lt_of_le h.lHD hx), ap.rHD⟩, List.forall_mem_cons.mpr ⟨Nat.ne_of_gt (Nat.lt_of_lt_of_le h.lR hx), ap.rR⟩, List.forall_mem_cons.mpr ⟨Nat.ne_of_gt (Nat.lt_of_lt_of_le h.lH hx), ap.rH⟩, List.forall_mem_cons.mpr ⟨Nat.ne_of_gt (Nat.lt_of_lt_of_le h.ldS hx), ap.rdS⟩, List.forall_mem_cons.mpr ⟨Nat.ne_of_gt (Nat.lt_of_lt_of_le h.ldFl hx), ap.rdFl⟩⟩
end
noncomputable def Deed (prog : Program) (w : World) (A : Around) (h₀ : Heap) (L : Addr) (f : Value) (args : List Value) (pre : List (Addr × Obj)) (post : List (Addr × Obj) → Prop) : Prop :=
  ∀ (m : Str → Option Value) (s : Shared) (Q E : Value → Shared → Prop), Fr h₀ L s.heap m → News h₀ L s.heap pre → (∀ h' tk' l', post l' → Fr h₀ L h' m → News h₀ L h' l' → Q (.bool true) { s with heap := h', toks := tk' }) → wpAny (model prog w) A (call f args) Q E s
theorem Deed.use {prog : Program} {w : World} {A : Around} {h₀ : Heap} {L : Addr} {f : Value} {args : List Value} {pre : List (Addr × Obj)} {post : List (Addr × Obj) → Prop} {m : Str → Option Value} {s : Shared} {Q E : Value → Shared → Prop} (d : Deed prog w A h₀ L f args pre post) (F : Fr h₀ L s.heap m) (N : News h₀ L s.heap pre)
    (ret : ∀ h' tk' l', post l' → Fr h₀ L h' m → News h₀ L h' l' → Q (.bool true) { s with heap := h', toks := tk' }) : wpAny (model prog w) A (call f args) Q E s := d m s Q E F N ret

inductive After2 (f : List Value → Obj → Tok → Tok → Tok → Tok → Tok → Tok → Tok → List (Addr × Obj)) (P : List Value → Prop) (Q : Obj → Prop) : List (Addr × Obj) → Prop where
  | mk {vsR : List Value} {oH : Obj} {t0 t1 t2 t3 t4 t5 t6 : Tok} (h1 : P vsR) (h2 : Q oH) : After2 f P Q (f vsR oH t0 t1 t2 t3 t4 t5 t6)
inductive After3 (f : List Value → Obj → Tok → Tok → Tok → Tok → Tok → Tok → Tok → Tok → List (Addr × Obj)) (P : List Value → Prop) (Q : Obj → Prop) : List (Addr × Obj) → Prop where
  | mk {vsR : List Value} {oH : Obj} {t t0 t1 t2 t3 t4 t5 t6 : Tok} (h1 : P vsR) (h2 : Q oH) : After3 f P Q (f vsR oH t t0 t1 t2 t3 t4 t5 t6)
theorem sub_move4 {α : Type} {x0 x1 x2 x3 x4 x5 e0 e1 e2 e3 : α} {r : List α} : ∀ p ∈ x0 :: x1 :: x2 :: x3 :: x4 :: x5 :: e0 :: e1 :: e2 :: e3 :: r, p ∈ e0 :: e1 :: e2 :: e3 :: x0 :: x1 :: x2 :: x3 :: x4 :: x5 :: r := (List.forall_mem_cons.mpr ⟨hk4, (List.forall_mem_cons.mpr ⟨hk5, (List.forall_mem_cons.mpr ⟨hk6, (List.forall_mem_cons.mpr ⟨hk7, (List.forall_mem_cons.mpr ⟨hk8, (List.forall_mem_cons.mpr ⟨hk9, (List.forall_mem_cons.mpr ⟨(.head _), (List.forall_mem_cons.mpr ⟨hk1, (List.forall_mem_cons.mpr ⟨hk2, (List.forall_mem_cons.mpr ⟨hk3, (fun p hp => (tk10 hp))⟩)⟩)⟩)⟩)⟩)⟩)⟩)⟩)⟩)⟩)
theorem sub_move5 {α : Type} {x0 x1 x2 x3 x4 x5 e0 e1 e2 e3 e4 : α} {r : List α} : ∀ p ∈ x0 :: x1 :: x2 :: x3 :: x4 :: x5 :: e0 :: e1 :: e2 :: e3 :: e4 :: r, p ∈ e0 :: e1 :: e2 :: e3 :: e4 :: x0 :: x1 :: x2 :: x3 :: x4 :: x5 :: r := (List.forall_mem_cons.mpr ⟨hk5, (List.forall_mem_cons.mpr ⟨hk6, (List.forall_mem_cons.mpr ⟨hk7, (List.forall_mem_cons.mpr ⟨hk8, (List.forall_mem_cons.mpr ⟨hk9, (List.forall_mem_cons.mpr ⟨hk10, (List.forall_mem_cons.mpr ⟨(.head _), (List.forall_mem_cons.mpr ⟨hk1, (List.forall_mem_cons.mpr ⟨hk2, (List.forall_mem_cons.mpr ⟨hk3, (List.forall_mem_cons.mpr ⟨hk4, (fun p hp => (tk11 hp))⟩)⟩)⟩)⟩)⟩)⟩)⟩)⟩)⟩)⟩)⟩)
theorem sub_move6 {α : Type} {x0 x1 x2 x3 x4 x5 e0 e1 e2 e3 e4 e5 : α} {r : List α} : ∀ p ∈ x0 :: x1 :: x2 :: x3 :: x4 :: x5 :: e0 :: e1 :: e2 :: e3 :: e4 :: e5 :: r, p ∈ e0 :: e1 :: e2 :: e3 :: e4 :: e5 :: x0 :: x1 :: x2 :: x3 :: x4 :: x5 :: r := (List.forall_mem_cons.mpr ⟨hk6, (List.forall_mem_cons.mpr ⟨hk7, (List.forall_mem_cons.mpr ⟨hk8, (List.forall_mem_cons.mpr ⟨hk9, (List.forall_mem_cons.mpr ⟨hk10, (List.forall_mem_cons.mpr ⟨hk11, (List.forall_mem_cons.mpr ⟨(.head _), (List.forall_mem_cons.mpr ⟨hk1, (List.forall_mem_cons.mpr ⟨hk2, (List.forall_mem_cons.mpr ⟨hk3, (List.forall_mem_cons.mpr ⟨hk4, (List.forall_mem_cons.mpr ⟨hk5, (fun p hp => (tk12 hp))⟩)⟩)⟩)⟩)⟩)⟩)⟩)⟩)⟩)⟩)⟩)⟩)
theorem sub_move8 {α : Type} {x0 x1 x2 x3 x4 x5 e0 e1 e2 e3 e4 e5 e6 e7 : α} {r : List α} : ∀ p ∈ x0 :: x1 :: x2 :: x3 :: x4 :: x5 :: e0 :: e1 :: e2 :: e3 :: e4 :: e5 :: e6 :: e7 :: r, p ∈ e0 :: e1 :: e2 :: e3 :: e4 :: e5 :: e6 :: e7 :: x0 :: x1 :: x2 :: x3 :: x4 :: x5 :: r := (List.forall_mem_cons.mpr ⟨hk8, (List.forall_mem_cons.mpr ⟨hk9, (List.forall_mem_cons.mpr ⟨hk10, (List.forall_mem_cons.mpr ⟨hk11, (List.forall_mem_cons.mpr ⟨hk12, (List.forall_mem_cons.mpr ⟨hk13, (List.forall_mem_cons.mpr ⟨(.head _), (List.forall_mem_cons.mpr ⟨hk1, (List.forall_mem_cons.mpr ⟨hk2, (List.forall_mem_cons.mpr ⟨hk3, (List.forall_mem_cons.mpr ⟨hk4, (List.forall_mem_cons.mpr ⟨hk5, (List.forall_mem_cons.mpr ⟨hk6, (List.forall_mem_cons.mpr ⟨hk7, (fun p hp => (tk14 hp))⟩)⟩)⟩)⟩)⟩)⟩)⟩)⟩)⟩)⟩)⟩)⟩)⟩)⟩)
section
variable {w : World} {dp un : Nat} {gd : Option (List Code)} {cn : Str} {cs : Scope} {a : Addr} {ccd : Value} {cl : List (Str × Addr)} {outer : List Env} {A₀ : Around} {base h₀ : Heap} {L : Addr} {m : Str → Option Value} {s : Shared} {Q E : Value → Shared → Prop} {p : Program} {loose : List Str} {mean : ExcName → Option Value} {mg mb : Str → Option Value} {W HD Bt : Addr} {vsW : List Value} {nW nB : Nat} {oD : Obj} {tb0 tb1 tb2 tb3 tb4 tb5 tb6 : Tok} {S R Xm Fl Me Sg : Addr} {rip : Int} {trip tbg : Tok} {dS : Addr} {hS0 hS1 hS2 hS3 hS4 hS5 hS6 hS7 hS8 : Int} {kS0 kS1 kS2 kS3 kS4 kS5 kS6 kS7 kS8 : Tok} {vsR : List Value} {ws : List Int} {nR : Nat} {H : Addr} {dMe : Addr} {hMe0 : Int} {kMe0 : Tok} {oH : Obj} {c : List (Int × Int)} {b0 b1 b2 b3 b4 b5 b6 : Int} {tf0 tf1 tf2 tf3 tf4 tf5 tf6 : Tok} {dFl : Addr} {hFl0 hFl1 hFl2 hFl3 hFl4 hFl5 hFl6 : Int} {kFl0 kFl1 kFl2 kFl3 kFl4 kFl5 kFl6 : Tok} {rest : List (Addr × Obj)} {way one other far : Int} {t t1 t2 t3 : Tok} (B : Below A₀ base outer h₀) (F : Fr h₀ L s.heap m) (X : (hd.heap_39 w.params).In h₀) (T : Top p loose mean mg mb h₀) (hk : cs.kind = .function) (N : News h₀ L s.heap ((W, listOf vsW.toArray nW) :: (HD, oD) :: (R, listOf vsR.toArray nR) :: (H, oH) :: (dS, dictOf [⟨hS0, .str (Str.ofString "iset") kS0, .none⟩, ⟨hS1, .str (Str.ofString "regs") kS1, .ref R⟩, ⟨hS2, .str (Str.ofString "xmm") kS2, .ref Xm⟩, ⟨hS3, .str (Str.ofString "flags") kS3, .ref Fl⟩, ⟨hS4, .str (Str.ofString "memory") kS4, .ref Me⟩, ⟨hS5, .str (Str.ofString "rip") kS5, .int rip trip⟩, ⟨hS6, .str (Str.ofString "begin") kS6, .int 0 tbg⟩, ⟨hS7, .str (Str.ofString "segments") kS7, .ref Sg⟩, ⟨hS8, .str (Str.ofString "is_halted") kS8, .bool false⟩] 9) :: (dFl, dictOf [⟨hFl0, .str (Str.ofString "cf") kFl0, .int b0 tf0⟩, ⟨hFl1, .str (Str.ofString "pf") kFl1, .int b1 tf1⟩, ⟨hFl2, .str (Str.ofString "af") kFl2, .int b2 tf2⟩, ⟨hFl3, .str (Str.ofString "zf") kFl3, .int b3 tf3⟩, ⟨hFl4, .str (Str.ofString "sf") kFl4, .int b4 tf4⟩, ⟨hFl5, .str (Str.ofString "of") kFl5, .int b5 tf5⟩, ⟨hFl6, .str (Str.ofString "df") kFl6, .int b6 tf6⟩] 7) :: rest)) (ap : Apart W HD R H dS dFl rest) (mS : (S, instObj 546 dS) ∈ rest) (mF : (Fl, instObj 174 dFl) ∈ rest) (mM : (Me, instObj 429 dMe) ∈ rest) (mMd : (dMe, dictOf [⟨hMe0, .str (Str.ofString "held") kMe0, .ref H⟩] 1) ∈ rest) (mB : (Bt, { cls := .type "tuple", data := .seq (List.toArray [.int b0 tb0, .int b1 tb1, .int b2 tb2, .int b3 tb3, .int b4 tb4, .int b5 tb5, .int b6 tb6]) nB }) ∈ rest) (iW : IntsAre vsW ws) (iR : IntsAre vsR ws) (D1 : DI w HD oD c) (D2 : DI w H oH c) (hb : BitsOK b0 b1 b2 b3 b4 b5 b6) (hws : WOK ws) (hc : c.length ≤ 200) (i0 : 0 ≤ one) (i1 : one < 16) (g0 : -2147483648 ≤ far) (g1 : far < 8589934592) (hun : un + 400 < cLine) (hdp : dp + 18 < recursionLimit)
  (ret : ∀ (I Tq : Addr) (nTq : Nat) (Bt' : Addr) (nB' : Nat) (b0' b1' b2' b3' b4' b5' b6' : Int) (tb0' tb1' tb2' tb3' tb4' tb5' tb6' : Tok) (vsW' : List Value) (oD' : Obj) (ws' : List Int) (c' : List (Int × Int)) (rest' : List (Addr × Obj)) h' tk', Fr h₀ L h' m → News h₀ L h' ((Tq, { cls := .type "tuple", data := .seq (List.toArray [.ref I, .ref Bt']) nTq }) :: (W, listOf vsW'.toArray nW) :: (HD, oD') :: (R, listOf vsR.toArray nR) :: (H, oH) :: (dS, dictOf [⟨hS0, .str (Str.ofString "iset") kS0, .none⟩, ⟨hS1, .str (Str.ofString "regs") kS1, .ref R⟩, ⟨hS2, .str (Str.ofString "xmm") kS2, .ref Xm⟩, ⟨hS3, .str (Str.ofString "flags") kS3, .ref Fl⟩, ⟨hS4, .str (Str.ofString "memory") kS4, .ref Me⟩, ⟨hS5, .str (Str.ofString "rip") kS5, .int rip trip⟩, ⟨hS6, .str (Str.ofString "begin") kS6, .int 0 tbg⟩, ⟨hS7, .str (Str.ofString "segments") kS7, .ref Sg⟩, ⟨hS8, .str (Str.ofString "is_halted") kS8, .bool false⟩] 9) :: (dFl, dictOf [⟨hFl0, .str (Str.ofString "cf") kFl0, .int b0 tf0⟩, ⟨hFl1, .str (Str.ofString "pf") kFl1, .int b1 tf1⟩, ⟨hFl2, .str (Str.ofString "af") kFl2, .int b2 tf2⟩, ⟨hFl3, .str (Str.ofString "zf") kFl3, .int b3 tf3⟩, ⟨hFl4, .str (Str.ofString "sf") kFl4, .int b4 tf4⟩, ⟨hFl5, .str (Str.ofString "of") kFl5, .int b5 tf5⟩, ⟨hFl6, .str (Str.ofString "df") kFl6, .int b6 tf6⟩] 7) :: rest') → Apart W HD R H dS dFl rest' → (∀ p ∈ rest, p ∈ rest') → (Bt', { cls := .type "tuple", data := .seq (List.toArray [.int b0' tb0', .int b1' tb1', .int b2' tb2', .int b3' tb3', .int b4' tb4', .int b5' tb5', .int b6' tb6']) nB' }) ∈ rest' → (Bt' = Bt ∨ ∀ p ∈ rest, p.1 ≠ Bt') → IntsAre vsW' ws' → DI w HD oD' c' → BitsOK b0' b1' b2' b3' b4' b5' b6' → WOK ws' → c'.length ≤ c.length + 8 → Deed PySem.Challenge.rw_nn0065_01.row.prog w (ktrTop dp un gd cn cs L a ccd cl outer) h₀ L (.ref 234) [.ref S, .ref I] ((W, listOf vsW'.toArray nW) :: (HD, oD') :: (R, listOf vsR.toArray nR) :: (H, oH) :: (dS, dictOf [⟨hS0, .str (Str.ofString "iset") kS0, .none⟩, ⟨hS1, .str (Str.ofString "regs") kS1, .ref R⟩, ⟨hS2, .str (Str.ofString "xmm") kS2, .ref Xm⟩, ⟨hS3, .str (Str.ofString "flags") kS3, .ref Fl⟩, ⟨hS4, .str (Str.ofString "memory") kS4, .ref Me⟩, ⟨hS5, .str (Str.ofString "rip") kS5, .int rip trip⟩, ⟨hS6, .str (Str.ofString "begin") kS6, .int 0 tbg⟩, ⟨hS7, .str (Str.ofString "segments") kS7, .ref Sg⟩, ⟨hS8, .str (Str.ofString "is_halted") kS8, .bool false⟩] 9) :: (dFl, dictOf [⟨hFl0, .str (Str.ofString "cf") kFl0, .int b0 tf0⟩, ⟨hFl1, .str (Str.ofString "pf") kFl1, .int b1 tf1⟩, ⟨hFl2, .str (Str.ofString "af") kFl2, .int b2 tf2⟩, ⟨hFl3, .str (Str.ofString "zf") kFl3, .int b3 tf3⟩, ⟨hFl4, .str (Str.ofString "sf") kFl4, .int b4 tf4⟩, ⟨hFl5, .str (Str.ofString "of") kFl5, .int b5 tf5⟩, ⟨hFl6, .str (Str.ofString "df") kFl6, .int b6 tf6⟩] 7) :: rest') (After2 (fun vsR' oH' tf0' tf1' tf2' tf3' tf4' tf5' tf6' => (W, listOf vsW'.toArray nW) :: (HD, oD') :: (R, listOf vsR'.toArray nR) :: (H, oH') :: (dS, dictOf [⟨hS0, .str (Str.ofString "iset") kS0, .none⟩, ⟨hS1, .str (Str.ofString "regs") kS1, .ref R⟩, ⟨hS2, .str (Str.ofString "xmm") kS2, .ref Xm⟩, ⟨hS3, .str (Str.ofString "flags") kS3, .ref Fl⟩, ⟨hS4, .str (Str.ofString "memory") kS4, .ref Me⟩, ⟨hS5, .str (Str.ofString "rip") kS5, .int rip trip⟩, ⟨hS6, .str (Str.ofString "begin") kS6, .int 0 tbg⟩, ⟨hS7, .str (Str.ofString "segments") kS7, .ref Sg⟩, ⟨hS8, .str (Str.ofString "is_halted") kS8, .bool false⟩] 9) :: (dFl, dictOf [⟨hFl0, .str (Str.ofString "cf") kFl0, .int b0' tf0'⟩, ⟨hFl1, .str (Str.ofString "pf") kFl1, .int b1' tf1'⟩, ⟨hFl2, .str (Str.ofString "af") kFl2, .int b2' tf2'⟩, ⟨hFl3, .str (Str.ofString "zf") kFl3, .int b3' tf3'⟩, ⟨hFl4, .str (Str.ofString "sf") kFl4, .int b4' tf4'⟩, ⟨hFl5, .str (Str.ofString "of") kFl5, .int b5' tf5'⟩, ⟨hFl6, .str (Str.ofString "df") kFl6, .int b6' tf6'⟩] 7) :: rest') (fun v => IntsAre v ws') (fun o => DI w H o c')) → Q (.ref Tq) { s with heap := h', toks := tk' })
include B F X T hk N ap mS mF mM mMd mB iW iR D1 D2 hb hws hc i0 i1 g0 g1 hun hdp ret
theorem t_ls0 :
  wpAny (model PySem.Challenge.rw_nn0065_01.row.prog w) (ktrTop dp un gd cn cs L a ccd cl outer) (call (.ref 876) [.int 0 t, .int one t1, .int other t2, .int far t3, .ref HD, .ref W, .ref Bt]) Q E s := by
  refine c_ls0 B F X T hk N hb i0 i1 g0 g1 iW D1 hws.1 (by omega) hun (by omega) (led_W ap) (fun _ => led_HD ap) (fun _ _ => (tk6 mB)) ?_
  intro G dG hG0 hG1 hG2 hG3 kG0 kG1 kG2 kG3 uG0 uG1 uG2 uG3 wG O dO hO0 hO1 kO0 kO1 uO0 Ls nLs I dI hI0 hI1 hI2 kI0 kI1 kI2 uI0 uI1 Tp nTp Tq nTq vs9 o9 h9 tk9 F9 N9 I9 D9 hlt l0 l1 l2 l3 l4 l5 l6 l7
  have lo := below6 hlt
  clear hlt
  have ap2 : Apart W HD R H dS dFl ((Tp, { cls := .type "tuple", data := .seq (List.toArray [.ref O]) nTp }) :: (I, instObj 804 dI) :: (dI, dictOf [⟨hI0, .str (Str.ofString "name") kI0, .str (Str.ofString "push") uI0⟩, ⟨hI1, .str (Str.ofString "operands") kI1, .ref Tp⟩, ⟨hI2, .str (Str.ofString "prefix") kI2, .str (Str.ofString "") uI1⟩] 3) :: (Ls, listOf (List.toArray [.ref O]) nLs) :: (O, instObj 623 dO) :: (dO, dictOf [⟨hO0, .str (Str.ofString "kind") kO0, .str (Str.ofString "reg") uO0⟩, ⟨hO1, .str (Str.ofString "register") kO1, .ref G⟩] 2) :: (G, instObj 314 dG) :: (dG, dictOf [⟨hG0, .str (Str.ofString "name") kG0, .str wG uG0⟩, ⟨hG1, .str (Str.ofString "kind") kG1, .str (Str.ofString "gpr") uG1⟩, ⟨hG2, .str (Str.ofString "number") kG2, .int (one) uG2⟩, ⟨hG3, .str (Str.ofString "size") kG3, .int (64) uG3⟩] 4) :: rest) := (Apart.add (Apart.add (Apart.add (Apart.add (Apart.add (Apart.add (Apart.add (Apart.add ap lo (Nat.le_refl _)) lo (Nat.le_of_lt l0)) lo (Nat.le_of_lt (Nat.lt_trans l0 l5))) lo (Nat.le_of_lt (Nat.lt_trans (Nat.lt_trans l0 l5) l1))) lo (Nat.le_of_lt (Nat.lt_trans (Nat.lt_trans (Nat.lt_trans l0 l5) l1) l6))) lo (Nat.le_of_lt (Nat.lt_trans (Nat.lt_trans (Nat.lt_trans (Nat.lt_trans l0 l5) l1) l6) l4))) lo (Nat.le_of_lt (Nat.lt_trans (Nat.lt_trans (Nat.lt_trans (Nat.lt_trans (Nat.lt_trans l0 l5) l1) l6) l4) l2))) lo (Nat.le_of_lt (Nat.lt_trans (Nat.lt_trans (Nat.lt_trans (Nat.lt_trans (Nat.lt_trans (Nat.lt_trans l0 l5) l1) l6) l4) l2) l3)))
  refine ret I Tq nTq Bt _ _ _ _ _ _ _ _ _ _ _ _ _ _ _ vs9 _ _ _ _ h9 tk9 F9 (news_of N9 ?sN) ap2 (fun p hp => (tk8 hp)) (tk8 mB) (.inl rfl) I9 D9 hb (hws.set 4 (emod64_range _)) (Nat.le_trans (wrM_len _ _ _ _) (by omega)) ?dd
  case sN => exact sub_cons (sub_move8)
  case dd =>
    intro m2 s2 Q2 E2 F2 N2 ret2
    refine c_dpush B F2 X T hk N2 (led_R ap2) (fun _ => led_H ap2) hdp hws.1 i0 i1 (by decide) (by decide) (by omega) (fun _ _ => (tk14 mS)) (fun _ _ => hk4) iR (fun _ _ => (tk14 mM)) (fun _ _ => (tk14 mMd)) D2 (fun _ _ => hk12) (fun _ _ => hk13) (fun _ _ => hk10) (fun _ _ => hk11) (fun _ _ => hk7) (fun _ _ => hk8) (fun _ _ => hk6) ?_
    intro h8 tk8 vsR9 oH9 F8 N8 I' D'
    simp only [low64, fd64] at I'
    simp only [low64, fd64, tn8, Int.emod_emod] at D'
    rw [Int.emod_eq_of_lt (hws.at one.toNat).1 (hws.at one.toNat).2] at D'
    exact ret2 _ _ _ (After2.mk (vsR := vsR9) (oH := oH9) I' D') F8 N8
theorem t_ls1 :
  wpAny (model PySem.Challenge.rw_nn0065_01.row.prog w) (ktrTop dp un gd cn cs L a ccd cl outer) (call (.ref 876) [.int 1 t, .int one t1, .int other t2, .int far t3, .ref HD, .ref W, .ref Bt]) Q E s := by
  refine c_ls1 B F X T hk N hb i0 i1 g0 g1 iW D1 hws.1 (by omega) hun (by omega) (led_W ap) (fun _ => led_HD ap) (fun _ _ => (tk6 mB)) ?_
  intro G dG hG0 hG1 hG2 hG3 kG0 kG1 kG2 kG3 uG0 uG1 uG2 uG3 wG O dO hO0 hO1 kO0 kO1 uO0 Ls nLs I dI hI0 hI1 hI2 kI0 kI1 kI2 uI0 uI1 Tp nTp Tq nTq vs9 o9 h9 tk9 F9 N9 I9 D9 hlt l0 l1 l2 l3 l4 l5 l6 l7
  have lo := below6 hlt
  clear hlt
  have ap2 : Apart W HD R H dS dFl ((Tp, { cls := .type "tuple", data := .seq (List.toArray [.ref O]) nTp }) :: (I, instObj 804 dI) :: (dI, dictOf [⟨hI0, .str (Str.ofString "name") kI0, .str (Str.ofString "push") uI0⟩, ⟨hI1, .str (Str.ofString "operands") kI1, .ref Tp⟩, ⟨hI2, .str (Str.ofString "prefix") kI2, .str (Str.ofString "") uI1⟩] 3) :: (Ls, listOf (List.toArray [.ref O]) nLs) :: (O, instObj 623 dO) :: (dO, dictOf [⟨hO0, .str (Str.ofString "kind") kO0, .str (Str.ofString "reg") uO0⟩, ⟨hO1, .str (Str.ofString "register") kO1, .ref G⟩] 2) :: (G, instObj 314 dG) :: (dG, dictOf [⟨hG0, .str (Str.ofString "name") kG0, .str wG uG0⟩, ⟨hG1, .str (Str.ofString "kind") kG1, .str (Str.ofString "gpr") uG1⟩, ⟨hG2, .str (Str.ofString "number") kG2, .int (one) uG2⟩, ⟨hG3, .str (Str.ofString "size") kG3, .int (16) uG3⟩] 4) :: rest) := (Apart.add (Apart.add (Apart.add (Apart.add (Apart.add (Apart.add (Apart.add (Apart.add ap lo (Nat.le_refl _)) lo (Nat.le_of_lt l0)) lo (Nat.le_of_lt (Nat.lt_trans l0 l5))) lo (Nat.le_of_lt (Nat.lt_trans (Nat.lt_trans l0 l5) l1))) lo (Nat.le_of_lt (Nat.lt_trans (Nat.lt_trans (Nat.lt_trans l0 l5) l1) l6))) lo (Nat.le_of_lt (Nat.lt_trans (Nat.lt_trans (Nat.lt_trans (Nat.lt_trans l0 l5) l1) l6) l4))) lo (Nat.le_of_lt (Nat.lt_trans (Nat.lt_trans (Nat.lt_trans (Nat.lt_trans (Nat.lt_trans l0 l5) l1) l6) l4) l2))) lo (Nat.le_of_lt (Nat.lt_trans (Nat.lt_trans (Nat.lt_trans (Nat.lt_trans (Nat.lt_trans (Nat.lt_trans l0 l5) l1) l6) l4) l2) l3)))
  refine ret I Tq nTq Bt _ _ _ _ _ _ _ _ _ _ _ _ _ _ _ vs9 _ _ _ _ h9 tk9 F9 (news_of N9 ?sN) ap2 (fun p hp => (tk8 hp)) (tk8 mB) (.inl rfl) I9 D9 hb (hws.set 4 (emod64_range _)) (Nat.le_trans (wrM_len _ _ _ _) (by omega)) ?dd
  case sN => exact sub_cons (sub_move8)
  case dd =>
    intro m2 s2 Q2 E2 F2 N2 ret2
    refine c_dpush B F2 X T hk N2 (led_R ap2) (fun _ => led_H ap2) hdp hws.1 i0 i1 (by decide) (by decide) (by omega) (fun _ _ => (tk14 mS)) (fun _ _ => hk4) iR (fun _ _ => (tk14 mM)) (fun _ _ => (tk14 mMd)) D2 (fun _ _ => hk12) (fun _ _ => hk13) (fun _ _ => hk10) (fun _ _ => hk11) (fun _ _ => hk7) (fun _ _ => hk8) (fun _ _ => hk6) ?_
    intro h8 tk8 vsR9 oH9 F8 N8 I' D'
    simp only [low64, fd16] at I'
    simp only [low64, low16, fd16, tn2, Int.emod_emod] at D'
    exact ret2 _ _ _ (After2.mk (vsR := vsR9) (oH := oH9) I' D') F8 N8
theorem t_ls2 :
  wpAny (model PySem.Challenge.rw_nn0065_01.row.prog w) (ktrTop dp un gd cn cs L a ccd cl outer) (call (.ref 876) [.int 2 t, .int one t1, .int other t2, .int far t3, .ref HD, .ref W, .ref Bt]) Q E s := by
  refine c_ls2 B F X T hk N hb i0 i1 g0 g1 iW D1 hws.1 (by omega) hun (by omega) (led_W ap) (fun _ => led_HD ap) (fun _ _ => (tk6 mB)) ?_
  intro O dO hO0 hO1 hO2 kO0 kO1 kO2 uO0 uO1 uO2 Ls nLs I dI hI0 hI1 hI2 kI0 kI1 kI2 uI0 uI1 Tp nTp Tq nTq vs9 o9 h9 tk9 F9 N9 I9 D9 hlt l0 l1 l2 l3 l4 l5
  have lo := below6 hlt
  clear hlt
  have ap2 : Apart W HD R H dS dFl ((Tp, { cls := .type "tuple", data := .seq (List.toArray [.ref O]) nTp }) :: (I, instObj 804 dI) :: (dI, dictOf [⟨hI0, .str (Str.ofString "name") kI0, .str (Str.ofString "push") uI0⟩, ⟨hI1, .str (Str.ofString "operands") kI1, .ref Tp⟩, ⟨hI2, .str (Str.ofString "prefix") kI2, .str (Str.ofString "") uI1⟩] 3) :: (Ls, listOf (List.toArray [.ref O]) nLs) :: (O, instObj 657 dO) :: (dO, dictOf [⟨hO0, .str (Str.ofString "kind") kO0, .str (Str.ofString "imm") uO0⟩, ⟨hO1, .str (Str.ofString "worth") kO1, .int (far) uO1⟩, ⟨hO2, .str (Str.ofString "name") kO2, .str (Str.ofString "") uO2⟩] 3) :: rest) := (Apart.add (Apart.add (Apart.add (Apart.add (Apart.add (Apart.add ap lo (Nat.le_refl _)) lo (Nat.le_of_lt l0)) lo (Nat.le_of_lt (Nat.lt_trans l0 l4))) lo (Nat.le_of_lt (Nat.lt_trans (Nat.lt_trans l0 l4) l3))) lo (Nat.le_of_lt (Nat.lt_trans (Nat.lt_trans (Nat.lt_trans l0 l4) l3) l1))) lo (Nat.le_of_lt (Nat.lt_trans (Nat.lt_trans (Nat.lt_trans (Nat.lt_trans l0 l4) l3) l1) l2)))
  refine ret I Tq nTq Bt _ _ _ _ _ _ _ _ _ _ _ _ _ _ _ vs9 _ _ _ _ h9 tk9 F9 (news_of N9 ?sN) ap2 (fun p hp => (tk6 hp)) (tk6 mB) (.inl rfl) I9 D9 hb (hws.set 4 (emod64_range _)) (Nat.le_trans (wrM_len _ _ _ _) (by omega)) ?dd
  case sN => exact sub_cons (sub_move6)
  case dd =>
    intro m2 s2 Q2 E2 F2 N2 ret2
    refine c_dpushI B F2 X T hk N2 (led_R ap2) (fun _ => led_H ap2) hdp hws.1  (by omega) (fun _ _ => (tk12 mS)) (fun _ _ => hk4) iR (fun _ _ => (tk12 mM)) (fun _ _ => (tk12 mMd)) D2 (fun _ _ => hk10) (fun _ _ => hk11) (fun _ _ => hk7) (fun _ _ => hk8) (fun _ _ => hk6) ?_
    intro h8 tk8 vsR9 oH9 F8 N8 I' D'
    simp only [low64, fd64] at I'
    simp only [low64, fd64, tn8] at D'
    exact ret2 _ _ _ (After2.mk (vsR := vsR9) (oH := oH9) I' D') F8 N8
theorem t_ls3 :
  wpAny (model PySem.Challenge.rw_nn0065_01.row.prog w) (ktrTop dp un gd cn cs L a ccd cl outer) (call (.ref 876) [.int 3 t, .int one t1, .int other t2, .int far t3, .ref HD, .ref W, .ref Bt]) Q E s := by
  refine c_ls3 B F X T hk N hb i0 i1 g0 g1 iW D1 hws.1 (by omega) hun (by omega) (led_W ap) (fun _ => hk1) (fun _ => (tk6 mB)) ?_
  intro G dG hG0 hG1 hG2 hG3 kG0 kG1 kG2 kG3 uG0 uG1 uG2 uG3 wG O dO hO0 hO1 kO0 kO1 uO0 Ls nLs I dI hI0 hI1 hI2 kI0 kI1 kI2 uI0 uI1 Tp nTp Tq nTq vs9  h9 tk9 F9 N9 I9  hlt l0 l1 l2 l3 l4 l5 l6 l7
  have lo := below6 hlt
  clear hlt
  have ap2 : Apart W HD R H dS dFl ((Tp, { cls := .type "tuple", data := .seq (List.toArray [.ref O]) nTp }) :: (I, instObj 804 dI) :: (dI, dictOf [⟨hI0, .str (Str.ofString "name") kI0, .str (Str.ofString "pop") uI0⟩, ⟨hI1, .str (Str.ofString "operands") kI1, .ref Tp⟩, ⟨hI2, .str (Str.ofString "prefix") kI2, .str (Str.ofString "") uI1⟩] 3) :: (Ls, listOf (List.toArray [.ref O]) nLs) :: (O, instObj 623 dO) :: (dO, dictOf [⟨hO0, .str (Str.ofString "kind") kO0, .str (Str.ofString "reg") uO0⟩, ⟨hO1, .str (Str.ofString "register") kO1, .ref G⟩] 2) :: (G, instObj 314 dG) :: (dG, dictOf [⟨hG0, .str (Str.ofString "name") kG0, .str wG uG0⟩, ⟨hG1, .str (Str.ofString "kind") kG1, .str (Str.ofString "gpr") uG1⟩, ⟨hG2, .str (Str.ofString "number") kG2, .int (one) uG2⟩, ⟨hG3, .str (Str.ofString "size") kG3, .int (64) uG3⟩] 4) :: rest) := (Apart.add (Apart.add (Apart.add (Apart.add (Apart.add (Apart.add (Apart.add (Apart.add ap lo (Nat.le_refl _)) lo (Nat.le_of_lt l0)) lo (Nat.le_of_lt (Nat.lt_trans l0 l5))) lo (Nat.le_of_lt (Nat.lt_trans (Nat.lt_trans l0 l5) l1))) lo (Nat.le_of_lt (Nat.lt_trans (Nat.lt_trans (Nat.lt_trans l0 l5) l1) l6))) lo (Nat.le_of_lt (Nat.lt_trans (Nat.lt_trans (Nat.lt_trans (Nat.lt_trans l0 l5) l1) l6) l4))) lo (Nat.le_of_lt (Nat.lt_trans (Nat.lt_trans (Nat.lt_trans (Nat.lt_trans (Nat.lt_trans l0 l5) l1) l6) l4) l2))) lo (Nat.le_of_lt (Nat.lt_trans (Nat.lt_trans (Nat.lt_trans (Nat.lt_trans (Nat.lt_trans (Nat.lt_trans l0 l5) l1) l6) l4) l2) l3)))
  refine ret I Tq nTq Bt _ _ _ _ _ _ _ _ _ _ _ _ _ _ _ vs9 _ _ _ _ h9 tk9 F9 (news_of N9 ?sN) ap2 (fun p hp => (tk8 hp)) (tk8 mB) (.inl rfl) I9 D1 hb ((hws.set 4 (emod64_range _)).set _ (rdM8 D1.octets _)) (Nat.le_add_right _ _) ?dd
  case sN => exact sub_cons (sub_move8)
  case dd =>
    intro m2 s2 Q2 E2 F2 N2 ret2
    refine c_dpop B F2 X T hk N2 (led_R ap2) hdp hws.1 i0 i1 (by decide) (by decide) (fun _ => (tk14 mS)) (fun _ => hk4) iR (fun _ => (tk14 mM)) (fun _ => (tk14 mMd)) (fun _ => hk3) D2 (fun _ => hk12) (fun _ => hk13) (fun _ => hk10) (fun _ => hk11) (fun _ => hk7) (fun _ => hk8) (fun _ => hk6) ?_
    intro h8 tk8 vsR9 F8 N8 I'
    rw [joined64, low64, low64, fd64, tn8, Int.emod_eq_of_lt (rdM8 D2.octets _).1 (rdM8 D2.octets _).2] at I'
    exact ret2 _ _ _ (After2.mk (vsR := vsR9)  I' D2) F8 N8
theorem t_ls4 :
  wpAny (model PySem.Challenge.rw_nn0065_01.row.prog w) (ktrTop dp un gd cn cs L a ccd cl outer) (call (.ref 876) [.int 4 t, .int one t1, .int other t2, .int far t3, .ref HD, .ref W, .ref Bt]) Q E s := by
  refine c_ls4 B F X T hk N hb i0 i1 g0 g1 iW D1 hws.1 (by omega) hun (by omega) (led_W ap) (fun _ => hk1) (fun _ => (tk6 mB)) ?_
  intro G dG hG0 hG1 hG2 hG3 kG0 kG1 kG2 kG3 uG0 uG1 uG2 uG3 wG O dO hO0 hO1 kO0 kO1 uO0 Ls nLs I dI hI0 hI1 hI2 kI0 kI1 kI2 uI0 uI1 Tp nTp Tq nTq vs9  h9 tk9 F9 N9 I9  hlt l0 l1 l2 l3 l4 l5 l6 l7
  have lo := below6 hlt
  clear hlt
  have ap2 : Apart W HD R H dS dFl ((Tp, { cls := .type "tuple", data := .seq (List.toArray [.ref O]) nTp }) :: (I, instObj 804 dI) :: (dI, dictOf [⟨hI0, .str (Str.ofString "name") kI0, .str (Str.ofString "pop") uI0⟩, ⟨hI1, .str (Str.ofString "operands") kI1, .ref Tp⟩, ⟨hI2, .str (Str.ofString "prefix") kI2, .str (Str.ofString "") uI1⟩] 3) :: (Ls, listOf (List.toArray [.ref O]) nLs) :: (O, instObj 623 dO) :: (dO, dictOf [⟨hO0, .str (Str.ofString "kind") kO0, .str (Str.ofString "reg") uO0⟩, ⟨hO1, .str (Str.ofString "register") kO1, .ref G⟩] 2) :: (G, instObj 314 dG) :: (dG, dictOf [⟨hG0, .str (Str.ofString "name") kG0, .str wG uG0⟩, ⟨hG1, .str (Str.ofString "kind") kG1, .str (Str.ofString "gpr") uG1⟩, ⟨hG2, .str (Str.ofString "number") kG2, .int (one) uG2⟩, ⟨hG3, .str (Str.ofString "size") kG3, .int (16) uG3⟩] 4) :: rest) := (Apart.add (Apart.add (Apart.add (Apart.add (Apart.add (Apart.add (Apart.add (Apart.add ap lo (Nat.le_refl _)) lo (Nat.le_of_lt l0)) lo (Nat.le_of_lt (Nat.lt_trans l0 l5))) lo (Nat.le_of_lt (Nat.lt_trans (Nat.lt_trans l0 l5) l1))) lo (Nat.le_of_lt (Nat.lt_trans (Nat.lt_trans (Nat.lt_trans l0 l5) l1) l6))) lo (Nat.le_of_lt (Nat.lt_trans (Nat.lt_trans (Nat.lt_trans (Nat.lt_trans l0 l5) l1) l6) l4))) lo (Nat.le_of_lt (Nat.lt_trans (Nat.lt_trans (Nat.lt_trans (Nat.lt_trans (Nat.lt_trans l0 l5) l1) l6) l4) l2))) lo (Nat.le_of_lt (Nat.lt_trans (Nat.lt_trans (Nat.lt_trans (Nat.lt_trans (Nat.lt_trans (Nat.lt_trans l0 l5) l1) l6) l4) l2) l3)))
  refine ret I Tq nTq Bt _ _ _ _ _ _ _ _ _ _ _ _ _ _ _ vs9 _ _ _ _ h9 tk9 F9 (news_of N9 ?sN) ap2 (fun p hp => (tk8 hp)) (tk8 mB) (.inl rfl) I9 D1 hb ((hws.set 4 (emod64_range _)).set _ (setZ_range ((hws.set 4 (emod64_range _)).at _) (.inr (.inr (.inl rfl))))) (Nat.le_add_right _ _) ?dd
  case sN => exact sub_cons (sub_move8)
  case dd =>
    intro m2 s2 Q2 E2 F2 N2 ret2
    refine c_dpop B F2 X T hk N2 (led_R ap2) hdp hws.1 i0 i1 (by decide) (by decide) (fun _ => (tk14 mS)) (fun _ => hk4) iR (fun _ => (tk14 mM)) (fun _ => (tk14 mMd)) (fun _ => hk3) D2 (fun _ => hk12) (fun _ => hk13) (fun _ => hk10) (fun _ => hk11) (fun _ => hk7) (fun _ => hk8) (fun _ => hk6) ?_
    intro h8 tk8 vsR9 F8 N8 I'
    rw [joined_set (.inr (.inr (.inl rfl))), low64, fd16, tn2] at I'
    exact ret2 _ _ _ (After2.mk (vsR := vsR9)  I' D2) F8 N8
theorem t_ls5 :
  wpAny (model PySem.Challenge.rw_nn0065_01.row.prog w) (ktrTop dp un gd cn cs L a ccd cl outer) (call (.ref 876) [.int 5 t, .int one t1, .int other t2, .int far t3, .ref HD, .ref W, .ref Bt]) Q E s := by
  refine c_ls5 B F X T hk N hb i0 i1 g0 g1 iW D1 hws.1 (by omega) hun (by omega) (led_W ap) (fun _ => led_HD ap) (fun _ _ => (tk6 mB)) ?_
  intro G dG hG0 hG1 hG2 hG3 kG0 kG1 kG2 kG3 uG0 uG1 uG2 uG3 wG O dO hO0 hO1 hO2 hO3 hO4 hO5 hO6 hO7 kO0 kO1 kO2 kO3 kO4 kO5 kO6 kO7 uO0 uO1 uO2 uO3 uO4 uO5 Ls nLs I dI hI0 hI1 hI2 kI0 kI1 kI2 uI0 uI1 Tp nTp Tq nTq vs9 o9 h9 tk9 F9 N9 I9 D9 hlt l0 l1 l2 l3 l4 l5 l6 l7
  have lo := below6 hlt
  clear hlt
  have ap2 : Apart W HD R H dS dFl ((Tp, { cls := .type "tuple", data := .seq (List.toArray [.ref O]) nTp }) :: (I, instObj 804 dI) :: (dI, dictOf [⟨hI0, .str (Str.ofString "name") kI0, .str (Str.ofString "push") uI0⟩, ⟨hI1, .str (Str.ofString "operands") kI1, .ref Tp⟩, ⟨hI2, .str (Str.ofString "prefix") kI2, .str (Str.ofString "") uI1⟩] 3) :: (Ls, listOf (List.toArray [.ref O]) nLs) :: (O, instObj 751 dO) :: (dO, dictOf [⟨hO0, .str (Str.ofString "kind") kO0, .str (Str.ofString "mem") uO0⟩, ⟨hO1, .str (Str.ofString "base") kO1, .ref G⟩, ⟨hO2, .str (Str.ofString "index") kO2, .none⟩, ⟨hO3, .str (Str.ofString "scale") kO3, .int (1) uO1⟩, ⟨hO4, .str (Str.ofString "worth") kO4, .int (far) uO2⟩, ⟨hO5, .str (Str.ofString "size") kO5, .int (64) uO3⟩, ⟨hO6, .str (Str.ofString "segment") kO6, .str (Str.ofString "") uO4⟩, ⟨hO7, .str (Str.ofString "name") kO7, .str (Str.ofString "") uO5⟩] 8) :: (G, instObj 314 dG) :: (dG, dictOf [⟨hG0, .str (Str.ofString "name") kG0, .str wG uG0⟩, ⟨hG1, .str (Str.ofString "kind") kG1, .str (Str.ofString "gpr") uG1⟩, ⟨hG2, .str (Str.ofString "number") kG2, .int (one) uG2⟩, ⟨hG3, .str (Str.ofString "size") kG3, .int (64) uG3⟩] 4) :: rest) := (Apart.add (Apart.add (Apart.add (Apart.add (Apart.add (Apart.add (Apart.add (Apart.add ap lo (Nat.le_refl _)) lo (Nat.le_of_lt l0)) lo (Nat.le_of_lt (Nat.lt_trans l0 l5))) lo (Nat.le_of_lt (Nat.lt_trans (Nat.lt_trans l0 l5) l1))) lo (Nat.le_of_lt (Nat.lt_trans (Nat.lt_trans (Nat.lt_trans l0 l5) l1) l6))) lo (Nat.le_of_lt (Nat.lt_trans (Nat.lt_trans (Nat.lt_trans (Nat.lt_trans l0 l5) l1) l6) l4))) lo (Nat.le_of_lt (Nat.lt_trans (Nat.lt_trans (Nat.lt_trans (Nat.lt_trans (Nat.lt_trans l0 l5) l1) l6) l4) l2))) lo (Nat.le_of_lt (Nat.lt_trans (Nat.lt_trans (Nat.lt_trans (Nat.lt_trans (Nat.lt_trans (Nat.lt_trans l0 l5) l1) l6) l4) l2) l3)))
  refine ret I Tq nTq Bt _ _ _ _ _ _ _ _ _ _ _ _ _ _ _ vs9 _ _ _ _ h9 tk9 F9 (news_of N9 ?sN) ap2 (fun p hp => (tk8 hp)) (tk8 mB) (.inl rfl) I9 D9 hb (hws.set 4 (emod64_range _)) (Nat.le_trans (wrM_len _ _ _ _) (by omega)) ?dd
  case sN => exact sub_cons (sub_move8)
  case dd =>
    intro m2 s2 Q2 E2 F2 N2 ret2
    refine c_dpushM B F2 X T hk N2 (led_R ap2) (fun _ => led_H ap2) hdp hws.1 i0 i1 (by decide) (by decide) (by decide) (by decide) (by omega) (fun _ _ => (tk14 mS)) (fun _ _ => hk4) iR (fun _ _ => (tk14 mM)) (fun _ _ => (tk14 mMd)) D2 (fun _ _ => hk12) (fun _ _ => hk13) (fun _ _ => hk10) (fun _ _ => hk11) (fun _ _ => hk7) (fun _ _ => hk8) (fun _ _ => hk6) ?_
    intro h8 tk8 vsR9 oH9 F8 N8 I' D'
    simp only [low64, fd64] at I'
    rw [place_eq, rdM_mod, low64, fd64, tn8] at D'
    exact ret2 _ _ _ (After2.mk (vsR := vsR9) (oH := oH9) I' D') F8 N8
theorem t_ls6 :
  wpAny (model PySem.Challenge.rw_nn0065_01.row.prog w) (ktrTop dp un gd cn cs L a ccd cl outer) (call (.ref 876) [.int 6 t, .int one t1, .int other t2, .int far t3, .ref HD, .ref W, .ref Bt]) Q E s := by
  refine c_ls6 B F X T hk N hb i0 i1 g0 g1 iW D1 hws.1 (by omega) hun (by omega) (led_W ap) (fun _ => led_HD ap) (fun _ _ => (tk6 mB)) ?_
  intro G dG hG0 hG1 hG2 hG3 kG0 kG1 kG2 kG3 uG0 uG1 uG2 uG3 wG O dO hO0 hO1 hO2 hO3 hO4 hO5 hO6 hO7 kO0 kO1 kO2 kO3 kO4 kO5 kO6 kO7 uO0 uO1 uO2 uO3 uO4 uO5 Ls nLs I dI hI0 hI1 hI2 kI0 kI1 kI2 uI0 uI1 Tp nTp Tq nTq vs9 o9 h9 tk9 F9 N9 I9 D9 hlt l0 l1 l2 l3 l4 l5 l6 l7
  have lo := below6 hlt
  clear hlt
  have ap2 : Apart W HD R H dS dFl ((Tp, { cls := .type "tuple", data := .seq (List.toArray [.ref O]) nTp }) :: (I, instObj 804 dI) :: (dI, dictOf [⟨hI0, .str (Str.ofString "name") kI0, .str (Str.ofString "pop") uI0⟩, ⟨hI1, .str (Str.ofString "operands") kI1, .ref Tp⟩, ⟨hI2, .str (Str.ofString "prefix") kI2, .str (Str.ofString "") uI1⟩] 3) :: (Ls, listOf (List.toArray [.ref O]) nLs) :: (O, instObj 751 dO) :: (dO, dictOf [⟨hO0, .str (Str.ofString "kind") kO0, .str (Str.ofString "mem") uO0⟩, ⟨hO1, .str (Str.ofString "base") kO1, .ref G⟩, ⟨hO2, .str (Str.ofString "index") kO2, .none⟩, ⟨hO3, .str (Str.ofString "scale") kO3, .int (1) uO1⟩, ⟨hO4, .str (Str.ofString "worth") kO4, .int (far) uO2⟩, ⟨hO5, .str (Str.ofString "size") kO5, .int (64) uO3⟩, ⟨hO6, .str (Str.ofString "segment") kO6, .str (Str.ofString "") uO4⟩, ⟨hO7, .str (Str.ofString "name") kO7, .str (Str.ofString "") uO5⟩] 8) :: (G, instObj 314 dG) :: (dG, dictOf [⟨hG0, .str (Str.ofString "name") kG0, .str wG uG0⟩, ⟨hG1, .str (Str.ofString "kind") kG1, .str (Str.ofString "gpr") uG1⟩, ⟨hG2, .str (Str.ofString "number") kG2, .int (one) uG2⟩, ⟨hG3, .str (Str.ofString "size") kG3, .int (64) uG3⟩] 4) :: rest) := (Apart.add (Apart.add (Apart.add (Apart.add (Apart.add (Apart.add (Apart.add (Apart.add ap lo (Nat.le_refl _)) lo (Nat.le_of_lt l0)) lo (Nat.le_of_lt (Nat.lt_trans l0 l5))) lo (Nat.le_of_lt (Nat.lt_trans (Nat.lt_trans l0 l5) l1))) lo (Nat.le_of_lt (Nat.lt_trans (Nat.lt_trans (Nat.lt_trans l0 l5) l1) l6))) lo (Nat.le_of_lt (Nat.lt_trans (Nat.lt_trans (Nat.lt_trans (Nat.lt_trans l0 l5) l1) l6) l4))) lo (Nat.le_of_lt (Nat.lt_trans (Nat.lt_trans (Nat.lt_trans (Nat.lt_trans (Nat.lt_trans l0 l5) l1) l6) l4) l2))) lo (Nat.le_of_lt (Nat.lt_trans (Nat.lt_trans (Nat.lt_trans (Nat.lt_trans (Nat.lt_trans (Nat.lt_trans l0 l5) l1) l6) l4) l2) l3)))
  refine ret I Tq nTq Bt _ _ _ _ _ _ _ _ _ _ _ _ _ _ _ vs9 _ _ _ _ h9 tk9 F9 (news_of N9 ?sN) ap2 (fun p hp => (tk8 hp)) (tk8 mB) (.inl rfl) I9 D9 hb (hws.set 4 (emod64_range _)) (Nat.le_trans (wrM_len _ _ _ _) (by omega)) ?dd
  case sN => exact sub_cons (sub_move8)
  case dd =>
    intro m2 s2 Q2 E2 F2 N2 ret2
    refine c_dpopM B F2 X T hk N2 (led_R ap2) (fun _ => led_H ap2) hdp hws.1 i0 i1 (by decide) (by decide) (by decide) (by decide) (by omega) (fun _ _ => (tk14 mS)) (fun _ _ => hk4) iR (fun _ _ => (tk14 mM)) (fun _ _ => (tk14 mMd)) D2 (fun _ _ => hk12) (fun _ _ => hk13) (fun _ _ => hk10) (fun _ _ => hk11) (fun _ _ => hk7) (fun _ _ => hk8) (fun _ _ => hk6) ?_
    intro h8 tk8 vsR9 oH9 F8 N8 I' D'
    simp only [low64, fd64] at I'
    rw [place_eq, wrM_mod, low64, fd64, tn8] at D'
    exact ret2 _ _ _ (After2.mk (vsR := vsR9) (oH := oH9) I' D') F8 N8
theorem t_ls7 :
  wpAny (model PySem.Challenge.rw_nn0065_01.row.prog w) (ktrTop dp un gd cn cs L a ccd cl outer) (call (.ref 876) [.int 7 t, .int one t1, .int other t2, .int far t3, .ref HD, .ref W, .ref Bt]) Q E s := by
  refine c_ls7 B F X T hk N hb i0 i1 g0 g1 iW D1 hws.1 (by omega) hun (by omega) (led_W ap) (fun _ => led_HD ap) (fun _ _ => (tk6 mB)) ?_
  intro Ls nLs I dI hI0 hI1 hI2 kI0 kI1 kI2 uI0 uI1 Tp nTp Tq nTq vs9 o9 h9 tk9 F9 N9 I9 D9 hlt l0 l1 l2 l3
  have lo := below6 hlt
  clear hlt
  have ap2 : Apart W HD R H dS dFl ((Tp, { cls := .type "tuple", data := .seq (List.toArray []) nTp }) :: (I, instObj 804 dI) :: (dI, dictOf [⟨hI0, .str (Str.ofString "name") kI0, .str (Str.ofString "pushfq") uI0⟩, ⟨hI1, .str (Str.ofString "operands") kI1, .ref Tp⟩, ⟨hI2, .str (Str.ofString "prefix") kI2, .str (Str.ofString "") uI1⟩] 3) :: (Ls, listOf (List.toArray []) nLs) :: rest) := (Apart.add (Apart.add (Apart.add (Apart.add ap lo (Nat.le_refl _)) lo (Nat.le_of_lt l2)) lo (Nat.le_of_lt (Nat.lt_trans l2 l0))) lo (Nat.le_of_lt (Nat.lt_trans (Nat.lt_trans l2 l0) l1)))
  refine ret I Tq nTq Bt _ _ _ _ _ _ _ _ _ _ _ _ _ _ _ vs9 _ _ _ _ h9 tk9 F9 (news_of N9 ?sN) ap2 (fun p hp => (tk4 hp)) (tk4 mB) (.inl rfl) I9 D9 hb (hws.set 4 (emod64_range _)) (Nat.le_trans (wrM_len _ _ _ _) (by omega)) ?dd
  case sN => exact sub_cons (sub_move4)
  case dd =>
    intro m2 s2 Q2 E2 F2 N2 ret2
    refine c_dpushf B F2 X T hk N2 (led_R ap2) (fun _ => led_H ap2) hdp hws.1 hb (by omega) (fun _ _ => (tk10 mS)) (fun _ _ => hk4) iR (fun _ _ => (tk10 mM)) (fun _ _ => (tk10 mMd)) D2 (fun _ _ => (tk10 mF)) (fun _ _ => hk5) (fun _ _ => hk7) (fun _ _ => hk8) (fun _ _ => hk6) ?_
    intro h8 tk8 vsR9 oH9 F8 N8 I' D'
    simp only [low64] at I'
    simp only [low64, tn8] at D'
    exact ret2 _ _ _ (After2.mk (vsR := vsR9) (oH := oH9) I' D') F8 N8
theorem t_ls8 :
  wpAny (model PySem.Challenge.rw_nn0065_01.row.prog w) (ktrTop dp un gd cn cs L a ccd cl outer) (call (.ref 876) [.int 8 t, .int one t1, .int other t2, .int far t3, .ref HD, .ref W, .ref Bt]) Q E s := by
  refine c_ls8 B F X T hk N hb i0 i1 g0 g1 iW D1 hws.1 (by omega) hun (by omega) (led_W ap) (fun _ => hk1) (fun _ => (tk6 mB)) ?_
  intro Ls nLs I dI hI0 hI1 hI2 kI0 kI1 kI2 uI0 uI1 Tp nTp q t0 t1 t2 t3 t4 t5 t6 nq Tq nTq vs9  h9 tk9 F9 N9 I9  hlt l0 l1 l2 l3 l4
  have lo := below6 hlt
  have lo9 : ∀ p ∈ rest, @LT.lt Nat _ p.1 Ls := fun p hp => hlt p (tk6 hp)
  clear hlt
  have ap2 : Apart W HD R H dS dFl ((q, { cls := .type "tuple", data := .seq (List.toArray [.int (bitZ (rdM c (ws.getD 4 0) 8) 0) t0, .int (bitZ (rdM c (ws.getD 4 0) 8) 2) t1, .int (bitZ (rdM c (ws.getD 4 0) 8) 4) t2, .int (bitZ (rdM c (ws.getD 4 0) 8) 6) t3, .int (bitZ (rdM c (ws.getD 4 0) 8) 7) t4, .int (bitZ (rdM c (ws.getD 4 0) 8) 11) t5, .int (bitZ (rdM c (ws.getD 4 0) 8) 10) t6]) nq }) :: (Tp, { cls := .type "tuple", data := .seq (List.toArray []) nTp }) :: (I, instObj 804 dI) :: (dI, dictOf [⟨hI0, .str (Str.ofString "name") kI0, .str (Str.ofString "popfq") uI0⟩, ⟨hI1, .str (Str.ofString "operands") kI1, .ref Tp⟩, ⟨hI2, .str (Str.ofString "prefix") kI2, .str (Str.ofString "") uI1⟩] 3) :: (Ls, listOf (List.toArray []) nLs) :: rest) := (Apart.add (Apart.add (Apart.add (Apart.add (Apart.add ap lo (Nat.le_refl _)) lo (Nat.le_of_lt l2)) lo (Nat.le_of_lt (Nat.lt_trans l2 l0))) lo (Nat.le_of_lt (Nat.lt_trans (Nat.lt_trans l2 l0) l1))) lo (Nat.le_of_lt (Nat.lt_trans (Nat.lt_trans (Nat.lt_trans l2 l0) l1) l3)))
  refine ret I Tq nTq q _ _ _ _ _ _ _ _ _ _ _ _ _ _ _ vs9 _ _ _ _ h9 tk9 F9 (news_of N9 ?sN) ap2 (fun p hp => (tk5 hp)) (.head _) (.inr (fun p hp => Nat.ne_of_lt (by have h1 := lo9 p hp; omega))) I9 D1 ⟨(bitZ_range _ 0).1, (bitZ_range _ 0).2, (bitZ_range _ 2).1, (bitZ_range _ 2).2, (bitZ_range _ 4).1, (bitZ_range _ 4).2, (bitZ_range _ 6).1, (bitZ_range _ 6).2, (bitZ_range _ 7).1, (bitZ_range _ 7).2, (bitZ_range _ 11).1, (bitZ_range _ 11).2, (bitZ_range _ 10).1, (bitZ_range _ 10).2⟩ (hws.set 4 (emod64_range _)) (Nat.le_add_right _ _) ?dd
  case sN => exact sub_cons (sub_move5)
  case dd =>
    intro m2 s2 Q2 E2 F2 N2 ret2
    refine c_dpopf B F2 X T hk N2 (led_R ap2) (fun _ => led_dFl ap2) hdp hws.1 (fun _ _ => (tk11 mS)) (fun _ _ => hk4) iR (fun _ _ => (tk11 mM)) (fun _ _ => (tk11 mMd)) (fun _ _ => hk3) D2 (fun _ _ => (tk11 mF)) (fun _ _ => hk8) (fun _ _ => hk9) (fun _ _ => hk7) ?_
    intro h8 tk8 vsR9 f0 f1 f2 f3 f4 f5 f6 F8 N8 I'
    simp only [low64] at I'
    exact ret2 _ _ _ (After2.mk (vsR := vsR9)  I' D2) F8 N8
theorem t_ls9 :
  wpAny (model PySem.Challenge.rw_nn0065_01.row.prog w) (ktrTop dp un gd cn cs L a ccd cl outer) (call (.ref 876) [.int 9 t, .int one t1, .int other t2, .int far t3, .ref HD, .ref W, .ref Bt]) Q E s := by
  refine c_ls9 B F X T hk N hb i0 i1 g0 g1 iW D1 hws.1 (by omega) hun (by omega) (led_W ap) (fun _ => hk1) (fun _ => (tk6 mB)) ?_
  intro Ls nLs I dI hI0 hI1 hI2 kI0 kI1 kI2 uI0 uI1 Tp nTp Tq nTq vs9  h9 tk9 F9 N9 I9  hlt l0 l1 l2 l3
  have lo := below6 hlt
  clear hlt
  have ap2 : Apart W HD R H dS dFl ((Tp, { cls := .type "tuple", data := .seq (List.toArray []) nTp }) :: (I, instObj 804 dI) :: (dI, dictOf [⟨hI0, .str (Str.ofString "name") kI0, .str (Str.ofString "leave") uI0⟩, ⟨hI1, .str (Str.ofString "operands") kI1, .ref Tp⟩, ⟨hI2, .str (Str.ofString "prefix") kI2, .str (Str.ofString "") uI1⟩] 3) :: (Ls, listOf (List.toArray []) nLs) :: rest) := (Apart.add (Apart.add (Apart.add (Apart.add ap lo (Nat.le_refl _)) lo (Nat.le_of_lt l2)) lo (Nat.le_of_lt (Nat.lt_trans l2 l0))) lo (Nat.le_of_lt (Nat.lt_trans (Nat.lt_trans l2 l0) l1)))
  refine ret I Tq nTq Bt _ _ _ _ _ _ _ _ _ _ _ _ _ _ _ vs9 _ _ _ _ h9 tk9 F9 (news_of N9 ?sN) ap2 (fun p hp => (tk4 hp)) (tk4 mB) (.inl rfl) I9 D1 hb (((hws.set 4 (hws.at 5)).set 4 (emod64_range _)).set 5 (rdM8 D1.octets _)) (Nat.le_add_right _ _) ?dd
  case sN => exact sub_cons (sub_move4)
  case dd =>
    intro m2 s2 Q2 E2 F2 N2 ret2
    refine c_dleave B F2 X T hk N2 (led_R ap2) hdp hws.1  (fun _ => (tk10 mS)) (fun _ => hk4) iR (fun _ => (tk10 mM)) (fun _ => (tk10 mMd)) (fun _ => hk3) D2 (fun _ => hk7) (fun _ => hk8) (fun _ => hk6) ?_
    intro h8 tk8 vsR9 F8 N8 I'
    simp only [low64, tn8] at I'
    exact ret2 _ _ _ (After2.mk (vsR := vsR9)  I' D2) F8 N8
theorem t_ls (w0 : 0 ≤ way) (w1 : way < 10) :
  wpAny (model PySem.Challenge.rw_nn0065_01.row.prog w) (ktrTop dp un gd cn cs L a ccd cl outer) (call (.ref 876) [.int way t, .int one t1, .int other t2, .int far t3, .ref HD, .ref W, .ref Bt]) Q E s := by
  obtain ⟨n, rfl⟩ := Int.eq_ofNat_of_zero_le w0
  have hn : n < 10 := Int.ofNat_lt.mp w1
  clear w0 w1
  match n, hn with
  | 0, _ => exact t_ls0 B F X T hk N ap mS mF mM mMd mB iW iR D1 D2 hb hws hc i0 i1 g0 g1 hun hdp ret
  | 1, _ => exact t_ls1 B F X T hk N ap mS mF mM mMd mB iW iR D1 D2 hb hws hc i0 i1 g0 g1 hun hdp ret
  | 2, _ => exact t_ls2 B F X T hk N ap mS mF mM mMd mB iW iR D1 D2 hb hws hc i0 i1 g0 g1 hun hdp ret
  | 3, _ => exact t_ls3 B F X T hk N ap mS mF mM mMd mB iW iR D1 D2 hb hws hc i0 i1 g0 g1 hun hdp ret
  | 4, _ => exact t_ls4 B F X T hk N ap mS mF mM mMd mB iW iR D1 D2 hb hws hc i0 i1 g0 g1 hun hdp ret
  | 5, _ => exact t_ls5 B F X T hk N ap mS mF mM mMd mB iW iR D1 D2 hb hws hc i0 i1 g0 g1 hun hdp ret
  | 6, _ => exact t_ls6 B F X T hk N ap mS mF mM mMd mB iW iR D1 D2 hb hws hc i0 i1 g0 g1 hun hdp ret
  | 7, _ => exact t_ls7 B F X T hk N ap mS mF mM mMd mB iW iR D1 D2 hb hws hc i0 i1 g0 g1 hun hdp ret
  | 8, _ => exact t_ls8 B F X T hk N ap mS mF mM mMd mB iW iR D1 D2 hb hws hc i0 i1 g0 g1 hun hdp ret
  | 9, _ => exact t_ls9 B F X T hk N ap mS mF mM mMd mB iW iR D1 D2 hb hws hc i0 i1 g0 g1 hun hdp ret
  | n + 10, h => exact absurd h (Nat.not_lt.mpr (Nat.le_add_left 10 n))
end

theorem setZ_low {old v z : Int} (hz : z = 64 ∨ z = 32 ∨ z = 16 ∨ z = 8) : setZ old (low v 64) z = setZ old v z := by
  have h := low_lowz (v := v) hz
  unfold low at h ⊢
  unfold setZ
  rw [h]
theorem xchg_eq {ws : List Int} {z : Int} (hz : z = 64 ∨ z = 32 ∨ z = 16 ∨ z = 8) {i j : Nat} :
    (ws.set i (joinedZ (ws.getD i 0) (low (low (low (ws.getD j 0) z) z) z) z)).set j (joinedZ ((ws.set i (joinedZ (ws.getD i 0) (low (low (low (ws.getD j 0) z) z) z) z)).getD j 0) (low (low (low (ws.getD i 0) z) z) z) z) =
    (ws.set i (setZ (ws.getD i 0) ((ws.getD j 0).fmod (2 ^ z.toNat)) z)).set j (setZ ((ws.set i (setZ (ws.getD i 0) ((ws.getD j 0).fmod (2 ^ z.toNat)) z)).getD j 0) ((ws.getD i 0).fmod (2 ^ z.toNat)) z) := by
  have e : ∀ v : Int, v.fmod (2 ^ z.toNat) = low v z := fun v => fmod_pow2 v _
  rw [e, e, low_low (low (ws.getD j 0) z) z, low_low (low (ws.getD i 0) z) z, joined_set hz, joined_set hz]
theorem lea_eq {ws : List Int} (hws : WOK ws) {z sc far : Int} (hz : z = 64 ∨ z = 32 ∨ z = 16 ∨ z = 8) {i j : Nat} :
    ws.set i (joinedZ (ws.getD i 0) (low (low (far + low (ws.getD (Int.toNat 4) 0) 64 + low (ws.getD j 0) 64 * sc) 64) z) z) = ws.set i (setZ (ws.getD i 0) (ws.getD 4 0 + ws.getD j 0 * sc + far) z) := by
  rw [joined_set hz, setZ_low hz, low64_id (hws.at _), low64_id (hws.at _), Int.add_assoc, Int.add_comm]
  rfl
theorem sub_move12 {α : Type} {x0 x1 x2 x3 x4 x5 e0 e1 e2 e3 e4 e5 e6 e7 e8 e9 e10 e11 : α} {r : List α} : ∀ p ∈ x0 :: x1 :: x2 :: x3 :: x4 :: x5 :: e0 :: e1 :: e2 :: e3 :: e4 :: e5 :: e6 :: e7 :: e8 :: e9 :: e10 :: e11 :: r, p ∈ e0 :: e1 :: e2 :: e3 :: e4 :: e5 :: e6 :: e7 :: e8 :: e9 :: e10 :: e11 :: x0 :: x1 :: x2 :: x3 :: x4 :: x5 :: r := (List.forall_mem_cons.mpr ⟨hk12, (List.forall_mem_cons.mpr ⟨hk13, (List.forall_mem_cons.mpr ⟨hk14, (List.forall_mem_cons.mpr ⟨hk15, (List.forall_mem_cons.mpr ⟨hk16, (List.forall_mem_cons.mpr ⟨hk17, (List.forall_mem_cons.mpr ⟨(.head _), (List.forall_mem_cons.mpr ⟨hk1, (List.forall_mem_cons.mpr ⟨hk2, (List.forall_mem_cons.mpr ⟨hk3, (List.forall_mem_cons.mpr ⟨hk4, (List.forall_mem_cons.mpr ⟨hk5, (List.forall_mem_cons.mpr ⟨hk6, (List.forall_mem_cons.mpr ⟨hk7, (List.forall_mem_cons.mpr ⟨hk8, (List.forall_mem_cons.mpr ⟨hk9, (List.forall_mem_cons.mpr ⟨hk10, (List.forall_mem_cons.mpr ⟨hk11, (fun p hp => (tk18 hp))⟩)⟩)⟩)⟩)⟩)⟩)⟩)⟩)⟩)⟩)⟩)⟩)⟩)⟩)⟩)⟩)⟩)⟩)
theorem sub_move14 {α : Type} {x0 x1 x2 x3 x4 x5 e0 e1 e2 e3 e4 e5 e6 e7 e8 e9 e10 e11 e12 e13 : α} {r : List α} : ∀ p ∈ x0 :: x1 :: x2 :: x3 :: x4 :: x5 :: e0 :: e1 :: e2 :: e3 :: e4 :: e5 :: e6 :: e7 :: e8 :: e9 :: e10 :: e11 :: e12 :: e13 :: r, p ∈ e0 :: e1 :: e2 :: e3 :: e4 :: e5 :: e6 :: e7 :: e8 :: e9 :: e10 :: e11 :: e12 :: e13 :: x0 :: x1 :: x2 :: x3 :: x4 :: x5 :: r := (List.forall_mem_cons.mpr ⟨hk14, (List.forall_mem_cons.mpr ⟨hk15, (List.forall_mem_cons.mpr ⟨hk16, (List.forall_mem_cons.mpr ⟨hk17, (List.forall_mem_cons.mpr ⟨hk18, (List.forall_mem_cons.mpr ⟨hk19, (List.forall_mem_cons.mpr ⟨(.head _), (List.forall_mem_cons.mpr ⟨hk1, (List.forall_mem_cons.mpr ⟨hk2, (List.forall_mem_cons.mpr ⟨hk3, (List.forall_mem_cons.mpr ⟨hk4, (List.forall_mem_cons.mpr ⟨hk5, (List.forall_mem_cons.mpr ⟨hk6, (List.forall_mem_cons.mpr ⟨hk7, (List.forall_mem_cons.mpr ⟨hk8, (List.forall_mem_cons.mpr ⟨hk9, (List.forall_mem_cons.mpr ⟨hk10, (List.forall_mem_cons.mpr ⟨hk11, (List.forall_mem_cons.mpr ⟨hk12, (List.forall_mem_cons.mpr ⟨hk13, (fun p hp => (tk20 hp))⟩)⟩)⟩)⟩)⟩)⟩)⟩)⟩)⟩)⟩)⟩)⟩)⟩)⟩)⟩)⟩)⟩)⟩)⟩)⟩)
section
variable {w : World} {dp un : Nat} {gd : Option (List Code)} {cn : Str} {cs : Scope} {a : Addr} {ccd : Value} {cl : List (Str × Addr)} {outer : List Env} {A₀ : Around} {base h₀ : Heap} {L : Addr} {m : Str → Option Value} {s : Shared} {Q E : Value → Shared → Prop} {p : Program} {loose : List Str} {mean : ExcName → Option Value} {mg mb : Str → Option Value} {W HD Bt : Addr} {vsW : List Value} {nW nB : Nat} {oD : Obj} {tb0 tb1 tb2 tb3 tb4 tb5 tb6 : Tok} {S R Xm Fl Me Sg : Addr} {rip : Int} {trip tbg : Tok} {dS : Addr} {hS0 hS1 hS2 hS3 hS4 hS5 hS6 hS7 hS8 : Int} {kS0 kS1 kS2 kS3 kS4 kS5 kS6 kS7 kS8 : Tok} {vsR : List Value} {ws : List Int} {nR : Nat} {H : Addr} {dMe : Addr} {hMe0 : Int} {kMe0 : Tok} {oH : Obj} {c : List (Int × Int)} {b0 b1 b2 b3 b4 b5 b6 : Int} {tf0 tf1 tf2 tf3 tf4 tf5 tf6 : Tok} {dFl : Addr} {hFl0 hFl1 hFl2 hFl3 hFl4 hFl5 hFl6 : Int} {kFl0 kFl1 kFl2 kFl3 kFl4 kFl5 kFl6 : Tok} {rest : List (Addr × Obj)} {way one other far : Int} {t t1 t2 t3 : Tok} (B : Below A₀ base outer h₀) (F : Fr h₀ L s.heap m) (X : (hd.heap_39 w.params).In h₀) (T : Top p loose mean mg mb h₀) (hk : cs.kind = .function) (N : News h₀ L s.heap ((W, listOf vsW.toArray nW) :: (HD, oD) :: (R, listOf vsR.toArray nR) :: (H, oH) :: (dS, dictOf [⟨hS0, .str (Str.ofString "iset") kS0, .none⟩, ⟨hS1, .str (Str.ofString "regs") kS1, .ref R⟩, ⟨hS2, .str (Str.ofString "xmm") kS2, .ref Xm⟩, ⟨hS3, .str (Str.ofString "flags") kS3, .ref Fl⟩, ⟨hS4, .str (Str.ofString "memory") kS4, .ref Me⟩, ⟨hS5, .str (Str.ofString "rip") kS5, .int rip trip⟩, ⟨hS6, .str (Str.ofString "begin") kS6, .int 0 tbg⟩, ⟨hS7, .str (Str.ofString "segments") kS7, .ref Sg⟩, ⟨hS8, .str (Str.ofString "is_halted") kS8, .bool false⟩] 9) :: (dFl, dictOf [⟨hFl0, .str (Str.ofString "cf") kFl0, .int b0 tf0⟩, ⟨hFl1, .str (Str.ofString "pf") kFl1, .int b1 tf1⟩, ⟨hFl2, .str (Str.ofString "af") kFl2, .int b2 tf2⟩, ⟨hFl3, .str (Str.ofString "zf") kFl3, .int b3 tf3⟩, ⟨hFl4, .str (Str.ofString "sf") kFl4, .int b4 tf4⟩, ⟨hFl5, .str (Str.ofString "of") kFl5, .int b5 tf5⟩, ⟨hFl6, .str (Str.ofString "df") kFl6, .int b6 tf6⟩] 7) :: rest)) (ap : Apart W HD R H dS dFl rest) (mS : (S, instObj 546 dS) ∈ rest) (mF : (Fl, instObj 174 dFl) ∈ rest) (mM : (Me, instObj 429 dMe) ∈ rest) (mMd : (dMe, dictOf [⟨hMe0, .str (Str.ofString "held") kMe0, .ref H⟩] 1) ∈ rest) (mB : (Bt, { cls := .type "tuple", data := .seq (List.toArray [.int b0 tb0, .int b1 tb1, .int b2 tb2, .int b3 tb3, .int b4 tb4, .int b5 tb5, .int b6 tb6]) nB }) ∈ rest) (iW : IntsAre vsW ws) (iR : IntsAre vsR ws) (D1 : DI w HD oD c) (D2 : DI w H oH c) (hb : BitsOK b0 b1 b2 b3 b4 b5 b6) (hws : WOK ws) (hc : c.length ≤ 200) (i0 : 0 ≤ one) (i1 : one < 16) (j0 : 0 ≤ other) (j1 : other < 16) (g0 : -2147483648 ≤ far) (g1 : far < 8589934592) (hun : un + 400 < cLine) (hdp : dp + 18 < recursionLimit)
  (ret : ∀ (I : Addr) (vsW' : List Value) (ws' : List Int) (rest' : List (Addr × Obj)) h' tk', Fr h₀ L h' m → News h₀ L h' ((W, listOf vsW'.toArray nW) :: (HD, oD) :: (R, listOf vsR.toArray nR) :: (H, oH) :: (dS, dictOf [⟨hS0, .str (Str.ofString "iset") kS0, .none⟩, ⟨hS1, .str (Str.ofString "regs") kS1, .ref R⟩, ⟨hS2, .str (Str.ofString "xmm") kS2, .ref Xm⟩, ⟨hS3, .str (Str.ofString "flags") kS3, .ref Fl⟩, ⟨hS4, .str (Str.ofString "memory") kS4, .ref Me⟩, ⟨hS5, .str (Str.ofString "rip") kS5, .int rip trip⟩, ⟨hS6, .str (Str.ofString "begin") kS6, .int 0 tbg⟩, ⟨hS7, .str (Str.ofString "segments") kS7, .ref Sg⟩, ⟨hS8, .str (Str.ofString "is_halted") kS8, .bool false⟩] 9) :: (dFl, dictOf [⟨hFl0, .str (Str.ofString "cf") kFl0, .int b0 tf0⟩, ⟨hFl1, .str (Str.ofString "pf") kFl1, .int b1 tf1⟩, ⟨hFl2, .str (Str.ofString "af") kFl2, .int b2 tf2⟩, ⟨hFl3, .str (Str.ofString "zf") kFl3, .int b3 tf3⟩, ⟨hFl4, .str (Str.ofString "sf") kFl4, .int b4 tf4⟩, ⟨hFl5, .str (Str.ofString "of") kFl5, .int b5 tf5⟩, ⟨hFl6, .str (Str.ofString "df") kFl6, .int b6 tf6⟩] 7) :: rest') → Apart W HD R H dS dFl rest' → (∀ p ∈ rest, p ∈ rest') → IntsAre vsW' ws' → WOK ws' → Deed PySem.Challenge.rw_nn0065_01.row.prog w (ktrTop dp un gd cn cs L a ccd cl outer) h₀ L (.ref 213) [.ref S, .ref I] ((W, listOf vsW'.toArray nW) :: (HD, oD) :: (R, listOf vsR.toArray nR) :: (H, oH) :: (dS, dictOf [⟨hS0, .str (Str.ofString "iset") kS0, .none⟩, ⟨hS1, .str (Str.ofString "regs") kS1, .ref R⟩, ⟨hS2, .str (Str.ofString "xmm") kS2, .ref Xm⟩, ⟨hS3, .str (Str.ofString "flags") kS3, .ref Fl⟩, ⟨hS4, .str (Str.ofString "memory") kS4, .ref Me⟩, ⟨hS5, .str (Str.ofString "rip") kS5, .int rip trip⟩, ⟨hS6, .str (Str.ofString "begin") kS6, .int 0 tbg⟩, ⟨hS7, .str (Str.ofString "segments") kS7, .ref Sg⟩, ⟨hS8, .str (Str.ofString "is_halted") kS8, .bool false⟩] 9) :: (dFl, dictOf [⟨hFl0, .str (Str.ofString "cf") kFl0, .int b0 tf0⟩, ⟨hFl1, .str (Str.ofString "pf") kFl1, .int b1 tf1⟩, ⟨hFl2, .str (Str.ofString "af") kFl2, .int b2 tf2⟩, ⟨hFl3, .str (Str.ofString "zf") kFl3, .int b3 tf3⟩, ⟨hFl4, .str (Str.ofString "sf") kFl4, .int b4 tf4⟩, ⟨hFl5, .str (Str.ofString "of") kFl5, .int b5 tf5⟩, ⟨hFl6, .str (Str.ofString "df") kFl6, .int b6 tf6⟩] 7) :: rest') (After2 (fun vsR' oH' tf0' tf1' tf2' tf3' tf4' tf5' tf6' => (W, listOf vsW'.toArray nW) :: (HD, oD) :: (R, listOf vsR'.toArray nR) :: (H, oH') :: (dS, dictOf [⟨hS0, .str (Str.ofString "iset") kS0, .none⟩, ⟨hS1, .str (Str.ofString "regs") kS1, .ref R⟩, ⟨hS2, .str (Str.ofString "xmm") kS2, .ref Xm⟩, ⟨hS3, .str (Str.ofString "flags") kS3, .ref Fl⟩, ⟨hS4, .str (Str.ofString "memory") kS4, .ref Me⟩, ⟨hS5, .str (Str.ofString "rip") kS5, .int rip trip⟩, ⟨hS6, .str (Str.ofString "begin") kS6, .int 0 tbg⟩, ⟨hS7, .str (Str.ofString "segments") kS7, .ref Sg⟩, ⟨hS8, .str (Str.ofString "is_halted") kS8, .bool false⟩] 9) :: (dFl, dictOf [⟨hFl0, .str (Str.ofString "cf") kFl0, .int b0 tf0'⟩, ⟨hFl1, .str (Str.ofString "pf") kFl1, .int b1 tf1'⟩, ⟨hFl2, .str (Str.ofString "af") kFl2, .int b2 tf2'⟩, ⟨hFl3, .str (Str.ofString "zf") kFl3, .int b3 tf3'⟩, ⟨hFl4, .str (Str.ofString "sf") kFl4, .int b4 tf4'⟩, ⟨hFl5, .str (Str.ofString "of") kFl5, .int b5 tf5'⟩, ⟨hFl6, .str (Str.ofString "df") kFl6, .int b6 tf6'⟩] 7) :: rest') (fun v => IntsAre v ws') (fun o => DI w H o c)) → Q (.ref I) { s with heap := h', toks := tk' })
include B F X T hk N ap mS mF mM mMd mB iW iR D1 D2 hb hws hc i0 i1 j0 j1 g0 g1 hun hdp ret
theorem t_lm10 :
  wpAny (model PySem.Challenge.rw_nn0065_01.row.prog w) (ktrTop dp un gd cn cs L a ccd cl outer) (call (.ref 883) [.int 10 t, .int one t1, .int other t2, .int far t3, .ref W]) Q E s := by
  refine c_lm10 B F X T hk N (led_W ap) i0 i1 j0 j1 g0 g1 iW hws.1 hun (by omega) ?_
  intro G dG hG0 hG1 hG2 hG3 kG0 kG1 kG2 kG3 uG0 uG1 uG2 uG3 wG O dO hO0 hO1 kO0 kO1 uO0 J dJ hJ0 hJ1 hJ2 hJ3 kJ0 kJ1 kJ2 kJ3 uJ0 uJ1 uJ2 uJ3 wJ P dP hP0 hP1 kP0 kP1 uP0 Ls nLs I dI hI0 hI1 hI2 kI0 kI1 kI2 uI0 uI1 Tp nTp vs9 h9 tk9 F9 N9 I9 hlt l0 l1 l2 l3 l4 l5 l6 l7 l8 l9 l10
  have lo := below6 hlt
  clear hlt
  have ap2 : Apart W HD R H dS dFl ((Tp, { cls := .type "tuple", data := .seq (List.toArray [.ref O, .ref P]) nTp }) :: (I, instObj 804 dI) :: (dI, dictOf [⟨hI0, .str (Str.ofString "name") kI0, .str (Str.ofString "mov") uI0⟩, ⟨hI1, .str (Str.ofString "operands") kI1, .ref Tp⟩, ⟨hI2, .str (Str.ofString "prefix") kI2, .str (Str.ofString "") uI1⟩] 3) :: (Ls, listOf (List.toArray [.ref O, .ref P]) nLs) :: (P, instObj 623 dP) :: (dP, dictOf [⟨hP0, .str (Str.ofString "kind") kP0, .str (Str.ofString "reg") uP0⟩, ⟨hP1, .str (Str.ofString "register") kP1, .ref J⟩] 2) :: (J, instObj 314 dJ) :: (dJ, dictOf [⟨hJ0, .str (Str.ofString "name") kJ0, .str wJ uJ0⟩, ⟨hJ1, .str (Str.ofString "kind") kJ1, .str (Str.ofString "gpr") uJ1⟩, ⟨hJ2, .str (Str.ofString "number") kJ2, .int (other) uJ2⟩, ⟨hJ3, .str (Str.ofString "size") kJ3, .int (64) uJ3⟩] 4) :: (O, instObj 623 dO) :: (dO, dictOf [⟨hO0, .str (Str.ofString "kind") kO0, .str (Str.ofString "reg") uO0⟩, ⟨hO1, .str (Str.ofString "register") kO1, .ref G⟩] 2) :: (G, instObj 314 dG) :: (dG, dictOf [⟨hG0, .str (Str.ofString "name") kG0, .str wG uG0⟩, ⟨hG1, .str (Str.ofString "kind") kG1, .str (Str.ofString "gpr") uG1⟩, ⟨hG2, .str (Str.ofString "number") kG2, .int (one) uG2⟩, ⟨hG3, .str (Str.ofString "size") kG3, .int (64) uG3⟩] 4) :: rest) := (Apart.add (Apart.add (Apart.add (Apart.add (Apart.add (Apart.add (Apart.add (Apart.add (Apart.add (Apart.add (Apart.add (Apart.add ap lo (Nat.le_refl _)) lo (Nat.le_of_lt l0)) lo (Nat.le_of_lt (Nat.lt_trans l0 l7))) lo (Nat.le_of_lt (Nat.lt_trans (Nat.lt_trans l0 l7) l1))) lo (Nat.le_of_lt (Nat.lt_trans (Nat.lt_trans (Nat.lt_trans l0 l7) l1) l8))) lo (Nat.le_of_lt (Nat.lt_trans (Nat.lt_trans (Nat.lt_trans (Nat.lt_trans l0 l7) l1) l8) l2))) lo (Nat.le_of_lt (Nat.lt_trans (Nat.lt_trans (Nat.lt_trans (Nat.lt_trans (Nat.lt_trans l0 l7) l1) l8) l2) l9))) lo (Nat.le_of_lt (Nat.lt_trans (Nat.lt_trans (Nat.lt_trans (Nat.lt_trans (Nat.lt_trans (Nat.lt_trans l0 l7) l1) l8) l2) l9) l3))) lo (Nat.le_of_lt (Nat.lt_trans (Nat.lt_trans (Nat.lt_trans (Nat.lt_trans (Nat.lt_trans (Nat.lt_trans (Nat.lt_trans l0 l7) l1) l8) l2) l9) l3) l10))) lo (Nat.le_of_lt (Nat.lt_trans (Nat.lt_trans (Nat.lt_trans (Nat.lt_trans (Nat.lt_trans (Nat.lt_trans (Nat.lt_trans (Nat.lt_trans l0 l7) l1) l8) l2) l9) l3) l10) l6))) lo (Nat.le_of_lt (Nat.lt_trans (Nat.lt_trans (Nat.lt_trans (Nat.lt_trans (Nat.lt_trans (Nat.lt_trans (Nat.lt_trans (Nat.lt_trans (Nat.lt_trans l0 l7) l1) l8) l2) l9) l3) l10) l6) l4))) lo (Nat.le_of_lt (Nat.lt_trans (Nat.lt_trans (Nat.lt_trans (Nat.lt_trans (Nat.lt_trans (Nat.lt_trans (Nat.lt_trans (Nat.lt_trans (Nat.lt_trans (Nat.lt_trans l0 l7) l1) l8) l2) l9) l3) l10) l6) l4) l5)))
  refine ret I vs9 _ _ h9 tk9 F9 (news_of N9 ?sN) ap2 (fun p hp => (tk12 hp)) I9 (hws.set _ (hws.at _)) ?dd
  case sN => exact sub_move12
  case dd =>
    intro m2 s2 Q2 E2 F2 N2 ret2
    refine c_dmov B F2 X T hk N2 (led_R ap2) hdp hws.1 i0 i1 (by decide) (by decide) j0 j1 (by decide) (by decide) (fun _ => (tk18 mS)) (fun _ => hk4) iR (fun _ => hk16) (fun _ => hk17) (fun _ => hk12) (fun _ => hk13) (fun _ => hk14) (fun _ => hk15) (fun _ => hk10) (fun _ => hk11) (fun _ => hk7) (fun _ => hk8) (fun _ => hk6) ?_
    intro h8 tk8 vsR9 F8 N8 I'
    rw [joined64, low_low, low_low, low64_id (hws.at _)] at I'
    exact ret2 _ _ _ (After2.mk (vsR := vsR9) I' D2) F8 N8
theorem t_lm11 :
  wpAny (model PySem.Challenge.rw_nn0065_01.row.prog w) (ktrTop dp un gd cn cs L a ccd cl outer) (call (.ref 883) [.int 11 t, .int one t1, .int other t2, .int far t3, .ref W]) Q E s := by
  refine c_lm11 B F X T hk N (led_W ap) i0 i1 j0 j1 g0 g1 iW hws.1 hun (by omega) ?_
  intro G dG hG0 hG1 hG2 hG3 kG0 kG1 kG2 kG3 uG0 uG1 uG2 uG3 wG O dO hO0 hO1 kO0 kO1 uO0 J dJ hJ0 hJ1 hJ2 hJ3 kJ0 kJ1 kJ2 kJ3 uJ0 uJ1 uJ2 uJ3 wJ P dP hP0 hP1 kP0 kP1 uP0 Ls nLs I dI hI0 hI1 hI2 kI0 kI1 kI2 uI0 uI1 Tp nTp vs9 h9 tk9 F9 N9 I9 hlt l0 l1 l2 l3 l4 l5 l6 l7 l8 l9 l10
  have lo := below6 hlt
  clear hlt
  have ap2 : Apart W HD R H dS dFl ((Tp, { cls := .type "tuple", data := .seq (List.toArray [.ref O, .ref P]) nTp }) :: (I, instObj 804 dI) :: (dI, dictOf [⟨hI0, .str (Str.ofString "name") kI0, .str (Str.ofString "xchg") uI0⟩, ⟨hI1, .str (Str.ofString "operands") kI1, .ref Tp⟩, ⟨hI2, .str (Str.ofString "prefix") kI2, .str (Str.ofString "") uI1⟩] 3) :: (Ls, listOf (List.toArray [.ref O, .ref P]) nLs) :: (P, instObj 623 dP) :: (dP, dictOf [⟨hP0, .str (Str.ofString "kind") kP0, .str (Str.ofString "reg") uP0⟩, ⟨hP1, .str (Str.ofString "register") kP1, .ref J⟩] 2) :: (J, instObj 314 dJ) :: (dJ, dictOf [⟨hJ0, .str (Str.ofString "name") kJ0, .str wJ uJ0⟩, ⟨hJ1, .str (Str.ofString "kind") kJ1, .str (Str.ofString "gpr") uJ1⟩, ⟨hJ2, .str (Str.ofString "number") kJ2, .int (other) uJ2⟩, ⟨hJ3, .str (Str.ofString "size") kJ3, .int ((([64, 32, 16, 8] : List Int).getD (other.fmod 4).toNat 0)) uJ3⟩] 4) :: (O, instObj 623 dO) :: (dO, dictOf [⟨hO0, .str (Str.ofString "kind") kO0, .str (Str.ofString "reg") uO0⟩, ⟨hO1, .str (Str.ofString "register") kO1, .ref G⟩] 2) :: (G, instObj 314 dG) :: (dG, dictOf [⟨hG0, .str (Str.ofString "name") kG0, .str wG uG0⟩, ⟨hG1, .str (Str.ofString "kind") kG1, .str (Str.ofString "gpr") uG1⟩, ⟨hG2, .str (Str.ofString "number") kG2, .int (one) uG2⟩, ⟨hG3, .str (Str.ofString "size") kG3, .int ((([64, 32, 16, 8] : List Int).getD (other.fmod 4).toNat 0)) uG3⟩] 4) :: rest) := (Apart.add (Apart.add (Apart.add (Apart.add (Apart.add (Apart.add (Apart.add (Apart.add (Apart.add (Apart.add (Apart.add (Apart.add ap lo (Nat.le_refl _)) lo (Nat.le_of_lt l0)) lo (Nat.le_of_lt (Nat.lt_trans l0 l7))) lo (Nat.le_of_lt (Nat.lt_trans (Nat.lt_trans l0 l7) l1))) lo (Nat.le_of_lt (Nat.lt_trans (Nat.lt_trans (Nat.lt_trans l0 l7) l1) l8))) lo (Nat.le_of_lt (Nat.lt_trans (Nat.lt_trans (Nat.lt_trans (Nat.lt_trans l0 l7) l1) l8) l2))) lo (Nat.le_of_lt (Nat.lt_trans (Nat.lt_trans (Nat.lt_trans (Nat.lt_trans (Nat.lt_trans l0 l7) l1) l8) l2) l9))) lo (Nat.le_of_lt (Nat.lt_trans (Nat.lt_trans (Nat.lt_trans (Nat.lt_trans (Nat.lt_trans (Nat.lt_trans l0 l7) l1) l8) l2) l9) l3))) lo (Nat.le_of_lt (Nat.lt_trans (Nat.lt_trans (Nat.lt_trans (Nat.lt_trans (Nat.lt_trans (Nat.lt_trans (Nat.lt_trans l0 l7) l1) l8) l2) l9) l3) l10))) lo (Nat.le_of_lt (Nat.lt_trans (Nat.lt_trans (Nat.lt_trans (Nat.lt_trans (Nat.lt_trans (Nat.lt_trans (Nat.lt_trans (Nat.lt_trans l0 l7) l1) l8) l2) l9) l3) l10) l6))) lo (Nat.le_of_lt (Nat.lt_trans (Nat.lt_trans (Nat.lt_trans (Nat.lt_trans (Nat.lt_trans (Nat.lt_trans (Nat.lt_trans (Nat.lt_trans (Nat.lt_trans l0 l7) l1) l8) l2) l9) l3) l10) l6) l4))) lo (Nat.le_of_lt (Nat.lt_trans (Nat.lt_trans (Nat.lt_trans (Nat.lt_trans (Nat.lt_trans (Nat.lt_trans (Nat.lt_trans (Nat.lt_trans (Nat.lt_trans (Nat.lt_trans l0 l7) l1) l8) l2) l9) l3) l10) l6) l4) l5)))
  refine ret I vs9 _ _ h9 tk9 F9 (news_of N9 ?sN) ap2 (fun p hp => (tk12 hp)) I9 ((hws.set _ (setZ_range (hws.at _) (sz_cases other))).set _ (setZ_range ((hws.set _ (setZ_range (hws.at _) (sz_cases other))).at _) (sz_cases other))) ?dd
  case sN => exact sub_move12
  case dd =>
    intro m2 s2 Q2 E2 F2 N2 ret2
    refine c_dxchg B F2 X T hk N2 (led_R ap2) hdp hws.1 i0 i1 (by have h9 := sz_cases other; omega) (by have h9 := sz_cases other; omega) j0 j1 (by have h9 := sz_cases other; omega) (by have h9 := sz_cases other; omega) (fun _ => (tk18 mS)) (fun _ => hk4) iR (fun _ => hk16) (fun _ => hk17) (fun _ => hk12) (fun _ => hk13) (fun _ => hk14) (fun _ => hk15) (fun _ => hk10) (fun _ => hk11) (fun _ => hk7) (fun _ => hk8) (fun _ => hk6) ?_
    intro h8 tk8 vsR9 F8 N8 I'
    rw [xchg_eq (sz_cases other)] at I'
    exact ret2 _ _ _ (After2.mk (vsR := vsR9) I' D2) F8 N8
theorem t_lm12 :
  wpAny (model PySem.Challenge.rw_nn0065_01.row.prog w) (ktrTop dp un gd cn cs L a ccd cl outer) (call (.ref 883) [.int 12 t, .int one t1, .int other t2, .int far t3, .ref W]) Q E s := by
  refine c_lm12 B F X T hk N (led_W ap) i0 i1 j0 j1 g0 g1 iW hws.1 hun (by omega) ?_
  intro G dG hG0 hG1 hG2 hG3 kG0 kG1 kG2 kG3 uG0 uG1 uG2 uG3 wG O dO hO0 hO1 kO0 kO1 uO0 Y dY hY0 hY1 hY2 hY3 kY0 kY1 kY2 kY3 uY0 uY1 uY2 uY3 wY J dJ hJ0 hJ1 hJ2 hJ3 kJ0 kJ1 kJ2 kJ3 uJ0 uJ1 uJ2 uJ3 wJ P dP hP0 hP1 hP2 hP3 hP4 hP5 hP6 hP7 kP0 kP1 kP2 kP3 kP4 kP5 kP6 kP7 uP0 uP1 uP2 uP3 uP4 uP5 Ls nLs I dI hI0 hI1 hI2 kI0 kI1 kI2 uI0 uI1 Tp nTp vs9 h9 tk9 F9 N9 I9 hlt l0 l1 l2 l3 l4 l5 l6 l7 l8 l9 l10 l11 l12
  have lo := below6 hlt
  clear hlt
  have ap2 : Apart W HD R H dS dFl ((Tp, { cls := .type "tuple", data := .seq (List.toArray [.ref O, .ref P]) nTp }) :: (I, instObj 804 dI) :: (dI, dictOf [⟨hI0, .str (Str.ofString "name") kI0, .str (Str.ofString "lea") uI0⟩, ⟨hI1, .str (Str.ofString "operands") kI1, .ref Tp⟩, ⟨hI2, .str (Str.ofString "prefix") kI2, .str (Str.ofString "") uI1⟩] 3) :: (Ls, listOf (List.toArray [.ref O, .ref P]) nLs) :: (P, instObj 751 dP) :: (dP, dictOf [⟨hP0, .str (Str.ofString "kind") kP0, .str (Str.ofString "mem") uP0⟩, ⟨hP1, .str (Str.ofString "base") kP1, .ref Y⟩, ⟨hP2, .str (Str.ofString "index") kP2, .ref J⟩, ⟨hP3, .str (Str.ofString "scale") kP3, .int ((([1, 2, 4, 8] : List Int).getD (far.fmod 4).toNat 0)) uP1⟩, ⟨hP4, .str (Str.ofString "worth") kP4, .int (far) uP2⟩, ⟨hP5, .str (Str.ofString "size") kP5, .int (0) uP3⟩, ⟨hP6, .str (Str.ofString "segment") kP6, .str (Str.ofString "") uP4⟩, ⟨hP7, .str (Str.ofString "name") kP7, .str (Str.ofString "") uP5⟩] 8) :: (J, instObj 314 dJ) :: (dJ, dictOf [⟨hJ0, .str (Str.ofString "name") kJ0, .str wJ uJ0⟩, ⟨hJ1, .str (Str.ofString "kind") kJ1, .str (Str.ofString "gpr") uJ1⟩, ⟨hJ2, .str (Str.ofString "number") kJ2, .int ((if other = 4 then 5 else other)) uJ2⟩, ⟨hJ3, .str (Str.ofString "size") kJ3, .int (64) uJ3⟩] 4) :: (Y, instObj 314 dY) :: (dY, dictOf [⟨hY0, .str (Str.ofString "name") kY0, .str wY uY0⟩, ⟨hY1, .str (Str.ofString "kind") kY1, .str (Str.ofString "gpr") uY1⟩, ⟨hY2, .str (Str.ofString "number") kY2, .int (4) uY2⟩, ⟨hY3, .str (Str.ofString "size") kY3, .int (64) uY3⟩] 4) :: (O, instObj 623 dO) :: (dO, dictOf [⟨hO0, .str (Str.ofString "kind") kO0, .str (Str.ofString "reg") uO0⟩, ⟨hO1, .str (Str.ofString "register") kO1, .ref G⟩] 2) :: (G, instObj 314 dG) :: (dG, dictOf [⟨hG0, .str (Str.ofString "name") kG0, .str wG uG0⟩, ⟨hG1, .str (Str.ofString "kind") kG1, .str (Str.ofString "gpr") uG1⟩, ⟨hG2, .str (Str.ofString "number") kG2, .int (one) uG2⟩, ⟨hG3, .str (Str.ofString "size") kG3, .int ((if (([64, 32, 16, 8] : List Int).getD (other.fmod 4).toNat 0) > 16 then (([64, 32, 16, 8] : List Int).getD (other.fmod 4).toNat 0) else 16)) uG3⟩] 4) :: rest) := (Apart.add (Apart.add (Apart.add (Apart.add (Apart.add (Apart.add (Apart.add (Apart.add (Apart.add (Apart.add (Apart.add (Apart.add (Apart.add (Apart.add ap lo (Nat.le_refl _)) lo (Nat.le_of_lt l0)) lo (Nat.le_of_lt (Nat.lt_trans l0 l8))) lo (Nat.le_of_lt (Nat.lt_trans (Nat.lt_trans l0 l8) l1))) lo (Nat.le_of_lt (Nat.lt_trans (Nat.lt_trans (Nat.lt_trans l0 l8) l1) l9))) lo (Nat.le_of_lt (Nat.lt_trans (Nat.lt_trans (Nat.lt_trans (Nat.lt_trans l0 l8) l1) l9) l2))) lo (Nat.le_of_lt (Nat.lt_trans (Nat.lt_trans (Nat.lt_trans (Nat.lt_trans (Nat.lt_trans l0 l8) l1) l9) l2) l10))) lo (Nat.le_of_lt (Nat.lt_trans (Nat.lt_trans (Nat.lt_trans (Nat.lt_trans (Nat.lt_trans (Nat.lt_trans l0 l8) l1) l9) l2) l10) l3))) lo (Nat.le_of_lt (Nat.lt_trans (Nat.lt_trans (Nat.lt_trans (Nat.lt_trans (Nat.lt_trans (Nat.lt_trans (Nat.lt_trans l0 l8) l1) l9) l2) l10) l3) l11))) lo (Nat.le_of_lt (Nat.lt_trans (Nat.lt_trans (Nat.lt_trans (Nat.lt_trans (Nat.lt_trans (Nat.lt_trans (Nat.lt_trans (Nat.lt_trans l0 l8) l1) l9) l2) l10) l3) l11) l4))) lo (Nat.le_of_lt (Nat.lt_trans (Nat.lt_trans (Nat.lt_trans (Nat.lt_trans (Nat.lt_trans (Nat.lt_trans (Nat.lt_trans (Nat.lt_trans (Nat.lt_trans l0 l8) l1) l9) l2) l10) l3) l11) l4) l12))) lo (Nat.le_of_lt (Nat.lt_trans (Nat.lt_trans (Nat.lt_trans (Nat.lt_trans (Nat.lt_trans (Nat.lt_trans (Nat.lt_trans (Nat.lt_trans (Nat.lt_trans (Nat.lt_trans l0 l8) l1) l9) l2) l10) l3) l11) l4) l12) l7))) lo (Nat.le_of_lt (Nat.lt_trans (Nat.lt_trans (Nat.lt_trans (Nat.lt_trans (Nat.lt_trans (Nat.lt_trans (Nat.lt_trans (Nat.lt_trans (Nat.lt_trans (Nat.lt_trans (Nat.lt_trans l0 l8) l1) l9) l2) l10) l3) l11) l4) l12) l7) l5))) lo (Nat.le_of_lt (Nat.lt_trans (Nat.lt_trans (Nat.lt_trans (Nat.lt_trans (Nat.lt_trans (Nat.lt_trans (Nat.lt_trans (Nat.lt_trans (Nat.lt_trans (Nat.lt_trans (Nat.lt_trans (Nat.lt_trans l0 l8) l1) l9) l2) l10) l3) l11) l4) l12) l7) l5) l6)))
  refine ret I vs9 _ _ h9 tk9 F9 (news_of N9 ?sN) ap2 (fun p hp => (tk14 hp)) I9 (hws.set _ (setZ_range (hws.at _) (mx_cases other))) ?dd
  case sN => exact sub_move14
  case dd =>
    intro m2 s2 Q2 E2 F2 N2 ret2
    refine c_dlea B F2 X T hk N2 (led_R ap2) hdp hws.1 i0 i1 (by have h9 := mx_cases other; omega) (by have h9 := mx_cases other; omega) (by split <;> omega) (by split <;> omega) (by decide) (by decide) (by decide) (by decide) (by decide) (by decide) (by have h9 := sc_cases far; omega) (by have h9 := sc_cases far; omega) (fun _ => (tk20 mS)) (fun _ => hk4) iR (fun _ => hk18) (fun _ => hk19) (fun _ => hk14) (fun _ => hk15) (fun _ => hk12) (fun _ => hk13) (fun _ => hk16) (fun _ => hk17) (fun _ => hk10) (fun _ => hk11) (fun _ => hk7) (fun _ => hk8) (fun _ => hk6) ?_
    intro h8 tk8 vsR9 F8 N8 I'
    rw [lea_eq hws (mx_cases other)] at I'
    exact ret2 _ _ _ (After2.mk (vsR := vsR9) I' D2) F8 N8
theorem t_lm (w0 : 10 ≤ way) (w1 : way < 13) :
  wpAny (model PySem.Challenge.rw_nn0065_01.row.prog w) (ktrTop dp un gd cn cs L a ccd cl outer) (call (.ref 883) [.int way t, .int one t1, .int other t2, .int far t3, .ref W]) Q E s := by
  have hw : way = 10 ∨ way = 11 ∨ way = 12 := by omega
  rcases hw with rfl | rfl | rfl
  · exact t_lm10 B F X T hk N ap mS mF mM mMd mB iW iR D1 D2 hb hws hc i0 i1 j0 j1 g0 g1 hun hdp ret
  · exact t_lm11 B F X T hk N ap mS mF mM mMd mB iW iR D1 D2 hb hws hc i0 i1 j0 j1 g0 g1 hun hdp ret
  · exact t_lm12 B F X T hk N ap mS mF mM mMd mB iW iR D1 D2 hb hws hc i0 i1 j0 j1 g0 g1 hun hdp ret
end

theorem fmod64_range (v : Int) : 0 ≤ v.fmod 18446744073709551616 ∧ v.fmod 18446744073709551616 < 18446744073709551616 := by rw [fmod64]; exact emod64_range v
theorem dict_rip {a b : Int} (e : a = b) {P : Int → List (Addr × Obj)} {h₀ h : Heap} {L : Addr} (N : News h₀ L h (P a)) : News h₀ L h (P b) := e ▸ N
section
variable {w : World} {dp un : Nat} {gd : Option (List Code)} {cn : Str} {cs : Scope} {a : Addr} {ccd : Value} {cl : List (Str × Addr)} {outer : List Env} {A₀ : Around} {base h₀ : Heap} {L : Addr} {m : Str → Option Value} {s : Shared} {Q E : Value → Shared → Prop} {p : Program} {loose : List Str} {mean : ExcName → Option Value} {mg mb : Str → Option Value} {W HD Bt : Addr} {vsW : List Value} {nW nB : Nat} {oD : Obj} {tb0 tb1 tb2 tb3 tb4 tb5 tb6 : Tok} {S R Xm Fl Me Sg : Addr}  {trip tbg : Tok} {dS : Addr} {hS0 hS1 hS2 hS3 hS4 hS5 hS6 hS7 hS8 : Int} {kS0 kS1 kS2 kS3 kS4 kS5 kS6 kS7 kS8 : Tok} {vsR : List Value} {ws : List Int} {nR : Nat} {H : Addr} {dMe : Addr} {hMe0 : Int} {kMe0 : Tok} {oH : Obj} {c : List (Int × Int)} {b0 b1 b2 b3 b4 b5 b6 : Int} {tf0 tf1 tf2 tf3 tf4 tf5 tf6 : Tok} {dFl : Addr} {hFl0 hFl1 hFl2 hFl3 hFl4 hFl5 hFl6 : Int} {kFl0 kFl1 kFl2 kFl3 kFl4 kFl5 kFl6 : Tok} {rest : List (Addr × Obj)} {way one far place : Int} {t t1 t2 t3 : Tok} (B : Below A₀ base outer h₀) (F : Fr h₀ L s.heap m) (X : (hd.heap_39 w.params).In h₀) (T : Top p loose mean mg mb h₀) (hk : cs.kind = .function) (N : News h₀ L s.heap ((W, listOf vsW.toArray nW) :: (HD, oD) :: (R, listOf vsR.toArray nR) :: (H, oH) :: (dS, dictOf [⟨hS0, .str (Str.ofString "iset") kS0, .none⟩, ⟨hS1, .str (Str.ofString "regs") kS1, .ref R⟩, ⟨hS2, .str (Str.ofString "xmm") kS2, .ref Xm⟩, ⟨hS3, .str (Str.ofString "flags") kS3, .ref Fl⟩, ⟨hS4, .str (Str.ofString "memory") kS4, .ref Me⟩, ⟨hS5, .str (Str.ofString "rip") kS5, .int place trip⟩, ⟨hS6, .str (Str.ofString "begin") kS6, .int 0 tbg⟩, ⟨hS7, .str (Str.ofString "segments") kS7, .ref Sg⟩, ⟨hS8, .str (Str.ofString "is_halted") kS8, .bool false⟩] 9) :: (dFl, dictOf [⟨hFl0, .str (Str.ofString "cf") kFl0, .int b0 tf0⟩, ⟨hFl1, .str (Str.ofString "pf") kFl1, .int b1 tf1⟩, ⟨hFl2, .str (Str.ofString "af") kFl2, .int b2 tf2⟩, ⟨hFl3, .str (Str.ofString "zf") kFl3, .int b3 tf3⟩, ⟨hFl4, .str (Str.ofString "sf") kFl4, .int b4 tf4⟩, ⟨hFl5, .str (Str.ofString "of") kFl5, .int b5 tf5⟩, ⟨hFl6, .str (Str.ofString "df") kFl6, .int b6 tf6⟩] 7) :: rest)) (ap : Apart W HD R H dS dFl rest) (mS : (S, instObj 546 dS) ∈ rest) (mF : (Fl, instObj 174 dFl) ∈ rest) (mM : (Me, instObj 429 dMe) ∈ rest) (mMd : (dMe, dictOf [⟨hMe0, .str (Str.ofString "held") kMe0, .ref H⟩] 1) ∈ rest) (mB : (Bt, { cls := .type "tuple", data := .seq (List.toArray [.int b0 tb0, .int b1 tb1, .int b2 tb2, .int b3 tb3, .int b4 tb4, .int b5 tb5, .int b6 tb6]) nB }) ∈ rest) (iW : IntsAre vsW ws) (iR : IntsAre vsR ws) (D1 : DI w HD oD c) (D2 : DI w H oH c) (hb : BitsOK b0 b1 b2 b3 b4 b5 b6) (hws : WOK ws) (hc : c.length ≤ 200) (i0 : 0 ≤ one) (i1 : one < 16) (g0 : -2147483648 ≤ far) (g1 : far < 8589934592) (hun : un + 400 < cLine) (hdp : dp + 18 < recursionLimit)
  (ret : ∀ (I Tq : Addr) (nTq : Nat) (pl' : Int) (tPl : Tok) (vsW' : List Value) (oD' : Obj) (ws' : List Int) (c' : List (Int × Int)) (rest' : List (Addr × Obj)) h' tk', Fr h₀ L h' m → News h₀ L h' ((Tq, { cls := .type "tuple", data := .seq (List.toArray [.ref I, .int pl' tPl]) nTq }) :: (W, listOf vsW'.toArray nW) :: (HD, oD') :: (R, listOf vsR.toArray nR) :: (H, oH) :: (dS, dictOf [⟨hS0, .str (Str.ofString "iset") kS0, .none⟩, ⟨hS1, .str (Str.ofString "regs") kS1, .ref R⟩, ⟨hS2, .str (Str.ofString "xmm") kS2, .ref Xm⟩, ⟨hS3, .str (Str.ofString "flags") kS3, .ref Fl⟩, ⟨hS4, .str (Str.ofString "memory") kS4, .ref Me⟩, ⟨hS5, .str (Str.ofString "rip") kS5, .int place trip⟩, ⟨hS6, .str (Str.ofString "begin") kS6, .int 0 tbg⟩, ⟨hS7, .str (Str.ofString "segments") kS7, .ref Sg⟩, ⟨hS8, .str (Str.ofString "is_halted") kS8, .bool false⟩] 9) :: (dFl, dictOf [⟨hFl0, .str (Str.ofString "cf") kFl0, .int b0 tf0⟩, ⟨hFl1, .str (Str.ofString "pf") kFl1, .int b1 tf1⟩, ⟨hFl2, .str (Str.ofString "af") kFl2, .int b2 tf2⟩, ⟨hFl3, .str (Str.ofString "zf") kFl3, .int b3 tf3⟩, ⟨hFl4, .str (Str.ofString "sf") kFl4, .int b4 tf4⟩, ⟨hFl5, .str (Str.ofString "of") kFl5, .int b5 tf5⟩, ⟨hFl6, .str (Str.ofString "df") kFl6, .int b6 tf6⟩] 7) :: rest') → Apart W HD R H dS dFl rest' → (∀ p ∈ rest, p ∈ rest') → IntsAre vsW' ws' → DI w HD oD' c' → WOK ws' → c'.length ≤ c.length + 8 → Deed PySem.Challenge.rw_nn0065_01.row.prog w (ktrTop dp un gd cn cs L a ccd cl outer) h₀ L (.ref 262) [.ref S, .ref I] ((W, listOf vsW'.toArray nW) :: (HD, oD') :: (R, listOf vsR.toArray nR) :: (H, oH) :: (dS, dictOf [⟨hS0, .str (Str.ofString "iset") kS0, .none⟩, ⟨hS1, .str (Str.ofString "regs") kS1, .ref R⟩, ⟨hS2, .str (Str.ofString "xmm") kS2, .ref Xm⟩, ⟨hS3, .str (Str.ofString "flags") kS3, .ref Fl⟩, ⟨hS4, .str (Str.ofString "memory") kS4, .ref Me⟩, ⟨hS5, .str (Str.ofString "rip") kS5, .int place trip⟩, ⟨hS6, .str (Str.ofString "begin") kS6, .int 0 tbg⟩, ⟨hS7, .str (Str.ofString "segments") kS7, .ref Sg⟩, ⟨hS8, .str (Str.ofString "is_halted") kS8, .bool false⟩] 9) :: (dFl, dictOf [⟨hFl0, .str (Str.ofString "cf") kFl0, .int b0 tf0⟩, ⟨hFl1, .str (Str.ofString "pf") kFl1, .int b1 tf1⟩, ⟨hFl2, .str (Str.ofString "af") kFl2, .int b2 tf2⟩, ⟨hFl3, .str (Str.ofString "zf") kFl3, .int b3 tf3⟩, ⟨hFl4, .str (Str.ofString "sf") kFl4, .int b4 tf4⟩, ⟨hFl5, .str (Str.ofString "of") kFl5, .int b5 tf5⟩, ⟨hFl6, .str (Str.ofString "df") kFl6, .int b6 tf6⟩] 7) :: rest') (After3 (fun vsR' oH' trip' tf0' tf1' tf2' tf3' tf4' tf5' tf6' => (W, listOf vsW'.toArray nW) :: (HD, oD') :: (R, listOf vsR'.toArray nR) :: (H, oH') :: (dS, dictOf [⟨hS0, .str (Str.ofString "iset") kS0, .none⟩, ⟨hS1, .str (Str.ofString "regs") kS1, .ref R⟩, ⟨hS2, .str (Str.ofString "xmm") kS2, .ref Xm⟩, ⟨hS3, .str (Str.ofString "flags") kS3, .ref Fl⟩, ⟨hS4, .str (Str.ofString "memory") kS4, .ref Me⟩, ⟨hS5, .str (Str.ofString "rip") kS5, .int pl' trip'⟩, ⟨hS6, .str (Str.ofString "begin") kS6, .int 0 tbg⟩, ⟨hS7, .str (Str.ofString "segments") kS7, .ref Sg⟩, ⟨hS8, .str (Str.ofString "is_halted") kS8, .bool false⟩] 9) :: (dFl, dictOf [⟨hFl0, .str (Str.ofString "cf") kFl0, .int b0 tf0'⟩, ⟨hFl1, .str (Str.ofString "pf") kFl1, .int b1 tf1'⟩, ⟨hFl2, .str (Str.ofString "af") kFl2, .int b2 tf2'⟩, ⟨hFl3, .str (Str.ofString "zf") kFl3, .int b3 tf3'⟩, ⟨hFl4, .str (Str.ofString "sf") kFl4, .int b4 tf4'⟩, ⟨hFl5, .str (Str.ofString "of") kFl5, .int b5 tf5'⟩, ⟨hFl6, .str (Str.ofString "df") kFl6, .int b6 tf6'⟩] 7) :: rest') (fun v => IntsAre v ws') (fun o => DI w H o c')) → Q (.ref Tq) { s with heap := h', toks := tk' })
include B F X T hk N ap mS mF mM mMd mB iW iR D1 D2 hb hws hc i0 i1 g0 g1 hun hdp ret
theorem t_lf13  :
  wpAny (model PySem.Challenge.rw_nn0065_01.row.prog w) (ktrTop dp un gd cn cs L a ccd cl outer) (call (.ref 890) [.int 13 t, .int one t1, .int far t2, .ref HD, .ref W, .int place t3]) Q E s := by
  refine c_lf13 B F X T hk N i0 i1 g0 g1 iW D1 hws.1 (by omega) hun (by omega) (led_W ap) (fun _ => led_HD ap) ?_
  intro O dO hO0 hO1 hO2 kO0 kO1 kO2 uO0 uO1 uO2 Ls nLs I dI hI0 hI1 hI2 kI0 kI1 kI2 uI0 uI1 Tp nTp Tq nTq tPl vs9 o9 h9 tk9 F9 N9 I9 D9 hlt l0 l1 l2 l3 l4 l5
  have lo := below6 hlt
  clear hlt
  have ap2 : Apart W HD R H dS dFl ((Tp, { cls := .type "tuple", data := .seq (List.toArray [.ref O]) nTp }) :: (I, instObj 804 dI) :: (dI, dictOf [⟨hI0, .str (Str.ofString "name") kI0, .str (Str.ofString "call") uI0⟩, ⟨hI1, .str (Str.ofString "operands") kI1, .ref Tp⟩, ⟨hI2, .str (Str.ofString "prefix") kI2, .str (Str.ofString "") uI1⟩] 3) :: (Ls, listOf (List.toArray [.ref O]) nLs) :: (O, instObj 698 dO) :: (dO, dictOf [⟨hO0, .str (Str.ofString "kind") kO0, .str (Str.ofString "rel") uO0⟩, ⟨hO1, .str (Str.ofString "worth") kO1, .int (far) uO1⟩, ⟨hO2, .str (Str.ofString "name") kO2, .str (Str.ofString "") uO2⟩] 3) :: rest) := (Apart.add (Apart.add (Apart.add (Apart.add (Apart.add (Apart.add ap lo (Nat.le_refl _)) lo (Nat.le_of_lt l0)) lo (Nat.le_of_lt (Nat.lt_trans l0 l4))) lo (Nat.le_of_lt (Nat.lt_trans (Nat.lt_trans l0 l4) l3))) lo (Nat.le_of_lt (Nat.lt_trans (Nat.lt_trans (Nat.lt_trans l0 l4) l3) l1))) lo (Nat.le_of_lt (Nat.lt_trans (Nat.lt_trans (Nat.lt_trans (Nat.lt_trans l0 l4) l3) l1) l2)))
  refine ret I Tq nTq (((place + far).fmod 18446744073709551616)) tPl vs9 _ _ _ _ h9 tk9 F9 (news_of N9 ?sN) ap2 (fun p hp => (tk6 hp)) I9 D9 (hws.set 4 (emod64_range _)) (Nat.le_trans (wrM_len _ _ _ _) (by omega)) ?dd
  case sN => exact sub_cons sub_move6
  case dd =>
    intro m2 s2 Q2 E2 F2 N2 ret2
    refine c_dcallL B F2 X T hk N2 (led_R ap2) (fun _ => led_H ap2) (fun _ _ => led_dS ap2) hdp hws.1  (by omega) hk4 (fun _ _ _ => (tk12 mS)) iR (fun _ _ _ => (tk12 mM)) (fun _ _ _ => (tk12 mMd)) D2 (fun _ _ _ => hk10) (fun _ _ _ => hk11) (fun _ _ _ => hk7) (fun _ _ _ => hk8) (fun _ _ _ => hk6) ?_
    intro h8 tk8 vsR9 oH9 t9 F8 N8 I' D'
    simp only [low64] at I' D'
    refine ret2 _ _ _ (After3.mk (vsR := vsR9) (oH := oH9) (t := t9) (t0 := tf0) (t1 := tf1) (t2 := tf2) (t3 := tf3) (t4 := tf4) (t5 := tf5) (t6 := tf6) I' D') F8 ?nn
    case nn => rw [show _ = _ from (low64 _).trans (fmod64 _).symm] at N8; exact N8
theorem t_lf14  :
  wpAny (model PySem.Challenge.rw_nn0065_01.row.prog w) (ktrTop dp un gd cn cs L a ccd cl outer) (call (.ref 890) [.int 14 t, .int one t1, .int far t2, .ref HD, .ref W, .int place t3]) Q E s := by
  refine c_lf14 B F X T hk N i0 i1 g0 g1 iW D1 hws.1 (by omega) hun (by omega) (led_W ap) (fun _ => led_HD ap) ?_
  intro G dG hG0 hG1 hG2 hG3 kG0 kG1 kG2 kG3 uG0 uG1 uG2 uG3 wG O dO hO0 hO1 kO0 kO1 uO0 Ls nLs I dI hI0 hI1 hI2 kI0 kI1 kI2 uI0 uI1 Tp nTp Tq nTq tPl vs9 o9 h9 tk9 F9 N9 I9 D9 hlt l0 l1 l2 l3 l4 l5 l6 l7
  have lo := below6 hlt
  clear hlt
  have ap2 : Apart W HD R H dS dFl ((Tp, { cls := .type "tuple", data := .seq (List.toArray [.ref O]) nTp }) :: (I, instObj 804 dI) :: (dI, dictOf [⟨hI0, .str (Str.ofString "name") kI0, .str (Str.ofString "call") uI0⟩, ⟨hI1, .str (Str.ofString "operands") kI1, .ref Tp⟩, ⟨hI2, .str (Str.ofString "prefix") kI2, .str (Str.ofString "") uI1⟩] 3) :: (Ls, listOf (List.toArray [.ref O]) nLs) :: (O, instObj 623 dO) :: (dO, dictOf [⟨hO0, .str (Str.ofString "kind") kO0, .str (Str.ofString "reg") uO0⟩, ⟨hO1, .str (Str.ofString "register") kO1, .ref G⟩] 2) :: (G, instObj 314 dG) :: (dG, dictOf [⟨hG0, .str (Str.ofString "name") kG0, .str wG uG0⟩, ⟨hG1, .str (Str.ofString "kind") kG1, .str (Str.ofString "gpr") uG1⟩, ⟨hG2, .str (Str.ofString "number") kG2, .int (one) uG2⟩, ⟨hG3, .str (Str.ofString "size") kG3, .int (64) uG3⟩] 4) :: rest) := (Apart.add (Apart.add (Apart.add (Apart.add (Apart.add (Apart.add (Apart.add (Apart.add ap lo (Nat.le_refl _)) lo (Nat.le_of_lt l0)) lo (Nat.le_of_lt (Nat.lt_trans l0 l5))) lo (Nat.le_of_lt (Nat.lt_trans (Nat.lt_trans l0 l5) l1))) lo (Nat.le_of_lt (Nat.lt_trans (Nat.lt_trans (Nat.lt_trans l0 l5) l1) l6))) lo (Nat.le_of_lt (Nat.lt_trans (Nat.lt_trans (Nat.lt_trans (Nat.lt_trans l0 l5) l1) l6) l4))) lo (Nat.le_of_lt (Nat.lt_trans (Nat.lt_trans (Nat.lt_trans (Nat.lt_trans (Nat.lt_trans l0 l5) l1) l6) l4) l2))) lo (Nat.le_of_lt (Nat.lt_trans (Nat.lt_trans (Nat.lt_trans (Nat.lt_trans (Nat.lt_trans (Nat.lt_trans l0 l5) l1) l6) l4) l2) l3)))
  refine ret I Tq nTq (ws.getD one.toNat 0) tPl vs9 _ _ _ _ h9 tk9 F9 (news_of N9 ?sN) ap2 (fun p hp => (tk8 hp)) I9 D9 (hws.set 4 (emod64_range _)) (Nat.le_trans (wrM_len _ _ _ _) (by omega)) ?dd
  case sN => exact sub_cons sub_move8
  case dd =>
    intro m2 s2 Q2 E2 F2 N2 ret2
    refine c_dcallR B F2 X T hk N2 (led_R ap2) (fun _ => led_H ap2) (fun _ _ => led_dS ap2) hdp hws.1 i0 i1 (by decide) (by decide) (by omega) hk4 (fun _ _ _ => (tk14 mS)) iR (fun _ _ _ => (tk14 mM)) (fun _ _ _ => (tk14 mMd)) D2 (fun _ _ _ => hk12) (fun _ _ _ => hk13) (fun _ _ _ => hk10) (fun _ _ _ => hk11) (fun _ _ _ => hk7) (fun _ _ _ => hk8) (fun _ _ _ => hk6) ?_
    intro h8 tk8 vsR9 oH9 t9 F8 N8 I' D'
    simp only [low64] at I' D'
    refine ret2 _ _ _ (After3.mk (vsR := vsR9) (oH := oH9) (t := t9) (t0 := tf0) (t1 := tf1) (t2 := tf2) (t3 := tf3) (t4 := tf4) (t5 := tf5) (t6 := tf6) I' D') F8 ?nn
    case nn => rw [show _ = _ from (low_low _ _).trans (low64_id (hws.at _))] at N8; exact N8
theorem t_lf15a (hf : far % 2 = 0) :
  wpAny (model PySem.Challenge.rw_nn0065_01.row.prog w) (ktrTop dp un gd cn cs L a ccd cl outer) (call (.ref 890) [.int 15 t, .int one t1, .int far t2, .ref HD, .ref W, .int place t3]) Q E s := by
  refine c_lf15a B F X T hk N i0 i1 g0 g1 hf iW D1 hws.1 (by omega) hun (by omega) (led_W ap) (fun _ => hk1) ?_
  intro Ls nLs I dI hI0 hI1 hI2 kI0 kI1 kI2 uI0 uI1 Tp nTp Tq nTq tPl vs9  h9 tk9 F9 N9 I9  hlt l0 l1 l2 l3
  have lo := below6 hlt
  clear hlt
  have ap2 : Apart W HD R H dS dFl ((Tp, { cls := .type "tuple", data := .seq (List.toArray []) nTp }) :: (I, instObj 804 dI) :: (dI, dictOf [⟨hI0, .str (Str.ofString "name") kI0, .str (Str.ofString "ret") uI0⟩, ⟨hI1, .str (Str.ofString "operands") kI1, .ref Tp⟩, ⟨hI2, .str (Str.ofString "prefix") kI2, .str (Str.ofString "") uI1⟩] 3) :: (Ls, listOf (List.toArray []) nLs) :: rest) := (Apart.add (Apart.add (Apart.add (Apart.add ap lo (Nat.le_refl _)) lo (Nat.le_of_lt l2)) lo (Nat.le_of_lt (Nat.lt_trans l2 l0))) lo (Nat.le_of_lt (Nat.lt_trans (Nat.lt_trans l2 l0) l1)))
  refine ret I Tq nTq (rdM c (ws.getD 4 0) 8) tPl vs9 _ _ _ _ h9 tk9 F9 (news_of N9 ?sN) ap2 (fun p hp => (tk4 hp)) I9 D1 (hws.set 4 (emod64_range _)) (Nat.le_add_right _ _) ?dd
  case sN => exact sub_cons sub_move4
  case dd =>
    intro m2 s2 Q2 E2 F2 N2 ret2
    refine c_dret B F2 X T hk N2 (led_R ap2) (fun _ => led_dS ap2) hdp hws.1  hk4 (fun _ _ => (tk10 mS)) iR (fun _ _ => (tk10 mM)) (fun _ _ => (tk10 mMd)) (fun _ _ => hk3) D2 (fun _ _ => hk7) (fun _ _ => hk8) (fun _ _ => hk6) ?_
    intro h8 tk8 vsR9 t9 F8 N8 I'
    simp only [low64] at I'
    refine ret2 _ _ _ (After3.mk (vsR := vsR9) (oH := oH) (t := t9) (t0 := tf0) (t1 := tf1) (t2 := tf2) (t3 := tf3) (t4 := tf4) (t5 := tf5) (t6 := tf6) I' D2) F8 ?nn
    case nn => exact N8
theorem t_lf15b (hf : far % 2 = 1) :
  wpAny (model PySem.Challenge.rw_nn0065_01.row.prog w) (ktrTop dp un gd cn cs L a ccd cl outer) (call (.ref 890) [.int 15 t, .int one t1, .int far t2, .ref HD, .ref W, .int place t3]) Q E s := by
  refine c_lf15b B F X T hk N i0 i1 g0 g1 hf iW D1 hws.1 (by omega) hun (by omega) (led_W ap) (fun _ => hk1) ?_
  intro O dO hO0 hO1 hO2 kO0 kO1 kO2 uO0 uO1 uO2 Ls nLs I dI hI0 hI1 hI2 kI0 kI1 kI2 uI0 uI1 Tp nTp Tq nTq tPl vs9  h9 tk9 F9 N9 I9  hlt l0 l1 l2 l3 l4 l5
  have lo := below6 hlt
  clear hlt
  have ap2 : Apart W HD R H dS dFl ((Tp, { cls := .type "tuple", data := .seq (List.toArray [.ref O]) nTp }) :: (I, instObj 804 dI) :: (dI, dictOf [⟨hI0, .str (Str.ofString "name") kI0, .str (Str.ofString "ret") uI0⟩, ⟨hI1, .str (Str.ofString "operands") kI1, .ref Tp⟩, ⟨hI2, .str (Str.ofString "prefix") kI2, .str (Str.ofString "") uI1⟩] 3) :: (Ls, listOf (List.toArray [.ref O]) nLs) :: (O, instObj 657 dO) :: (dO, dictOf [⟨hO0, .str (Str.ofString "kind") kO0, .str (Str.ofString "imm") uO0⟩, ⟨hO1, .str (Str.ofString "worth") kO1, .int (far.fmod 65536) uO1⟩, ⟨hO2, .str (Str.ofString "name") kO2, .str (Str.ofString "") uO2⟩] 3) :: rest) := (Apart.add (Apart.add (Apart.add (Apart.add (Apart.add (Apart.add ap lo (Nat.le_refl _)) lo (Nat.le_of_lt l0)) lo (Nat.le_of_lt (Nat.lt_trans l0 l4))) lo (Nat.le_of_lt (Nat.lt_trans (Nat.lt_trans l0 l4) l3))) lo (Nat.le_of_lt (Nat.lt_trans (Nat.lt_trans (Nat.lt_trans l0 l4) l3) l1))) lo (Nat.le_of_lt (Nat.lt_trans (Nat.lt_trans (Nat.lt_trans (Nat.lt_trans l0 l4) l3) l1) l2)))
  refine ret I Tq nTq (rdM c (ws.getD 4 0) 8) tPl vs9 _ _ _ _ h9 tk9 F9 (news_of N9 ?sN) ap2 (fun p hp => (tk6 hp)) I9 D1 ((hws.set 4 (emod64_range _)).set 4 (fmod64_range _)) (Nat.le_add_right _ _) ?dd
  case sN => exact sub_cons sub_move6
  case dd =>
    intro m2 s2 Q2 E2 F2 N2 ret2
    refine c_dretI B F2 X T hk N2 (led_R ap2) (fun _ => led_dS ap2) hdp hws.1  hk4 (fun _ _ => (tk12 mS)) iR (fun _ _ => (tk12 mM)) (fun _ _ => (tk12 mMd)) (fun _ _ => hk3) D2 (fun _ _ => hk10) (fun _ _ => hk11) (fun _ _ => hk7) (fun _ _ => hk8) (fun _ _ => hk6) ?_
    intro h8 tk8 vsR9 t9 F8 N8 I'
    rw [low64, low64, ← fmod64 (List.getD _ 4 0 + far.fmod 65536)] at I'
    refine ret2 _ _ _ (After3.mk (vsR := vsR9) (oH := oH) (t := t9) (t0 := tf0) (t1 := tf1) (t2 := tf2) (t3 := tf3) (t4 := tf4) (t5 := tf5) (t6 := tf6) I' D2) F8 ?nn
    case nn => exact N8
theorem t_lf (w0 : 13 ≤ way) (w1 : way < 16) :
  wpAny (model PySem.Challenge.rw_nn0065_01.row.prog w) (ktrTop dp un gd cn cs L a ccd cl outer) (call (.ref 890) [.int way t, .int one t1, .int far t2, .ref HD, .ref W, .int place t3]) Q E s := by
  have hw : way = 13 ∨ way = 14 ∨ way = 15 := by omega
  rcases hw with rfl | rfl | rfl
  · exact t_lf13 B F X T hk N ap mS mF mM mMd mB iW iR D1 D2 hb hws hc i0 i1 g0 g1 hun hdp ret
  · exact t_lf14 B F X T hk N ap mS mF mM mMd mB iW iR D1 D2 hb hws hc i0 i1 g0 g1 hun hdp ret
  · rcases (show far % 2 = 0 ∨ far % 2 = 1 by omega) with hf | hf
    · exact t_lf15a B F X T hk N ap mS mF mM mMd mB iW iR D1 D2 hb hws hc i0 i1 g0 g1 hun hdp ret hf
    · exact t_lf15b B F X T hk N ap mS mF mM mMd mB iW iR D1 D2 hb hws hc i0 i1 g0 g1 hun hdp ret hf
end

example : True := by
  k_with "call ref" => (((with_reducible rename Mine.TurnMark => lM9); (with_reducible show wpAny _ _ (PySem.call (Value.ref _) _ _) _ _ _); refine stop_intro ?_))
  k_with "execs cons" => (((with_reducible rename Mine.IfMark => lM7); (with_reducible show wpAny _ _ (PySem.execs (List.cons (PySem.Stmt.If _ _ _ _) _) _) _ _ _); refine stop_intro ?_))
  k_with "binaryOp Pow int int" => ((k_here; (with_reducible refine pow_int_small ?kb1 ?kb2 ?kb3 ?_); (case kb1 => decide); (case kb2 => decide); (case kb3 => decide)))
  k_with "execs cons" => (((with_reducible rename Mine.CutMark => lM7); (with_reducible show wpAny _ _ (PySem.execs (List.cons (PySem.Stmt.Assign (List.cons (PySem.Expr.Name (PySem.Str.ofString "place") _) _) _ _) _) _) _ _ _); refine stop_intro ?_))
  k_with "execs cons Assign" => (((with_reducible rename Mine.CutMark => lM7); (with_reducible show wpAny _ _ (PySem.execs (List.cons (PySem.Stmt.Assign (List.cons (PySem.Expr.Name (PySem.Str.ofString "place") _) _) _ _) _) _) _ _ _); refine stop_intro ?_))
  k_with "eval IfExp" => (((with_reducible rename Mine.FarMark => lM7); clear lM7; refine stop_intro ?_))
  trivial
structure FarMark : Prop where
theorem ifexp_join {M : Model} {A : Around} {E : Value → Shared → Prop} {s : Shared} {env : Env} {test body orelse : Expr} {pos : Pos} {Q : Value → Shared → Prop} {P : Int → Prop} (G : ∀ z t tk, P z → Q (.int z t) { s with toks := tk })
    (h : ∀ Q' : Value → Shared → Prop, (∀ z t tk, P z → Q' (.int z t) { s with toks := tk }) → wpAny M A (eval (.IfExp test body orelse pos) env) Q' E s) : wpAny M A (eval (.IfExp test body orelse pos) env) Q E s := h Q G
structure CutMark : Prop where
structure IfMark : Prop where
structure TurnMark : Prop where
noncomputable def TurnGoal (w : World) (fa : Addr) (cd : Value) (L : Addr) (n : Nat) (Q : Flow → Shared → Prop) (s : Shared) (st : Stmt) : Prop :=
  match st with
  | .FunctionDef name _ body _ _ _ scope _ _ _ =>
    match body.drop 9 with
    | .For _ _ tb _ _ :: _ => wpAny (model PySem.Challenge.rw_nn0065_01.row.prog w) (callerA.deeper (envOfC name scope L fa cd)) (execs (tb.drop n) (envOfC name scope L fa cd)) Q (fun _ _ => False) s
    | _ => False
  | _ => False
theorem turn_use {w : World} {fa : Addr} {cd : Value} {L : Addr} {n : Nat} {Q : Flow → Shared → Prop} {s : Shared} {st : Stmt} (hst : lawSt = some st) (h : ∀ st', lawSt = some st' → TurnGoal w fa cd L n Q s st') : TurnGoal w fa cd L n Q s st := h st hst
theorem t5 {w : World} {h₀ : Heap} {s : Shared} {L : Addr} {p : Program} {loose : List Str} {mean : ExcName → Option Value} {mg mb : Str → Option Value} {Q : Flow → Shared → Prop} {l : Addr} {vs : List Value} {ns : List Int} {fa : Addr} {cd : Value} {W HD Bt : Addr} {vsW : List Value} {nW nB : Nat} {oD : Obj} {tb0 tb1 tb2 tb3 tb4 tb5 tb6 : Tok} {S R Xm Fl Me Sg : Addr} {rip : Int} {trip tbg : Tok} {dS : Addr} {hS0 hS1 hS2 hS3 hS4 hS5 hS6 hS7 hS8 : Int} {kS0 kS1 kS2 kS3 kS4 kS5 kS6 kS7 kS8 : Tok} {vsR : List Value} {ws : List Int} {nR : Nat} {H : Addr} {dMe : Addr} {hMe0 : Int} {kMe0 : Tok} {oH : Obj} {c : List (Int × Int)} {b0 b1 b2 b3 b4 b5 b6 : Int} {tf0 tf1 tf2 tf3 tf4 tf5 tf6 : Tok} {dFl : Addr} {hFl0 hFl1 hFl2 hFl3 hFl4 hFl5 hFl6 : Int} {kFl0 kFl1 kFl2 kFl3 kFl4 kFl5 kFl6 : Tok} {rest : List (Addr × Obj)} {uc uw uo ut uf ud us : Option Value} {tpl : Tok} (X : (hd.heap_39 w.params).In h₀) (T : Top p loose mean mg mb h₀) (B : Below callerA h₀ [] h₀) (hl : h₀.IsList l vs.toArray) (hi : IntsAre vs ns) (hn : ns.length < 64) (F : Fr h₀ L s.heap (fun y => if y = Str.ofString "cell" then uc else if y = Str.ofString "way" then uw else if y = Str.ofString "one" then uo else if y = Str.ofString "other" then ut else if y = Str.ofString "far" then uf else if y = Str.ofString "place" then some (.int rip tpl) else if y = Str.ofString "deed" then ud else if y = Str.ofString "bits" then some (.ref Bt) else if y = Str.ofString "did" then some (.bool true) else if y = Str.ofString "spot" then us else if y = Str.ofString "state" then some (.ref S) else if y = Str.ofString "worths" then some (.ref W) else none)) (N : News h₀ L s.heap ((W, listOf vsW.toArray nW) :: (HD, oD) :: (R, listOf vsR.toArray nR) :: (H, oH) :: (dS, dictOf [⟨hS0, .str (Str.ofString "iset") kS0, .none⟩, ⟨hS1, .str (Str.ofString "regs") kS1, .ref R⟩, ⟨hS2, .str (Str.ofString "xmm") kS2, .ref Xm⟩, ⟨hS3, .str (Str.ofString "flags") kS3, .ref Fl⟩, ⟨hS4, .str (Str.ofString "memory") kS4, .ref Me⟩, ⟨hS5, .str (Str.ofString "rip") kS5, .int rip trip⟩, ⟨hS6, .str (Str.ofString "begin") kS6, .int 0 tbg⟩, ⟨hS7, .str (Str.ofString "segments") kS7, .ref Sg⟩, ⟨hS8, .str (Str.ofString "is_halted") kS8, .bool false⟩] 9) :: (dFl, dictOf [⟨hFl0, .str (Str.ofString "cf") kFl0, .int b0 tf0⟩, ⟨hFl1, .str (Str.ofString "pf") kFl1, .int b1 tf1⟩, ⟨hFl2, .str (Str.ofString "af") kFl2, .int b2 tf2⟩, ⟨hFl3, .str (Str.ofString "zf") kFl3, .int b3 tf3⟩, ⟨hFl4, .str (Str.ofString "sf") kFl4, .int b4 tf4⟩, ⟨hFl5, .str (Str.ofString "of") kFl5, .int b5 tf5⟩, ⟨hFl6, .str (Str.ofString "df") kFl6, .int b6 tf6⟩] 7) :: rest)) (ap : Apart W HD R H dS dFl rest) (mS : (S, instObj 546 dS) ∈ rest) (mF : (Fl, instObj 174 dFl) ∈ rest) (mM : (Me, instObj 429 dMe) ∈ rest) (mMd : (dMe, dictOf [⟨hMe0, .str (Str.ofString "held") kMe0, .ref H⟩] 1) ∈ rest) (mB : (Bt, { cls := .type "tuple", data := .seq (List.toArray [.int b0 tb0, .int b1 tb1, .int b2 tb2, .int b3 tb3, .int b4 tb4, .int b5 tb5, .int b6 tb6]) nB }) ∈ rest) (iW : IntsAre vsW ws) (iR : IntsAre vsR ws)
  (nxt : ∀ h' tk', Fr h₀ L h' (fun y => if y = Str.ofString "cell" then uc else if y = Str.ofString "way" then uw else if y = Str.ofString "one" then uo else if y = Str.ofString "other" then ut else if y = Str.ofString "far" then uf else if y = Str.ofString "place" then some (.int rip tpl) else if y = Str.ofString "deed" then ud else if y = Str.ofString "bits" then some (.ref Bt) else if y = Str.ofString "did" then some (.bool true) else if y = Str.ofString "spot" then us else if y = Str.ofString "state" then some (.ref S) else if y = Str.ofString "worths" then some (.ref W) else none) → News h₀ L h' ((W, listOf vsW.toArray nW) :: (HD, oD) :: (R, listOf vsR.toArray nR) :: (H, oH) :: (dS, dictOf [⟨hS0, .str (Str.ofString "iset") kS0, .none⟩, ⟨hS1, .str (Str.ofString "regs") kS1, .ref R⟩, ⟨hS2, .str (Str.ofString "xmm") kS2, .ref Xm⟩, ⟨hS3, .str (Str.ofString "flags") kS3, .ref Fl⟩, ⟨hS4, .str (Str.ofString "memory") kS4, .ref Me⟩, ⟨hS5, .str (Str.ofString "rip") kS5, .int rip trip⟩, ⟨hS6, .str (Str.ofString "begin") kS6, .int 0 tbg⟩, ⟨hS7, .str (Str.ofString "segments") kS7, .ref Sg⟩, ⟨hS8, .str (Str.ofString "is_halted") kS8, .bool false⟩] 9) :: (dFl, dictOf [⟨hFl0, .str (Str.ofString "cf") kFl0, .int b0 tf0⟩, ⟨hFl1, .str (Str.ofString "pf") kFl1, .int b1 tf1⟩, ⟨hFl2, .str (Str.ofString "af") kFl2, .int b2 tf2⟩, ⟨hFl3, .str (Str.ofString "zf") kFl3, .int b3 tf3⟩, ⟨hFl4, .str (Str.ofString "sf") kFl4, .int b4 tf4⟩, ⟨hFl5, .str (Str.ofString "of") kFl5, .int b5 tf5⟩, ⟨hFl6, .str (Str.ofString "df") kFl6, .int b6 tf6⟩] 7) :: rest) → Q .next { s with heap := h', toks := tk' }) : ∀ st, lawSt = some st → TurnGoal w fa cd L 5 Q s st := by
  refine' law_open ?k ?_
  (case k => exact rfl)
  intro hst
  show wpAny _ _ (execs (List.cons _ _) _) _ _ _
  have lC7 := CutMark.mk
  have lQ := QuickMark.mk
  have lM := LoopMark.mk
  k_steps
  all_goals first
    | exact absurd rfl (by assumption)
    | exact nxt _ _ (by k_asm) (news_of (by k_asm) (by walk_at "subN"))
section
variable {w : World} {h₀ : Heap} {s : Shared} {L : Addr} {p : Program} {loose : List Str} {mean : ExcName → Option Value} {mg mb : Str → Option Value} {Q : Flow → Shared → Prop} {l : Addr} {vs : List Value} {ns : List Int} {fa : Addr} {cd : Value} {W HD Bt : Addr} {vsW : List Value} {nW nB : Nat} {oD : Obj} {tb0 tb1 tb2 tb3 tb4 tb5 tb6 : Tok} {S R Xm Fl Me Sg : Addr}  {trip tbg : Tok} {dS : Addr} {hS0 hS1 hS2 hS3 hS4 hS5 hS6 hS7 hS8 : Int} {kS0 kS1 kS2 kS3 kS4 kS5 kS6 kS7 kS8 : Tok} {vsR : List Value} {ws : List Int} {nR : Nat} {H : Addr} {dMe : Addr} {hMe0 : Int} {kMe0 : Tok} {oH : Obj} {c : List (Int × Int)} {b0 b1 b2 b3 b4 b5 b6 : Int} {tf0 tf1 tf2 tf3 tf4 tf5 tf6 : Tok} {dFl : Addr} {hFl0 hFl1 hFl2 hFl3 hFl4 hFl5 hFl6 : Int} {kFl0 kFl1 kFl2 kFl3 kFl4 kFl5 kFl6 : Tok} {rest : List (Addr × Obj)} {uc ud uu us : Option Value} {way one other far place : Int} {tw to tt tf tpl : Tok} (X : (hd.heap_39 w.params).In h₀) (T : Top p loose mean mg mb h₀) (B : Below callerA h₀ [] h₀) (hl : h₀.IsList l vs.toArray) (hi : IntsAre vs ns) (hn : ns.length < 64) (F : Fr h₀ L s.heap (fun y => if y = Str.ofString "cell" then uc else if y = Str.ofString "way" then some (.int way tw) else if y = Str.ofString "one" then some (.int one to) else if y = Str.ofString "other" then some (.int other tt) else if y = Str.ofString "far" then some (.int far tf) else if y = Str.ofString "place" then some (.int place tpl) else if y = Str.ofString "deed" then ud else if y = Str.ofString "bits" then some (.ref Bt) else if y = Str.ofString "did" then uu else if y = Str.ofString "spot" then us else if y = Str.ofString "state" then some (.ref S) else if y = Str.ofString "worths" then some (.ref W) else none)) (N : News h₀ L s.heap ((W, listOf vsW.toArray nW) :: (HD, oD) :: (R, listOf vsR.toArray nR) :: (H, oH) :: (dS, dictOf [⟨hS0, .str (Str.ofString "iset") kS0, .none⟩, ⟨hS1, .str (Str.ofString "regs") kS1, .ref R⟩, ⟨hS2, .str (Str.ofString "xmm") kS2, .ref Xm⟩, ⟨hS3, .str (Str.ofString "flags") kS3, .ref Fl⟩, ⟨hS4, .str (Str.ofString "memory") kS4, .ref Me⟩, ⟨hS5, .str (Str.ofString "rip") kS5, .int place trip⟩, ⟨hS6, .str (Str.ofString "begin") kS6, .int 0 tbg⟩, ⟨hS7, .str (Str.ofString "segments") kS7, .ref Sg⟩, ⟨hS8, .str (Str.ofString "is_halted") kS8, .bool false⟩] 9) :: (dFl, dictOf [⟨hFl0, .str (Str.ofString "cf") kFl0, .int b0 tf0⟩, ⟨hFl1, .str (Str.ofString "pf") kFl1, .int b1 tf1⟩, ⟨hFl2, .str (Str.ofString "af") kFl2, .int b2 tf2⟩, ⟨hFl3, .str (Str.ofString "zf") kFl3, .int b3 tf3⟩, ⟨hFl4, .str (Str.ofString "sf") kFl4, .int b4 tf4⟩, ⟨hFl5, .str (Str.ofString "of") kFl5, .int b5 tf5⟩, ⟨hFl6, .str (Str.ofString "df") kFl6, .int b6 tf6⟩] 7) :: rest)) (ap : Apart W HD R H dS dFl rest) (mS : (S, instObj 546 dS) ∈ rest) (mF : (Fl, instObj 174 dFl) ∈ rest) (mM : (Me, instObj 429 dMe) ∈ rest) (mMd : (dMe, dictOf [⟨hMe0, .str (Str.ofString "held") kMe0, .ref H⟩] 1) ∈ rest) (mB : (Bt, { cls := .type "tuple", data := .seq (List.toArray [.int b0 tb0, .int b1 tb1, .int b2 tb2, .int b3 tb3, .int b4 tb4, .int b5 tb5, .int b6 tb6]) nB }) ∈ rest) {oHc : Obj} (mHc : (L + 2, oHc) ∈ rest) (dHc : oHc.data = .cell (some (.ref HD))) (iW : IntsAre vsW ws) (iR : IntsAre vsR ws) (D1 : DI w HD oD c) (D2 : DI w H oH c) (hb : BitsOK b0 b1 b2 b3 b4 b5 b6) (hws : WOK ws) (hc : c.length ≤ 200) (w0 : 0 ≤ way) (w1 : way < 16) (i0 : 0 ≤ one) (i1 : one < 16) (j0 : 0 ≤ other) (j1 : other < 16) (g0 : -2147483648 ≤ far) (g1 : far < 8589934592)
  (nxt : ∀ (Bt' : Addr) (nB' : Nat) (b0' b1' b2' b3' b4' b5' b6' : Int) (tb0' tb1' tb2' tb3' tb4' tb5' tb6' : Tok) (vsW' vsR' : List Value) (oD' oH' : Obj) (ws' : List Int) (c' : List (Int × Int)) (pl' : Int) (tpl' trip' tf0' tf1' tf2' tf3' tf4' tf5' tf6' : Tok) (rest' : List (Addr × Obj)) (uc uw uo ut uf ud uu us : Option Value) h' tk', Fr h₀ L h' (fun y => if y = Str.ofString "cell" then uc else if y = Str.ofString "way" then uw else if y = Str.ofString "one" then uo else if y = Str.ofString "other" then ut else if y = Str.ofString "far" then uf else if y = Str.ofString "place" then some (.int pl' tpl') else if y = Str.ofString "deed" then ud else if y = Str.ofString "bits" then some (.ref Bt') else if y = Str.ofString "did" then uu else if y = Str.ofString "spot" then us else if y = Str.ofString "state" then some (.ref S) else if y = Str.ofString "worths" then some (.ref W) else none) → News h₀ L h' ((W, listOf vsW'.toArray nW) :: (HD, oD') :: (R, listOf vsR'.toArray nR) :: (H, oH') :: (dS, dictOf [⟨hS0, .str (Str.ofString "iset") kS0, .none⟩, ⟨hS1, .str (Str.ofString "regs") kS1, .ref R⟩, ⟨hS2, .str (Str.ofString "xmm") kS2, .ref Xm⟩, ⟨hS3, .str (Str.ofString "flags") kS3, .ref Fl⟩, ⟨hS4, .str (Str.ofString "memory") kS4, .ref Me⟩, ⟨hS5, .str (Str.ofString "rip") kS5, .int pl' trip'⟩, ⟨hS6, .str (Str.ofString "begin") kS6, .int 0 tbg⟩, ⟨hS7, .str (Str.ofString "segments") kS7, .ref Sg⟩, ⟨hS8, .str (Str.ofString "is_halted") kS8, .bool false⟩] 9) :: (dFl, dictOf [⟨hFl0, .str (Str.ofString "cf") kFl0, .int b0' tf0'⟩, ⟨hFl1, .str (Str.ofString "pf") kFl1, .int b1' tf1'⟩, ⟨hFl2, .str (Str.ofString "af") kFl2, .int b2' tf2'⟩, ⟨hFl3, .str (Str.ofString "zf") kFl3, .int b3' tf3'⟩, ⟨hFl4, .str (Str.ofString "sf") kFl4, .int b4' tf4'⟩, ⟨hFl5, .str (Str.ofString "of") kFl5, .int b5' tf5'⟩, ⟨hFl6, .str (Str.ofString "df") kFl6, .int b6' tf6'⟩] 7) :: rest') → Apart W HD R H dS dFl rest' → (∀ p ∈ rest, p ∈ rest') → (Bt', { cls := .type "tuple", data := .seq (List.toArray [.int b0' tb0', .int b1' tb1', .int b2' tb2', .int b3' tb3', .int b4' tb4', .int b5' tb5', .int b6' tb6']) nB' }) ∈ rest' → (Bt' = Bt ∨ ∀ p ∈ rest, p.1 ≠ Bt') → IntsAre vsW' ws' → IntsAre vsR' ws' → DI w HD oD' c' → DI w H oH' c' → BitsOK b0' b1' b2' b3' b4' b5' b6' → WOK ws' → c'.length ≤ c.length + 8 → Q .next { s with heap := h', toks := tk' })
include X T B hl hi hn F N ap mS mF mM mMd mB mHc dHc iW iR D1 D2 hb hws hc w0 w1 i0 i1 j0 j1 g0 g1 nxt
theorem t4b (hw : way = 15) (hf : far % 4 = 3) : ∀ st, lawSt = some st → TurnGoal w fa cd L 4 Q s st := by
  refine' law_open ?k ?_
  (case k => exact rfl)
  intro hst
  show wpAny _ _ (execs (List.cons _ _) _) _ _ _
  have lC7 := CutMark.mk
  have lQ := QuickMark.mk
  have lM := LoopMark.mk
  have lT := TurnMark.mk
  have hf2 := Int.fmod_eq_emod_of_nonneg far (b := 4) (by decide)
  rw [hf] at hf2
  k_steps
  all_goals (try (exfalso; first | contradiction | omega))
  refine stop_out ?_
  (rename Fr h₀ L _ _ => F9)
  (rename News h₀ L _ _ => N9)
  k_dflt (refine t_ls B F9 X T ?hk N9 ap mS mF mM mMd mB iW iR D1 D2 hb hws hc i0 i1 g0 g1 ?un ?dp ?_ ?v0 ?v1; (case hk => exact rfl); (case v0 => first | omega | decide); (case v1 => first | omega | decide); (case un => ktr_units); (case dp => ktr_room))
  intro I Tq nTq Bt' nB' b0' b1' b2' b3' b4' b5' b6' tb0' tb1' tb2' tb3' tb4' tb5' tb6' vsW' oD' ws' c' rest' h9 tk9 F9' N9' ap' sub9 mB' hBt iW' D1' hb' hws' hc' dd
  (try clear F)
  (try clear N)
  clear F9 N9
  k_steps
  refine stop_out ?_
  (rename Fr h₀ L _ _ => F9)
  (rename News h₀ L _ _ => N9)
  k_dflt (refine Deed.use dd F9 (news_of N9 ?ns) ?_)
  case ns => walk_at "subN"
  intro h8 tk8 l8 hp F8 N8
  obtain @⟨vsR', oH', tf0', tf1', tf2', tf3', tf4', tf5', tf6', iR', D2'⟩ := hp
  (try dsimp only at N8 iR' D2')
  (try clear F9 N9)
  (try clear F9' N9')
  clear dd
  have lI := IfMark.mk
  k_steps
  refine stop_out ?_
  (rename Fr h₀ L _ _ => F9)
  (rename News h₀ L _ _ => N9)
  replace mS := sub9 _ mS
  replace mF := sub9 _ mF
  replace mM := sub9 _ mM
  replace mMd := sub9 _ mMd
  replace mHc := sub9 _ mHc
  have F8 : Fr h₀ L _ (fun y => if y = Str.ofString "cell" then uc else if y = Str.ofString "way" then some (.int way tw) else if y = Str.ofString "one" then some (.int one to) else if y = Str.ofString "other" then some (.int other tt) else if y = Str.ofString "far" then some (.int far tf) else if y = Str.ofString "place" then some (.int place tpl) else if y = Str.ofString "deed" then some (.ref I) else if y = Str.ofString "bits" then some (.ref Bt') else if y = Str.ofString "did" then some (.bool true) else if y = Str.ofString "spot" then us else if y = Str.ofString "state" then some (.ref S) else if y = Str.ofString "worths" then some (.ref W) else none) := fr_to F9 (by
    refine' map_agree ?i1 ?i2 ?a1 ?a2
    case i1 => first | exact IsMap.cons (IsMap.cons (IsMap.nil)) | exact IsMap.cons (IsMap.cons (IsMap.cons (IsMap.nil))) | exact IsMap.cons (IsMap.cons (IsMap.cons (IsMap.cons (IsMap.nil)))) | exact IsMap.cons (IsMap.cons (IsMap.cons (IsMap.cons (IsMap.cons (IsMap.nil))))) | exact IsMap.cons (IsMap.cons (IsMap.cons (IsMap.cons (IsMap.cons (IsMap.cons (IsMap.nil)))))) | exact IsMap.cons (IsMap.cons (IsMap.cons (IsMap.cons (IsMap.cons (IsMap.cons (IsMap.cons (IsMap.nil))))))) | exact IsMap.cons (IsMap.cons (IsMap.cons (IsMap.cons (IsMap.cons (IsMap.cons (IsMap.cons (IsMap.cons (IsMap.nil)))))))) | exact IsMap.cons (IsMap.cons (IsMap.cons (IsMap.cons (IsMap.cons (IsMap.cons (IsMap.cons (IsMap.cons (IsMap.cons (IsMap.nil))))))))) | exact IsMap.cons (IsMap.cons (IsMap.cons (IsMap.cons (IsMap.cons (IsMap.cons (IsMap.cons (IsMap.cons (IsMap.cons (IsMap.cons (IsMap.nil)))))))))) | exact IsMap.cons (IsMap.cons (IsMap.cons (IsMap.cons (IsMap.cons (IsMap.cons (IsMap.cons (IsMap.cons (IsMap.cons (IsMap.cons (IsMap.cons (IsMap.nil))))))))))) | exact IsMap.cons (IsMap.cons (IsMap.cons (IsMap.cons (IsMap.cons (IsMap.cons (IsMap.cons (IsMap.cons (IsMap.cons (IsMap.cons (IsMap.cons (IsMap.cons (IsMap.nil)))))))))))) | exact IsMap.cons (IsMap.cons (IsMap.cons (IsMap.cons (IsMap.cons (IsMap.cons (IsMap.cons (IsMap.cons (IsMap.cons (IsMap.cons (IsMap.cons (IsMap.cons (IsMap.cons (IsMap.nil))))))))))))) | exact IsMap.cons (IsMap.cons (IsMap.cons (IsMap.cons (IsMap.cons (IsMap.cons (IsMap.cons (IsMap.cons (IsMap.cons (IsMap.cons (IsMap.cons (IsMap.cons (IsMap.cons (IsMap.cons (IsMap.nil)))))))))))))) | exact IsMap.cons (IsMap.cons (IsMap.cons (IsMap.cons (IsMap.cons (IsMap.cons (IsMap.cons (IsMap.cons (IsMap.cons (IsMap.cons (IsMap.cons (IsMap.cons (IsMap.cons (IsMap.cons (IsMap.cons (IsMap.nil))))))))))))))) | exact IsMap.cons (IsMap.cons (IsMap.cons (IsMap.cons (IsMap.cons (IsMap.cons (IsMap.cons (IsMap.cons (IsMap.cons (IsMap.cons (IsMap.cons (IsMap.cons (IsMap.cons (IsMap.cons (IsMap.cons (IsMap.cons (IsMap.nil))))))))))))))))
    case i2 => first | exact IsMap.cons (IsMap.cons (IsMap.cons (IsMap.cons (IsMap.cons (IsMap.cons (IsMap.cons (IsMap.cons (IsMap.cons (IsMap.cons (IsMap.cons (IsMap.cons (IsMap.nil))))))))))))
    case a1 => first | exact Agree.cons rfl (Agree.cons rfl (Agree.nil)) | exact Agree.cons rfl (Agree.cons rfl (Agree.cons rfl (Agree.nil))) | exact Agree.cons rfl (Agree.cons rfl (Agree.cons rfl (Agree.cons rfl (Agree.nil)))) | exact Agree.cons rfl (Agree.cons rfl (Agree.cons rfl (Agree.cons rfl (Agree.cons rfl (Agree.nil))))) | exact Agree.cons rfl (Agree.cons rfl (Agree.cons rfl (Agree.cons rfl (Agree.cons rfl (Agree.cons rfl (Agree.nil)))))) | exact Agree.cons rfl (Agree.cons rfl (Agree.cons rfl (Agree.cons rfl (Agree.cons rfl (Agree.cons rfl (Agree.cons rfl (Agree.nil))))))) | exact Agree.cons rfl (Agree.cons rfl (Agree.cons rfl (Agree.cons rfl (Agree.cons rfl (Agree.cons rfl (Agree.cons rfl (Agree.cons rfl (Agree.nil)))))))) | exact Agree.cons rfl (Agree.cons rfl (Agree.cons rfl (Agree.cons rfl (Agree.cons rfl (Agree.cons rfl (Agree.cons rfl (Agree.cons rfl (Agree.cons rfl (Agree.nil))))))))) | exact Agree.cons rfl (Agree.cons rfl (Agree.cons rfl (Agree.cons rfl (Agree.cons rfl (Agree.cons rfl (Agree.cons rfl (Agree.cons rfl (Agree.cons rfl (Agree.cons rfl (Agree.nil)))))))))) | exact Agree.cons rfl (Agree.cons rfl (Agree.cons rfl (Agree.cons rfl (Agree.cons rfl (Agree.cons rfl (Agree.cons rfl (Agree.cons rfl (Agree.cons rfl (Agree.cons rfl (Agree.cons rfl (Agree.nil))))))))))) | exact Agree.cons rfl (Agree.cons rfl (Agree.cons rfl (Agree.cons rfl (Agree.cons rfl (Agree.cons rfl (Agree.cons rfl (Agree.cons rfl (Agree.cons rfl (Agree.cons rfl (Agree.cons rfl (Agree.cons rfl (Agree.nil)))))))))))) | exact Agree.cons rfl (Agree.cons rfl (Agree.cons rfl (Agree.cons rfl (Agree.cons rfl (Agree.cons rfl (Agree.cons rfl (Agree.cons rfl (Agree.cons rfl (Agree.cons rfl (Agree.cons rfl (Agree.cons rfl (Agree.cons rfl (Agree.nil))))))))))))) | exact Agree.cons rfl (Agree.cons rfl (Agree.cons rfl (Agree.cons rfl (Agree.cons rfl (Agree.cons rfl (Agree.cons rfl (Agree.cons rfl (Agree.cons rfl (Agree.cons rfl (Agree.cons rfl (Agree.cons rfl (Agree.cons rfl (Agree.cons rfl (Agree.nil)))))))))))))) | exact Agree.cons rfl (Agree.cons rfl (Agree.cons rfl (Agree.cons rfl (Agree.cons rfl (Agree.cons rfl (Agree.cons rfl (Agree.cons rfl (Agree.cons rfl (Agree.cons rfl (Agree.cons rfl (Agree.cons rfl (Agree.cons rfl (Agree.cons rfl (Agree.cons rfl (Agree.nil))))))))))))))) | exact Agree.cons rfl (Agree.cons rfl (Agree.cons rfl (Agree.cons rfl (Agree.cons rfl (Agree.cons rfl (Agree.cons rfl (Agree.cons rfl (Agree.cons rfl (Agree.cons rfl (Agree.cons rfl (Agree.cons rfl (Agree.cons rfl (Agree.cons rfl (Agree.cons rfl (Agree.cons rfl (Agree.nil))))))))))))))))
    case a2 => first | exact Agree.cons rfl (Agree.cons rfl (Agree.cons rfl (Agree.cons rfl (Agree.cons rfl (Agree.cons rfl (Agree.cons rfl (Agree.cons rfl (Agree.cons rfl (Agree.cons rfl (Agree.cons rfl (Agree.cons rfl (Agree.nil))))))))))))
    )
  have N8 : News h₀ L _ ((W, listOf vsW'.toArray nW) :: (HD, oD') :: (R, listOf vsR'.toArray nR) :: (H, oH') :: (dS, dictOf [⟨hS0, .str (Str.ofString "iset") kS0, .none⟩, ⟨hS1, .str (Str.ofString "regs") kS1, .ref R⟩, ⟨hS2, .str (Str.ofString "xmm") kS2, .ref Xm⟩, ⟨hS3, .str (Str.ofString "flags") kS3, .ref Fl⟩, ⟨hS4, .str (Str.ofString "memory") kS4, .ref Me⟩, ⟨hS5, .str (Str.ofString "rip") kS5, .int place trip⟩, ⟨hS6, .str (Str.ofString "begin") kS6, .int 0 tbg⟩, ⟨hS7, .str (Str.ofString "segments") kS7, .ref Sg⟩, ⟨hS8, .str (Str.ofString "is_halted") kS8, .bool false⟩] 9) :: (dFl, dictOf [⟨hFl0, .str (Str.ofString "cf") kFl0, .int b0' tf0'⟩, ⟨hFl1, .str (Str.ofString "pf") kFl1, .int b1' tf1'⟩, ⟨hFl2, .str (Str.ofString "af") kFl2, .int b2' tf2'⟩, ⟨hFl3, .str (Str.ofString "zf") kFl3, .int b3' tf3'⟩, ⟨hFl4, .str (Str.ofString "sf") kFl4, .int b4' tf4'⟩, ⟨hFl5, .str (Str.ofString "of") kFl5, .int b5' tf5'⟩, ⟨hFl6, .str (Str.ofString "df") kFl6, .int b6' tf6'⟩] 7) :: rest') := news_of N9 (by walk_at "subN")
  refine t5 (fa := fa) (cd := cd) (l := l) (c := []) X T B hl hi hn F8 N8 ap' mS mF mM mMd mB' iW' iR' ?_ _ hst
  intro h7 tk7 F7 N7
  exact nxt Bt' nB' _ _ _ _ _ _ _ _ _ _ _ _ _ _ vsW' vsR' oD' oH' ws' c' place tpl _ _ _ _ _ _ _ _ rest' _ _ _ _ _ _ _ _ h7 tk7 F7 N7 ap' sub9 mB' hBt iW' iR' D1' D2' hb' hws' hc'
theorem t4c (hw : 10 ≤ way) (hw2 : way < 13) : ∀ st, lawSt = some st → TurnGoal w fa cd L 4 Q s st := by
  refine' law_open ?k ?_
  (case k => exact rfl)
  intro hst
  show wpAny _ _ (execs (List.cons _ _) _) _ _ _
  have lC7 := CutMark.mk
  have lQ := QuickMark.mk
  have lM := LoopMark.mk
  have lT := TurnMark.mk
  k_steps
  all_goals (try (exfalso; first | contradiction | omega))
  refine stop_out ?_
  (rename Fr h₀ L _ _ => F9)
  (rename News h₀ L _ _ => N9)
  k_dflt (refine t_lm B F9 X T ?hk N9 ap mS mF mM mMd mB iW iR D1 D2 hb hws hc i0 i1 j0 j1 g0 g1 ?un ?dp ?_ hw hw2; (case hk => exact rfl); (case un => ktr_units); (case dp => ktr_room))
  intro I vsW' ws' rest' h9 tk9 F9' N9' ap' sub9 iW' hws' dd
  (try clear F)
  (try clear N)
  clear F9 N9
  replace mS := sub9 _ mS
  replace mF := sub9 _ mF
  replace mM := sub9 _ mM
  replace mMd := sub9 _ mMd
  replace mHc := sub9 _ mHc
  have mB' := sub9 _ mB
  clear mB
  k_steps
  refine stop_out ?_
  (rename Fr h₀ L _ _ => F9)
  (rename News h₀ L _ _ => N9)
  k_dflt (refine Deed.use dd F9 (news_of N9 ?ns) ?_)
  case ns => walk_at "subN"
  intro h8 tk8 l8 hp F8 N8
  obtain @⟨vsR', oH', tf0', tf1', tf2', tf3', tf4', tf5', tf6', iR', D2'⟩ := hp
  (try dsimp only at N8 iR' D2')
  (try clear F9 N9)
  (try clear F9' N9')
  clear dd
  have lI := IfMark.mk
  k_steps
  refine stop_out ?_
  (rename Fr h₀ L _ _ => F9)
  (rename News h₀ L _ _ => N9)
  have F8 : Fr h₀ L _ (fun y => if y = Str.ofString "cell" then uc else if y = Str.ofString "way" then some (.int way tw) else if y = Str.ofString "one" then some (.int one to) else if y = Str.ofString "other" then some (.int other tt) else if y = Str.ofString "far" then some (.int far tf) else if y = Str.ofString "place" then some (.int place tpl) else if y = Str.ofString "deed" then some (.ref I) else if y = Str.ofString "bits" then some (.ref Bt) else if y = Str.ofString "did" then some (.bool true) else if y = Str.ofString "spot" then us else if y = Str.ofString "state" then some (.ref S) else if y = Str.ofString "worths" then some (.ref W) else none) := fr_to F9 (by
    refine' map_agree ?i1 ?i2 ?a1 ?a2
    case i1 => first | exact IsMap.cons (IsMap.cons (IsMap.nil)) | exact IsMap.cons (IsMap.cons (IsMap.cons (IsMap.nil))) | exact IsMap.cons (IsMap.cons (IsMap.cons (IsMap.cons (IsMap.nil)))) | exact IsMap.cons (IsMap.cons (IsMap.cons (IsMap.cons (IsMap.cons (IsMap.nil))))) | exact IsMap.cons (IsMap.cons (IsMap.cons (IsMap.cons (IsMap.cons (IsMap.cons (IsMap.nil)))))) | exact IsMap.cons (IsMap.cons (IsMap.cons (IsMap.cons (IsMap.cons (IsMap.cons (IsMap.cons (IsMap.nil))))))) | exact IsMap.cons (IsMap.cons (IsMap.cons (IsMap.cons (IsMap.cons (IsMap.cons (IsMap.cons (IsMap.cons (IsMap.nil)))))))) | exact IsMap.cons (IsMap.cons (IsMap.cons (IsMap.cons (IsMap.cons (IsMap.cons (IsMap.cons (IsMap.cons (IsMap.cons (IsMap.nil))))))))) | exact IsMap.cons (IsMap.cons (IsMap.cons (IsMap.cons (IsMap.cons (IsMap.cons (IsMap.cons (IsMap.cons (IsMap.cons (IsMap.cons (IsMap.nil)))))))))) | exact IsMap.cons (IsMap.cons (IsMap.cons (IsMap.cons (IsMap.cons (IsMap.cons (IsMap.cons (IsMap.cons (IsMap.cons (IsMap.cons (IsMap.cons (IsMap.nil))))))))))) | exact IsMap.cons (IsMap.cons (IsMap.cons (IsMap.cons (IsMap.cons (IsMap.cons (IsMap.cons (IsMap.cons (IsMap.cons (IsMap.cons (IsMap.cons (IsMap.cons (IsMap.nil)))))))))))) | exact IsMap.cons (IsMap.cons (IsMap.cons (IsMap.cons (IsMap.cons (IsMap.cons (IsMap.cons (IsMap.cons (IsMap.cons (IsMap.cons (IsMap.cons (IsMap.cons (IsMap.cons (IsMap.nil))))))))))))) | exact IsMap.cons (IsMap.cons (IsMap.cons (IsMap.cons (IsMap.cons (IsMap.cons (IsMap.cons (IsMap.cons (IsMap.cons (IsMap.cons (IsMap.cons (IsMap.cons (IsMap.cons (IsMap.cons (IsMap.nil)))))))))))))) | exact IsMap.cons (IsMap.cons (IsMap.cons (IsMap.cons (IsMap.cons (IsMap.cons (IsMap.cons (IsMap.cons (IsMap.cons (IsMap.cons (IsMap.cons (IsMap.cons (IsMap.cons (IsMap.cons (IsMap.cons (IsMap.nil))))))))))))))) | exact IsMap.cons (IsMap.cons (IsMap.cons (IsMap.cons (IsMap.cons (IsMap.cons (IsMap.cons (IsMap.cons (IsMap.cons (IsMap.cons (IsMap.cons (IsMap.cons (IsMap.cons (IsMap.cons (IsMap.cons (IsMap.cons (IsMap.nil))))))))))))))))
    case i2 => first | exact IsMap.cons (IsMap.cons (IsMap.cons (IsMap.cons (IsMap.cons (IsMap.cons (IsMap.cons (IsMap.cons (IsMap.cons (IsMap.cons (IsMap.cons (IsMap.cons (IsMap.nil))))))))))))
    case a1 => first | exact Agree.cons rfl (Agree.cons rfl (Agree.nil)) | exact Agree.cons rfl (Agree.cons rfl (Agree.cons rfl (Agree.nil))) | exact Agree.cons rfl (Agree.cons rfl (Agree.cons rfl (Agree.cons rfl (Agree.nil)))) | exact Agree.cons rfl (Agree.cons rfl (Agree.cons rfl (Agree.cons rfl (Agree.cons rfl (Agree.nil))))) | exact Agree.cons rfl (Agree.cons rfl (Agree.cons rfl (Agree.cons rfl (Agree.cons rfl (Agree.cons rfl (Agree.nil)))))) | exact Agree.cons rfl (Agree.cons rfl (Agree.cons rfl (Agree.cons rfl (Agree.cons rfl (Agree.cons rfl (Agree.cons rfl (Agree.nil))))))) | exact Agree.cons rfl (Agree.cons rfl (Agree.cons rfl (Agree.cons rfl (Agree.cons rfl (Agree.cons rfl (Agree.cons rfl (Agree.cons rfl (Agree.nil)))))))) | exact Agree.cons rfl (Agree.cons rfl (Agree.cons rfl (Agree.cons rfl (Agree.cons rfl (Agree.cons rfl (Agree.cons rfl (Agree.cons rfl (Agree.cons rfl (Agree.nil))))))))) | exact Agree.cons rfl (Agree.cons rfl (Agree.cons rfl (Agree.cons rfl (Agree.cons rfl (Agree.cons rfl (Agree.cons rfl (Agree.cons rfl (Agree.cons rfl (Agree.cons rfl (Agree.nil)))))))))) | exact Agree.cons rfl (Agree.cons rfl (Agree.cons rfl (Agree.cons rfl (Agree.cons rfl (Agree.cons rfl (Agree.cons rfl (Agree.cons rfl (Agree.cons rfl (Agree.cons rfl (Agree.cons rfl (Agree.nil))))))))))) | exact Agree.cons rfl (Agree.cons rfl (Agree.cons rfl (Agree.cons rfl (Agree.cons rfl (Agree.cons rfl (Agree.cons rfl (Agree.cons rfl (Agree.cons rfl (Agree.cons rfl (Agree.cons rfl (Agree.cons rfl (Agree.nil)))))))))))) | exact Agree.cons rfl (Agree.cons rfl (Agree.cons rfl (Agree.cons rfl (Agree.cons rfl (Agree.cons rfl (Agree.cons rfl (Agree.cons rfl (Agree.cons rfl (Agree.cons rfl (Agree.cons rfl (Agree.cons rfl (Agree.cons rfl (Agree.nil))))))))))))) | exact Agree.cons rfl (Agree.cons rfl (Agree.cons rfl (Agree.cons rfl (Agree.cons rfl (Agree.cons rfl (Agree.cons rfl (Agree.cons rfl (Agree.cons rfl (Agree.cons rfl (Agree.cons rfl (Agree.cons rfl (Agree.cons rfl (Agree.cons rfl (Agree.nil)))))))))))))) | exact Agree.cons rfl (Agree.cons rfl (Agree.cons rfl (Agree.cons rfl (Agree.cons rfl (Agree.cons rfl (Agree.cons rfl (Agree.cons rfl (Agree.cons rfl (Agree.cons rfl (Agree.cons rfl (Agree.cons rfl (Agree.cons rfl (Agree.cons rfl (Agree.cons rfl (Agree.nil))))))))))))))) | exact Agree.cons rfl (Agree.cons rfl (Agree.cons rfl (Agree.cons rfl (Agree.cons rfl (Agree.cons rfl (Agree.cons rfl (Agree.cons rfl (Agree.cons rfl (Agree.cons rfl (Agree.cons rfl (Agree.cons rfl (Agree.cons rfl (Agree.cons rfl (Agree.cons rfl (Agree.cons rfl (Agree.nil))))))))))))))))
    case a2 => first | exact Agree.cons rfl (Agree.cons rfl (Agree.cons rfl (Agree.cons rfl (Agree.cons rfl (Agree.cons rfl (Agree.cons rfl (Agree.cons rfl (Agree.cons rfl (Agree.cons rfl (Agree.cons rfl (Agree.cons rfl (Agree.nil))))))))))))
    )
  have N8 : News h₀ L _ ((W, listOf vsW'.toArray nW) :: (HD, oD) :: (R, listOf vsR'.toArray nR) :: (H, oH') :: (dS, dictOf [⟨hS0, .str (Str.ofString "iset") kS0, .none⟩, ⟨hS1, .str (Str.ofString "regs") kS1, .ref R⟩, ⟨hS2, .str (Str.ofString "xmm") kS2, .ref Xm⟩, ⟨hS3, .str (Str.ofString "flags") kS3, .ref Fl⟩, ⟨hS4, .str (Str.ofString "memory") kS4, .ref Me⟩, ⟨hS5, .str (Str.ofString "rip") kS5, .int place trip⟩, ⟨hS6, .str (Str.ofString "begin") kS6, .int 0 tbg⟩, ⟨hS7, .str (Str.ofString "segments") kS7, .ref Sg⟩, ⟨hS8, .str (Str.ofString "is_halted") kS8, .bool false⟩] 9) :: (dFl, dictOf [⟨hFl0, .str (Str.ofString "cf") kFl0, .int b0 tf0'⟩, ⟨hFl1, .str (Str.ofString "pf") kFl1, .int b1 tf1'⟩, ⟨hFl2, .str (Str.ofString "af") kFl2, .int b2 tf2'⟩, ⟨hFl3, .str (Str.ofString "zf") kFl3, .int b3 tf3'⟩, ⟨hFl4, .str (Str.ofString "sf") kFl4, .int b4 tf4'⟩, ⟨hFl5, .str (Str.ofString "of") kFl5, .int b5 tf5'⟩, ⟨hFl6, .str (Str.ofString "df") kFl6, .int b6 tf6'⟩] 7) :: rest') := news_of N9 (by walk_at "subN")
  refine t5 (fa := fa) (cd := cd) (l := l) (c := []) X T B hl hi hn F8 N8 ap' mS mF mM mMd mB' iW' iR' ?_ _ hst
  intro h7 tk7 F7 N7
  exact nxt Bt nB _ _ _ _ _ _ _ _ _ _ _ _ _ _ vsW' vsR' oD oH' ws' c place tpl _ _ _ _ _ _ _ _ rest' _ _ _ _ _ _ _ _ h7 tk7 F7 N7 ap' sub9 mB' (.inl rfl) iW' iR' D1 D2' hb hws' (Nat.le_add_right _ _)
theorem t4d (hw : 13 ≤ way) (hw2 : way < 15) : ∀ st, lawSt = some st → TurnGoal w fa cd L 4 Q s st := by
  refine' law_open ?k ?_
  (case k => exact rfl)
  intro hst
  show wpAny _ _ (execs (List.cons _ _) _) _ _ _
  have lC7 := CutMark.mk
  have lQ := QuickMark.mk
  have lM := LoopMark.mk
  have lT := TurnMark.mk
  k_steps
  all_goals (try (exfalso; first | contradiction | omega))
  refine stop_out ?_
  (rename Fr h₀ L _ _ => F9)
  (rename News h₀ L _ _ => N9)
  k_dflt (refine t_lf B F9 X T ?hk N9 ap mS mF mM mMd mB iW iR D1 D2 hb hws hc i0 i1 g0 g1 ?un ?dp ?_ ?v0 ?v1; (case hk => exact rfl); (case v0 => first | omega | decide); (case v1 => first | omega | decide); (case un => ktr_units); (case dp => ktr_room))
  intro I Tq nTq pl' tPl vsW' oD' ws' c' rest' h9 tk9 F9' N9' ap' sub9 iW' D1' hws' hc' dd
  (try clear F)
  (try clear N)
  clear F9 N9
  replace mS := sub9 _ mS
  replace mF := sub9 _ mF
  replace mM := sub9 _ mM
  replace mMd := sub9 _ mMd
  replace mHc := sub9 _ mHc
  have mB' := sub9 _ mB
  clear mB
  k_steps
  refine stop_out ?_
  (rename Fr h₀ L _ _ => F9)
  (rename News h₀ L _ _ => N9)
  k_dflt (refine Deed.use dd F9 (news_of N9 ?ns) ?_)
  case ns => walk_at "subN"
  intro h8 tk8 l8 hp F8 N8
  obtain @⟨vsR', oH', trip', tf0', tf1', tf2', tf3', tf4', tf5', tf6', iR', D2'⟩ := hp
  (try dsimp only at N8 iR' D2')
  (try clear F9 N9)
  (try clear F9' N9')
  clear dd
  have lI := IfMark.mk
  k_steps
  refine stop_out ?_
  (rename Fr h₀ L _ _ => F9)
  (rename News h₀ L _ _ => N9)
  have F8 : Fr h₀ L _ (fun y => if y = Str.ofString "cell" then uc else if y = Str.ofString "way" then some (.int way tw) else if y = Str.ofString "one" then some (.int one to) else if y = Str.ofString "other" then some (.int other tt) else if y = Str.ofString "far" then some (.int far tf) else if y = Str.ofString "place" then some (.int pl' tPl) else if y = Str.ofString "deed" then some (.ref I) else if y = Str.ofString "bits" then some (.ref Bt) else if y = Str.ofString "did" then some (.bool true) else if y = Str.ofString "spot" then us else if y = Str.ofString "state" then some (.ref S) else if y = Str.ofString "worths" then some (.ref W) else none) := fr_to F9 (by
    refine' map_agree ?i1 ?i2 ?a1 ?a2
    case i1 => first | exact IsMap.cons (IsMap.cons (IsMap.nil)) | exact IsMap.cons (IsMap.cons (IsMap.cons (IsMap.nil))) | exact IsMap.cons (IsMap.cons (IsMap.cons (IsMap.cons (IsMap.nil)))) | exact IsMap.cons (IsMap.cons (IsMap.cons (IsMap.cons (IsMap.cons (IsMap.nil))))) | exact IsMap.cons (IsMap.cons (IsMap.cons (IsMap.cons (IsMap.cons (IsMap.cons (IsMap.nil)))))) | exact IsMap.cons (IsMap.cons (IsMap.cons (IsMap.cons (IsMap.cons (IsMap.cons (IsMap.cons (IsMap.nil))))))) | exact IsMap.cons (IsMap.cons (IsMap.cons (IsMap.cons (IsMap.cons (IsMap.cons (IsMap.cons (IsMap.cons (IsMap.nil)))))))) | exact IsMap.cons (IsMap.cons (IsMap.cons (IsMap.cons (IsMap.cons (IsMap.cons (IsMap.cons (IsMap.cons (IsMap.cons (IsMap.nil))))))))) | exact IsMap.cons (IsMap.cons (IsMap.cons (IsMap.cons (IsMap.cons (IsMap.cons (IsMap.cons (IsMap.cons (IsMap.cons (IsMap.cons (IsMap.nil)))))))))) | exact IsMap.cons (IsMap.cons (IsMap.cons (IsMap.cons (IsMap.cons (IsMap.cons (IsMap.cons (IsMap.cons (IsMap.cons (IsMap.cons (IsMap.cons (IsMap.nil))))))))))) | exact IsMap.cons (IsMap.cons (IsMap.cons (IsMap.cons (IsMap.cons (IsMap.cons (IsMap.cons (IsMap.cons (IsMap.cons (IsMap.cons (IsMap.cons (IsMap.cons (IsMap.nil)))))))))))) | exact IsMap.cons (IsMap.cons (IsMap.cons (IsMap.cons (IsMap.cons (IsMap.cons (IsMap.cons (IsMap.cons (IsMap.cons (IsMap.cons (IsMap.cons (IsMap.cons (IsMap.cons (IsMap.nil))))))))))))) | exact IsMap.cons (IsMap.cons (IsMap.cons (IsMap.cons (IsMap.cons (IsMap.cons (IsMap.cons (IsMap.cons (IsMap.cons (IsMap.cons (IsMap.cons (IsMap.cons (IsMap.cons (IsMap.cons (IsMap.nil)))))))))))))) | exact IsMap.cons (IsMap.cons (IsMap.cons (IsMap.cons (IsMap.cons (IsMap.cons (IsMap.cons (IsMap.cons (IsMap.cons (IsMap.cons (IsMap.cons (IsMap.cons (IsMap.cons (IsMap.cons (IsMap.cons (IsMap.nil))))))))))))))) | exact IsMap.cons (IsMap.cons (IsMap.cons (IsMap.cons (IsMap.cons (IsMap.cons (IsMap.cons (IsMap.cons (IsMap.cons (IsMap.cons (IsMap.cons (IsMap.cons (IsMap.cons (IsMap.cons (IsMap.cons (IsMap.cons (IsMap.nil))))))))))))))))
    case i2 => first | exact IsMap.cons (IsMap.cons (IsMap.cons (IsMap.cons (IsMap.cons (IsMap.cons (IsMap.cons (IsMap.cons (IsMap.cons (IsMap.cons (IsMap.cons (IsMap.cons (IsMap.nil))))))))))))
    case a1 => first | exact Agree.cons rfl (Agree.cons rfl (Agree.nil)) | exact Agree.cons rfl (Agree.cons rfl (Agree.cons rfl (Agree.nil))) | exact Agree.cons rfl (Agree.cons rfl (Agree.cons rfl (Agree.cons rfl (Agree.nil)))) | exact Agree.cons rfl (Agree.cons rfl (Agree.cons rfl (Agree.cons rfl (Agree.cons rfl (Agree.nil))))) | exact Agree.cons rfl (Agree.cons rfl (Agree.cons rfl (Agree.cons rfl (Agree.cons rfl (Agree.cons rfl (Agree.nil)))))) | exact Agree.cons rfl (Agree.cons rfl (Agree.cons rfl (Agree.cons rfl (Agree.cons rfl (Agree.cons rfl (Agree.cons rfl (Agree.nil))))))) | exact Agree.cons rfl (Agree.cons rfl (Agree.cons rfl (Agree.cons rfl (Agree.cons rfl (Agree.cons rfl (Agree.cons rfl (Agree.cons rfl (Agree.nil)))))))) | exact Agree.cons rfl (Agree.cons rfl (Agree.cons rfl (Agree.cons rfl (Agree.cons rfl (Agree.cons rfl (Agree.cons rfl (Agree.cons rfl (Agree.cons rfl (Agree.nil))))))))) | exact Agree.cons rfl (Agree.cons rfl (Agree.cons rfl (Agree.cons rfl (Agree.cons rfl (Agree.cons rfl (Agree.cons rfl (Agree.cons rfl (Agree.cons rfl (Agree.cons rfl (Agree.nil)))))))))) | exact Agree.cons rfl (Agree.cons rfl (Agree.cons rfl (Agree.cons rfl (Agree.cons rfl (Agree.cons rfl (Agree.cons rfl (Agree.cons rfl (Agree.cons rfl (Agree.cons rfl (Agree.cons rfl (Agree.nil))))))))))) | exact Agree.cons rfl (Agree.cons rfl (Agree.cons rfl (Agree.cons rfl (Agree.cons rfl (Agree.cons rfl (Agree.cons rfl (Agree.cons rfl (Agree.cons rfl (Agree.cons rfl (Agree.cons rfl (Agree.cons rfl (Agree.nil)))))))))))) | exact Agree.cons rfl (Agree.cons rfl (Agree.cons rfl (Agree.cons rfl (Agree.cons rfl (Agree.cons rfl (Agree.cons rfl (Agree.cons rfl (Agree.cons rfl (Agree.cons rfl (Agree.cons rfl (Agree.cons rfl (Agree.cons rfl (Agree.nil))))))))))))) | exact Agree.cons rfl (Agree.cons rfl (Agree.cons rfl (Agree.cons rfl (Agree.cons rfl (Agree.cons rfl (Agree.cons rfl (Agree.cons rfl (Agree.cons rfl (Agree.cons rfl (Agree.cons rfl (Agree.cons rfl (Agree.cons rfl (Agree.cons rfl (Agree.nil)))))))))))))) | exact Agree.cons rfl (Agree.cons rfl (Agree.cons rfl (Agree.cons rfl (Agree.cons rfl (Agree.cons rfl (Agree.cons rfl (Agree.cons rfl (Agree.cons rfl (Agree.cons rfl (Agree.cons rfl (Agree.cons rfl (Agree.cons rfl (Agree.cons rfl (Agree.cons rfl (Agree.nil))))))))))))))) | exact Agree.cons rfl (Agree.cons rfl (Agree.cons rfl (Agree.cons rfl (Agree.cons rfl (Agree.cons rfl (Agree.cons rfl (Agree.cons rfl (Agree.cons rfl (Agree.cons rfl (Agree.cons rfl (Agree.cons rfl (Agree.cons rfl (Agree.cons rfl (Agree.cons rfl (Agree.cons rfl (Agree.nil))))))))))))))))
    case a2 => first | exact Agree.cons rfl (Agree.cons rfl (Agree.cons rfl (Agree.cons rfl (Agree.cons rfl (Agree.cons rfl (Agree.cons rfl (Agree.cons rfl (Agree.cons rfl (Agree.cons rfl (Agree.cons rfl (Agree.cons rfl (Agree.nil))))))))))))
    )
  have N8 : News h₀ L _ ((W, listOf vsW'.toArray nW) :: (HD, oD') :: (R, listOf vsR'.toArray nR) :: (H, oH') :: (dS, dictOf [⟨hS0, .str (Str.ofString "iset") kS0, .none⟩, ⟨hS1, .str (Str.ofString "regs") kS1, .ref R⟩, ⟨hS2, .str (Str.ofString "xmm") kS2, .ref Xm⟩, ⟨hS3, .str (Str.ofString "flags") kS3, .ref Fl⟩, ⟨hS4, .str (Str.ofString "memory") kS4, .ref Me⟩, ⟨hS5, .str (Str.ofString "rip") kS5, .int pl' trip'⟩, ⟨hS6, .str (Str.ofString "begin") kS6, .int 0 tbg⟩, ⟨hS7, .str (Str.ofString "segments") kS7, .ref Sg⟩, ⟨hS8, .str (Str.ofString "is_halted") kS8, .bool false⟩] 9) :: (dFl, dictOf [⟨hFl0, .str (Str.ofString "cf") kFl0, .int b0 tf0'⟩, ⟨hFl1, .str (Str.ofString "pf") kFl1, .int b1 tf1'⟩, ⟨hFl2, .str (Str.ofString "af") kFl2, .int b2 tf2'⟩, ⟨hFl3, .str (Str.ofString "zf") kFl3, .int b3 tf3'⟩, ⟨hFl4, .str (Str.ofString "sf") kFl4, .int b4 tf4'⟩, ⟨hFl5, .str (Str.ofString "of") kFl5, .int b5 tf5'⟩, ⟨hFl6, .str (Str.ofString "df") kFl6, .int b6 tf6'⟩] 7) :: rest') := news_of N9 (by walk_at "subN")
  refine t5 (fa := fa) (cd := cd) (l := l) (c := []) X T B hl hi hn F8 N8 ap' mS mF mM mMd mB' iW' iR' ?_ _ hst
  intro h7 tk7 F7 N7
  exact nxt Bt nB _ _ _ _ _ _ _ _ _ _ _ _ _ _ vsW' vsR' oD' oH' ws' c' pl' tPl _ _ _ _ _ _ _ _ rest' _ _ _ _ _ _ _ _ h7 tk7 F7 N7 ap' sub9 mB' (.inl rfl) iW' iR' D1' D2' hb hws' hc'
theorem t4e (hw : way = 15) (hf : ¬ far % 4 = 3) : ∀ st, lawSt = some st → TurnGoal w fa cd L 4 Q s st := by
  refine' law_open ?k ?_
  (case k => exact rfl)
  intro hst
  show wpAny _ _ (execs (List.cons _ _) _) _ _ _
  have lC7 := CutMark.mk
  have lQ := QuickMark.mk
  have lM := LoopMark.mk
  have lT := TurnMark.mk
  have hf2 := Int.fmod_eq_emod_of_nonneg far (b := 4) (by decide)
  rw [← hf2] at hf
  clear hf2
  k_steps
  all_goals (try (exfalso; first | contradiction | omega))
  refine stop_out ?_
  (rename Fr h₀ L _ _ => F9)
  (rename News h₀ L _ _ => N9)
  k_dflt (refine t_lf B F9 X T ?hk N9 ap mS mF mM mMd mB iW iR D1 D2 hb hws hc i0 i1 g0 g1 ?un ?dp ?_ ?v0 ?v1; (case hk => exact rfl); (case v0 => first | omega | decide); (case v1 => first | omega | decide); (case un => ktr_units); (case dp => ktr_room))
  intro I Tq nTq pl' tPl vsW' oD' ws' c' rest' h9 tk9 F9' N9' ap' sub9 iW' D1' hws' hc' dd
  (try clear F)
  (try clear N)
  clear F9 N9
  replace mS := sub9 _ mS
  replace mF := sub9 _ mF
  replace mM := sub9 _ mM
  replace mMd := sub9 _ mMd
  replace mHc := sub9 _ mHc
  have mB' := sub9 _ mB
  clear mB
  k_steps
  refine stop_out ?_
  (rename Fr h₀ L _ _ => F9)
  (rename News h₀ L _ _ => N9)
  k_dflt (refine Deed.use dd F9 (news_of N9 ?ns) ?_)
  case ns => walk_at "subN"
  intro h8 tk8 l8 hp F8 N8
  obtain @⟨vsR', oH', trip', tf0', tf1', tf2', tf3', tf4', tf5', tf6', iR', D2'⟩ := hp
  (try dsimp only at N8 iR' D2')
  (try clear F9 N9)
  (try clear F9' N9')
  clear dd
  have lI := IfMark.mk
  k_steps
  refine stop_out ?_
  (rename Fr h₀ L _ _ => F9)
  (rename News h₀ L _ _ => N9)
  have F8 : Fr h₀ L _ (fun y => if y = Str.ofString "cell" then uc else if y = Str.ofString "way" then some (.int way tw) else if y = Str.ofString "one" then some (.int one to) else if y = Str.ofString "other" then some (.int other tt) else if y = Str.ofString "far" then some (.int far tf) else if y = Str.ofString "place" then some (.int pl' tPl) else if y = Str.ofString "deed" then some (.ref I) else if y = Str.ofString "bits" then some (.ref Bt) else if y = Str.ofString "did" then some (.bool true) else if y = Str.ofString "spot" then us else if y = Str.ofString "state" then some (.ref S) else if y = Str.ofString "worths" then some (.ref W) else none) := fr_to F9 (by
    refine' map_agree ?i1 ?i2 ?a1 ?a2
    case i1 => first | exact IsMap.cons (IsMap.cons (IsMap.nil)) | exact IsMap.cons (IsMap.cons (IsMap.cons (IsMap.nil))) | exact IsMap.cons (IsMap.cons (IsMap.cons (IsMap.cons (IsMap.nil)))) | exact IsMap.cons (IsMap.cons (IsMap.cons (IsMap.cons (IsMap.cons (IsMap.nil))))) | exact IsMap.cons (IsMap.cons (IsMap.cons (IsMap.cons (IsMap.cons (IsMap.cons (IsMap.nil)))))) | exact IsMap.cons (IsMap.cons (IsMap.cons (IsMap.cons (IsMap.cons (IsMap.cons (IsMap.cons (IsMap.nil))))))) | exact IsMap.cons (IsMap.cons (IsMap.cons (IsMap.cons (IsMap.cons (IsMap.cons (IsMap.cons (IsMap.cons (IsMap.nil)))))))) | exact IsMap.cons (IsMap.cons (IsMap.cons (IsMap.cons (IsMap.cons (IsMap.cons (IsMap.cons (IsMap.cons (IsMap.cons (IsMap.nil))))))))) | exact IsMap.cons (IsMap.cons (IsMap.cons (IsMap.cons (IsMap.cons (IsMap.cons (IsMap.cons (IsMap.cons (IsMap.cons (IsMap.cons (IsMap.nil)))))))))) | exact IsMap.cons (IsMap.cons (IsMap.cons (IsMap.cons (IsMap.cons (IsMap.cons (IsMap.cons (IsMap.cons (IsMap.cons (IsMap.cons (IsMap.cons (IsMap.nil))))))))))) | exact IsMap.cons (IsMap.cons (IsMap.cons (IsMap.cons (IsMap.cons (IsMap.cons (IsMap.cons (IsMap.cons (IsMap.cons (IsMap.cons (IsMap.cons (IsMap.cons (IsMap.nil)))))))))))) | exact IsMap.cons (IsMap.cons (IsMap.cons (IsMap.cons (IsMap.cons (IsMap.cons (IsMap.cons (IsMap.cons (IsMap.cons (IsMap.cons (IsMap.cons (IsMap.cons (IsMap.cons (IsMap.nil))))))))))))) | exact IsMap.cons (IsMap.cons (IsMap.cons (IsMap.cons (IsMap.cons (IsMap.cons (IsMap.cons (IsMap.cons (IsMap.cons (IsMap.cons (IsMap.cons (IsMap.cons (IsMap.cons (IsMap.cons (IsMap.nil)))))))))))))) | exact IsMap.cons (IsMap.cons (IsMap.cons (IsMap.cons (IsMap.cons (IsMap.cons (IsMap.cons (IsMap.cons (IsMap.cons (IsMap.cons (IsMap.cons (IsMap.cons (IsMap.cons (IsMap.cons (IsMap.cons (IsMap.nil))))))))))))))) | exact IsMap.cons (IsMap.cons (IsMap.cons (IsMap.cons (IsMap.cons (IsMap.cons (IsMap.cons (IsMap.cons (IsMap.cons (IsMap.cons (IsMap.cons (IsMap.cons (IsMap.cons (IsMap.cons (IsMap.cons (IsMap.cons (IsMap.nil))))))))))))))))
    case i2 => first | exact IsMap.cons (IsMap.cons (IsMap.cons (IsMap.cons (IsMap.cons (IsMap.cons (IsMap.cons (IsMap.cons (IsMap.cons (IsMap.cons (IsMap.cons (IsMap.cons (IsMap.nil))))))))))))
    case a1 => first | exact Agree.cons rfl (Agree.cons rfl (Agree.nil)) | exact Agree.cons rfl (Agree.cons rfl (Agree.cons rfl (Agree.nil))) | exact Agree.cons rfl (Agree.cons rfl (Agree.cons rfl (Agree.cons rfl (Agree.nil)))) | exact Agree.cons rfl (Agree.cons rfl (Agree.cons rfl (Agree.cons rfl (Agree.cons rfl (Agree.nil))))) | exact Agree.cons rfl (Agree.cons rfl (Agree.cons rfl (Agree.cons rfl (Agree.cons rfl (Agree.cons rfl (Agree.nil)))))) | exact Agree.cons rfl (Agree.cons rfl (Agree.cons rfl (Agree.cons rfl (Agree.cons rfl (Agree.cons rfl (Agree.cons rfl (Agree.nil))))))) | exact Agree.cons rfl (Agree.cons rfl (Agree.cons rfl (Agree.cons rfl (Agree.cons rfl (Agree.cons rfl (Agree.cons rfl (Agree.cons rfl (Agree.nil)))))))) | exact Agree.cons rfl (Agree.cons rfl (Agree.cons rfl (Agree.cons rfl (Agree.cons rfl (Agree.cons rfl (Agree.cons rfl (Agree.cons rfl (Agree.cons rfl (Agree.nil))))))))) | exact Agree.cons rfl (Agree.cons rfl (Agree.cons rfl (Agree.cons rfl (Agree.cons rfl (Agree.cons rfl (Agree.cons rfl (Agree.cons rfl (Agree.cons rfl (Agree.cons rfl (Agree.nil)))))))))) | exact Agree.cons rfl (Agree.cons rfl (Agree.cons rfl (Agree.cons rfl (Agree.cons rfl (Agree.cons rfl (Agree.cons rfl (Agree.cons rfl (Agree.cons rfl (Agree.cons rfl (Agree.cons rfl (Agree.nil))))))))))) | exact Agree.cons rfl (Agree.cons rfl (Agree.cons rfl (Agree.cons rfl (Agree.cons rfl (Agree.cons rfl (Agree.cons rfl (Agree.cons rfl (Agree.cons rfl (Agree.cons rfl (Agree.cons rfl (Agree.cons rfl (Agree.nil)))))))))))) | exact Agree.cons rfl (Agree.cons rfl (Agree.cons rfl (Agree.cons rfl (Agree.cons rfl (Agree.cons rfl (Agree.cons rfl (Agree.cons rfl (Agree.cons rfl (Agree.cons rfl (Agree.cons rfl (Agree.cons rfl (Agree.cons rfl (Agree.nil))))))))))))) | exact Agree.cons rfl (Agree.cons rfl (Agree.cons rfl (Agree.cons rfl (Agree.cons rfl (Agree.cons rfl (Agree.cons rfl (Agree.cons rfl (Agree.cons rfl (Agree.cons rfl (Agree.cons rfl (Agree.cons rfl (Agree.cons rfl (Agree.cons rfl (Agree.nil)))))))))))))) | exact Agree.cons rfl (Agree.cons rfl (Agree.cons rfl (Agree.cons rfl (Agree.cons rfl (Agree.cons rfl (Agree.cons rfl (Agree.cons rfl (Agree.cons rfl (Agree.cons rfl (Agree.cons rfl (Agree.cons rfl (Agree.cons rfl (Agree.cons rfl (Agree.cons rfl (Agree.nil))))))))))))))) | exact Agree.cons rfl (Agree.cons rfl (Agree.cons rfl (Agree.cons rfl (Agree.cons rfl (Agree.cons rfl (Agree.cons rfl (Agree.cons rfl (Agree.cons rfl (Agree.cons rfl (Agree.cons rfl (Agree.cons rfl (Agree.cons rfl (Agree.cons rfl (Agree.cons rfl (Agree.cons rfl (Agree.nil))))))))))))))))
    case a2 => first | exact Agree.cons rfl (Agree.cons rfl (Agree.cons rfl (Agree.cons rfl (Agree.cons rfl (Agree.cons rfl (Agree.cons rfl (Agree.cons rfl (Agree.cons rfl (Agree.cons rfl (Agree.cons rfl (Agree.cons rfl (Agree.nil))))))))))))
    )
  have N8 : News h₀ L _ ((W, listOf vsW'.toArray nW) :: (HD, oD') :: (R, listOf vsR'.toArray nR) :: (H, oH') :: (dS, dictOf [⟨hS0, .str (Str.ofString "iset") kS0, .none⟩, ⟨hS1, .str (Str.ofString "regs") kS1, .ref R⟩, ⟨hS2, .str (Str.ofString "xmm") kS2, .ref Xm⟩, ⟨hS3, .str (Str.ofString "flags") kS3, .ref Fl⟩, ⟨hS4, .str (Str.ofString "memory") kS4, .ref Me⟩, ⟨hS5, .str (Str.ofString "rip") kS5, .int pl' trip'⟩, ⟨hS6, .str (Str.ofString "begin") kS6, .int 0 tbg⟩, ⟨hS7, .str (Str.ofString "segments") kS7, .ref Sg⟩, ⟨hS8, .str (Str.ofString "is_halted") kS8, .bool false⟩] 9) :: (dFl, dictOf [⟨hFl0, .str (Str.ofString "cf") kFl0, .int b0 tf0'⟩, ⟨hFl1, .str (Str.ofString "pf") kFl1, .int b1 tf1'⟩, ⟨hFl2, .str (Str.ofString "af") kFl2, .int b2 tf2'⟩, ⟨hFl3, .str (Str.ofString "zf") kFl3, .int b3 tf3'⟩, ⟨hFl4, .str (Str.ofString "sf") kFl4, .int b4 tf4'⟩, ⟨hFl5, .str (Str.ofString "of") kFl5, .int b5 tf5'⟩, ⟨hFl6, .str (Str.ofString "df") kFl6, .int b6 tf6'⟩] 7) :: rest') := news_of N9 (by walk_at "subN")
  refine t5 (fa := fa) (cd := cd) (l := l) (c := []) X T B hl hi hn F8 N8 ap' mS mF mM mMd mB' iW' iR' ?_ _ hst
  intro h7 tk7 F7 N7
  exact nxt Bt nB _ _ _ _ _ _ _ _ _ _ _ _ _ _ vsW' vsR' oD' oH' ws' c' pl' tPl _ _ _ _ _ _ _ _ rest' _ _ _ _ _ _ _ _ h7 tk7 F7 N7 ap' sub9 mB' (.inl rfl) iW' iR' D1' D2' hb hws' hc'
theorem t4a (hw : way < 10) : ∀ st, lawSt = some st → TurnGoal w fa cd L 4 Q s st := by
  refine' law_open ?k ?_
  (case k => exact rfl)
  intro hst
  show wpAny _ _ (execs (List.cons _ _) _) _ _ _
  have lC7 := CutMark.mk
  have lQ := QuickMark.mk
  have lM := LoopMark.mk
  have lT := TurnMark.mk
  k_steps
  all_goals (try (exfalso; first | contradiction | omega))
  refine stop_out ?_
  (rename Fr h₀ L _ _ => F9)
  (rename News h₀ L _ _ => N9)
  k_dflt (refine t_ls B F9 X T ?hk N9 ap mS mF mM mMd mB iW iR D1 D2 hb hws hc i0 i1 g0 g1 ?un ?dp ?_ ?v0 ?v1; (case hk => exact rfl); (case v0 => first | omega | decide); (case v1 => first | omega | decide); (case un => ktr_units); (case dp => ktr_room))
  intro I Tq nTq Bt' nB' b0' b1' b2' b3' b4' b5' b6' tb0' tb1' tb2' tb3' tb4' tb5' tb6' vsW' oD' ws' c' rest' h9 tk9 F9' N9' ap' sub9 mB' hBt iW' D1' hb' hws' hc' dd
  (try clear F)
  (try clear N)
  clear F9 N9
  k_steps
  refine stop_out ?_
  (rename Fr h₀ L _ _ => F9)
  (rename News h₀ L _ _ => N9)
  k_dflt (refine Deed.use dd F9 (news_of N9 ?ns) ?_)
  case ns => walk_at "subN"
  intro h8 tk8 l8 hp F8 N8
  obtain @⟨vsR', oH', tf0', tf1', tf2', tf3', tf4', tf5', tf6', iR', D2'⟩ := hp
  (try dsimp only at N8 iR' D2')
  (try clear F9 N9)
  (try clear F9' N9')
  clear dd
  have lI := IfMark.mk
  k_steps
  refine stop_out ?_
  (rename Fr h₀ L _ _ => F9)
  (rename News h₀ L _ _ => N9)
  replace mS := sub9 _ mS
  replace mF := sub9 _ mF
  replace mM := sub9 _ mM
  replace mMd := sub9 _ mMd
  replace mHc := sub9 _ mHc
  have F8 : Fr h₀ L _ (fun y => if y = Str.ofString "cell" then uc else if y = Str.ofString "way" then some (.int way tw) else if y = Str.ofString "one" then some (.int one to) else if y = Str.ofString "other" then some (.int other tt) else if y = Str.ofString "far" then some (.int far tf) else if y = Str.ofString "place" then some (.int place tpl) else if y = Str.ofString "deed" then some (.ref I) else if y = Str.ofString "bits" then some (.ref Bt') else if y = Str.ofString "did" then some (.bool true) else if y = Str.ofString "spot" then us else if y = Str.ofString "state" then some (.ref S) else if y = Str.ofString "worths" then some (.ref W) else none) := fr_to F9 (by
    refine' map_agree ?i1 ?i2 ?a1 ?a2
    case i1 => first | exact IsMap.cons (IsMap.cons (IsMap.nil)) | exact IsMap.cons (IsMap.cons (IsMap.cons (IsMap.nil))) | exact IsMap.cons (IsMap.cons (IsMap.cons (IsMap.cons (IsMap.nil)))) | exact IsMap.cons (IsMap.cons (IsMap.cons (IsMap.cons (IsMap.cons (IsMap.nil))))) | exact IsMap.cons (IsMap.cons (IsMap.cons (IsMap.cons (IsMap.cons (IsMap.cons (IsMap.nil)))))) | exact IsMap.cons (IsMap.cons (IsMap.cons (IsMap.cons (IsMap.cons (IsMap.cons (IsMap.cons (IsMap.nil))))))) | exact IsMap.cons (IsMap.cons (IsMap.cons (IsMap.cons (IsMap.cons (IsMap.cons (IsMap.cons (IsMap.cons (IsMap.nil)))))))) | exact IsMap.cons (IsMap.cons (IsMap.cons (IsMap.cons (IsMap.cons (IsMap.cons (IsMap.cons (IsMap.cons (IsMap.cons (IsMap.nil))))))))) | exact IsMap.cons (IsMap.cons (IsMap.cons (IsMap.cons (IsMap.cons (IsMap.cons (IsMap.cons (IsMap.cons (IsMap.cons (IsMap.cons (IsMap.nil)))))))))) | exact IsMap.cons (IsMap.cons (IsMap.cons (IsMap.cons (IsMap.cons (IsMap.cons (IsMap.cons (IsMap.cons (IsMap.cons (IsMap.cons (IsMap.cons (IsMap.nil))))))))))) | exact IsMap.cons (IsMap.cons (IsMap.cons (IsMap.cons (IsMap.cons (IsMap.cons (IsMap.cons (IsMap.cons (IsMap.cons (IsMap.cons (IsMap.cons (IsMap.cons (IsMap.nil)))))))))))) | exact IsMap.cons (IsMap.cons (IsMap.cons (IsMap.cons (IsMap.cons (IsMap.cons (IsMap.cons (IsMap.cons (IsMap.cons (IsMap.cons (IsMap.cons (IsMap.cons (IsMap.cons (IsMap.nil))))))))))))) | exact IsMap.cons (IsMap.cons (IsMap.cons (IsMap.cons (IsMap.cons (IsMap.cons (IsMap.cons (IsMap.cons (IsMap.cons (IsMap.cons (IsMap.cons (IsMap.cons (IsMap.cons (IsMap.cons (IsMap.nil)))))))))))))) | exact IsMap.cons (IsMap.cons (IsMap.cons (IsMap.cons (IsMap.cons (IsMap.cons (IsMap.cons (IsMap.cons (IsMap.cons (IsMap.cons (IsMap.cons (IsMap.cons (IsMap.cons (IsMap.cons (IsMap.cons (IsMap.nil))))))))))))))) | exact IsMap.cons (IsMap.cons (IsMap.cons (IsMap.cons (IsMap.cons (IsMap.cons (IsMap.cons (IsMap.cons (IsMap.cons (IsMap.cons (IsMap.cons (IsMap.cons (IsMap.cons (IsMap.cons (IsMap.cons (IsMap.cons (IsMap.nil))))))))))))))))
    case i2 => first | exact IsMap.cons (IsMap.cons (IsMap.cons (IsMap.cons (IsMap.cons (IsMap.cons (IsMap.cons (IsMap.cons (IsMap.cons (IsMap.cons (IsMap.cons (IsMap.cons (IsMap.nil))))))))))))
    case a1 => first | exact Agree.cons rfl (Agree.cons rfl (Agree.nil)) | exact Agree.cons rfl (Agree.cons rfl (Agree.cons rfl (Agree.nil))) | exact Agree.cons rfl (Agree.cons rfl (Agree.cons rfl (Agree.cons rfl (Agree.nil)))) | exact Agree.cons rfl (Agree.cons rfl (Agree.cons rfl (Agree.cons rfl (Agree.cons rfl (Agree.nil))))) | exact Agree.cons rfl (Agree.cons rfl (Agree.cons rfl (Agree.cons rfl (Agree.cons rfl (Agree.cons rfl (Agree.nil)))))) | exact Agree.cons rfl (Agree.cons rfl (Agree.cons rfl (Agree.cons rfl (Agree.cons rfl (Agree.cons rfl (Agree.cons rfl (Agree.nil))))))) | exact Agree.cons rfl (Agree.cons rfl (Agree.cons rfl (Agree.cons rfl (Agree.cons rfl (Agree.cons rfl (Agree.cons rfl (Agree.cons rfl (Agree.nil)))))))) | exact Agree.cons rfl (Agree.cons rfl (Agree.cons rfl (Agree.cons rfl (Agree.cons rfl (Agree.cons rfl (Agree.cons rfl (Agree.cons rfl (Agree.cons rfl (Agree.nil))))))))) | exact Agree.cons rfl (Agree.cons rfl (Agree.cons rfl (Agree.cons rfl (Agree.cons rfl (Agree.cons rfl (Agree.cons rfl (Agree.cons rfl (Agree.cons rfl (Agree.cons rfl (Agree.nil)))))))))) | exact Agree.cons rfl (Agree.cons rfl (Agree.cons rfl (Agree.cons rfl (Agree.cons rfl (Agree.cons rfl (Agree.cons rfl (Agree.cons rfl (Agree.cons rfl (Agree.cons rfl (Agree.cons rfl (Agree.nil))))))))))) | exact Agree.cons rfl (Agree.cons rfl (Agree.cons rfl (Agree.cons rfl (Agree.cons rfl (Agree.cons rfl (Agree.cons rfl (Agree.cons rfl (Agree.cons rfl (Agree.cons rfl (Agree.cons rfl (Agree.cons rfl (Agree.nil)))))))))))) | exact Agree.cons rfl (Agree.cons rfl (Agree.cons rfl (Agree.cons rfl (Agree.cons rfl (Agree.cons rfl (Agree.cons rfl (Agree.cons rfl (Agree.cons rfl (Agree.cons rfl (Agree.cons rfl (Agree.cons rfl (Agree.cons rfl (Agree.nil))))))))))))) | exact Agree.cons rfl (Agree.cons rfl (Agree.cons rfl (Agree.cons rfl (Agree.cons rfl (Agree.cons rfl (Agree.cons rfl (Agree.cons rfl (Agree.cons rfl (Agree.cons rfl (Agree.cons rfl (Agree.cons rfl (Agree.cons rfl (Agree.cons rfl (Agree.nil)))))))))))))) | exact Agree.cons rfl (Agree.cons rfl (Agree.cons rfl (Agree.cons rfl (Agree.cons rfl (Agree.cons rfl (Agree.cons rfl (Agree.cons rfl (Agree.cons rfl (Agree.cons rfl (Agree.cons rfl (Agree.cons rfl (Agree.cons rfl (Agree.cons rfl (Agree.cons rfl (Agree.nil))))))))))))))) | exact Agree.cons rfl (Agree.cons rfl (Agree.cons rfl (Agree.cons rfl (Agree.cons rfl (Agree.cons rfl (Agree.cons rfl (Agree.cons rfl (Agree.cons rfl (Agree.cons rfl (Agree.cons rfl (Agree.cons rfl (Agree.cons rfl (Agree.cons rfl (Agree.cons rfl (Agree.cons rfl (Agree.nil))))))))))))))))
    case a2 => first | exact Agree.cons rfl (Agree.cons rfl (Agree.cons rfl (Agree.cons rfl (Agree.cons rfl (Agree.cons rfl (Agree.cons rfl (Agree.cons rfl (Agree.cons rfl (Agree.cons rfl (Agree.cons rfl (Agree.cons rfl (Agree.nil))))))))))))
    )
  have N8 : News h₀ L _ ((W, listOf vsW'.toArray nW) :: (HD, oD') :: (R, listOf vsR'.toArray nR) :: (H, oH') :: (dS, dictOf [⟨hS0, .str (Str.ofString "iset") kS0, .none⟩, ⟨hS1, .str (Str.ofString "regs") kS1, .ref R⟩, ⟨hS2, .str (Str.ofString "xmm") kS2, .ref Xm⟩, ⟨hS3, .str (Str.ofString "flags") kS3, .ref Fl⟩, ⟨hS4, .str (Str.ofString "memory") kS4, .ref Me⟩, ⟨hS5, .str (Str.ofString "rip") kS5, .int place trip⟩, ⟨hS6, .str (Str.ofString "begin") kS6, .int 0 tbg⟩, ⟨hS7, .str (Str.ofString "segments") kS7, .ref Sg⟩, ⟨hS8, .str (Str.ofString "is_halted") kS8, .bool false⟩] 9) :: (dFl, dictOf [⟨hFl0, .str (Str.ofString "cf") kFl0, .int b0' tf0'⟩, ⟨hFl1, .str (Str.ofString "pf") kFl1, .int b1' tf1'⟩, ⟨hFl2, .str (Str.ofString "af") kFl2, .int b2' tf2'⟩, ⟨hFl3, .str (Str.ofString "zf") kFl3, .int b3' tf3'⟩, ⟨hFl4, .str (Str.ofString "sf") kFl4, .int b4' tf4'⟩, ⟨hFl5, .str (Str.ofString "of") kFl5, .int b5' tf5'⟩, ⟨hFl6, .str (Str.ofString "df") kFl6, .int b6' tf6'⟩] 7) :: rest') := news_of N9 (by walk_at "subN")
  refine t5 (fa := fa) (cd := cd) (l := l) (c := []) X T B hl hi hn F8 N8 ap' mS mF mM mMd mB' iW' iR' ?_ _ hst
  intro h7 tk7 F7 N7
  exact nxt Bt' nB' _ _ _ _ _ _ _ _ _ _ _ _ _ _ vsW' vsR' oD' oH' ws' c' place tpl _ _ _ _ _ _ _ _ rest' _ _ _ _ _ _ _ _ h7 tk7 F7 N7 ap' sub9 mB' hBt iW' iR' D1' D2' hb' hws' hc'
theorem t4  : ∀ st, lawSt = some st → TurnGoal w fa cd L 4 Q s st := by
  by_cases h1 : way < 10
  · exact t4a X T B hl hi hn F N ap mS mF mM mMd mB mHc dHc iW iR D1 D2 hb hws hc w0 w1 i0 i1 j0 j1 g0 g1 nxt h1
  · by_cases h2 : way < 13
    · exact t4c X T B hl hi hn F N ap mS mF mM mMd mB mHc dHc iW iR D1 D2 hb hws hc w0 w1 i0 i1 j0 j1 g0 g1 nxt (by omega) h2
    · by_cases h3 : way < 15
      · exact t4d X T B hl hi hn F N ap mS mF mM mMd mB mHc dHc iW iR D1 D2 hb hws hc w0 w1 i0 i1 j0 j1 g0 g1 nxt (by omega) h3
      · have h4 : way = 15 := by omega
        subst h4
        by_cases h5 : far % 4 = 3
        · exact t4b X T B hl hi hn F N ap mS mF mM mMd mB mHc dHc iW iR D1 D2 hb hws hc w0 w1 i0 i1 j0 j1 g0 g1 nxt rfl h5
        · exact t4e X T B hl hi hn F N ap mS mF mM mMd mB mHc dHc iW iR D1 D2 hb hws hc w0 w1 i0 i1 j0 j1 g0 g1 nxt rfl h5
end
theorem t2 {w : World} {h₀ : Heap} {s : Shared} {L : Addr} {p : Program} {loose : List Str} {mean : ExcName → Option Value} {mg mb : Str → Option Value} {Q : Flow → Shared → Prop} {l : Addr} {vs : List Value} {ns : List Int} {fa : Addr} {cd : Value} {W HD Bt : Addr} {vsW : List Value} {nW nB : Nat} {oD : Obj} {tb0 tb1 tb2 tb3 tb4 tb5 tb6 : Tok} {S R Xm Fl Me Sg : Addr} {rip : Int} {trip tbg : Tok} {dS : Addr} {hS0 hS1 hS2 hS3 hS4 hS5 hS6 hS7 hS8 : Int} {kS0 kS1 kS2 kS3 kS4 kS5 kS6 kS7 kS8 : Tok} {vsR : List Value} {ws : List Int} {nR : Nat} {H : Addr} {dMe : Addr} {hMe0 : Int} {kMe0 : Tok} {oH : Obj} {c : List (Int × Int)} {b0 b1 b2 b3 b4 b5 b6 : Int} {tf0 tf1 tf2 tf3 tf4 tf5 tf6 : Tok} {dFl : Addr} {hFl0 hFl1 hFl2 hFl3 hFl4 hFl5 hFl6 : Int} {kFl0 kFl1 kFl2 kFl3 kFl4 kFl5 kFl6 : Tok} {rest : List (Addr × Obj)} {uc ud uu us : Option Value} {way one other far pl0 : Int} {tw to tt tf tp0 : Tok} (X : (hd.heap_39 w.params).In h₀) (T : Top p loose mean mg mb h₀) (B : Below callerA h₀ [] h₀) (hl : h₀.IsList l vs.toArray) (hi : IntsAre vs ns) (hn : ns.length < 64) (F : Fr h₀ L s.heap (fun y => if y = Str.ofString "cell" then uc else if y = Str.ofString "way" then some (.int way tw) else if y = Str.ofString "one" then some (.int one to) else if y = Str.ofString "other" then some (.int other tt) else if y = Str.ofString "far" then some (.int far tf) else if y = Str.ofString "place" then some (.int pl0 tp0) else if y = Str.ofString "deed" then ud else if y = Str.ofString "bits" then some (.ref Bt) else if y = Str.ofString "did" then uu else if y = Str.ofString "spot" then us else if y = Str.ofString "state" then some (.ref S) else if y = Str.ofString "worths" then some (.ref W) else none)) (N : News h₀ L s.heap ((W, listOf vsW.toArray nW) :: (HD, oD) :: (R, listOf vsR.toArray nR) :: (H, oH) :: (dS, dictOf [⟨hS0, .str (Str.ofString "iset") kS0, .none⟩, ⟨hS1, .str (Str.ofString "regs") kS1, .ref R⟩, ⟨hS2, .str (Str.ofString "xmm") kS2, .ref Xm⟩, ⟨hS3, .str (Str.ofString "flags") kS3, .ref Fl⟩, ⟨hS4, .str (Str.ofString "memory") kS4, .ref Me⟩, ⟨hS5, .str (Str.ofString "rip") kS5, .int rip trip⟩, ⟨hS6, .str (Str.ofString "begin") kS6, .int 0 tbg⟩, ⟨hS7, .str (Str.ofString "segments") kS7, .ref Sg⟩, ⟨hS8, .str (Str.ofString "is_halted") kS8, .bool false⟩] 9) :: (dFl, dictOf [⟨hFl0, .str (Str.ofString "cf") kFl0, .int b0 tf0⟩, ⟨hFl1, .str (Str.ofString "pf") kFl1, .int b1 tf1⟩, ⟨hFl2, .str (Str.ofString "af") kFl2, .int b2 tf2⟩, ⟨hFl3, .str (Str.ofString "zf") kFl3, .int b3 tf3⟩, ⟨hFl4, .str (Str.ofString "sf") kFl4, .int b4 tf4⟩, ⟨hFl5, .str (Str.ofString "of") kFl5, .int b5 tf5⟩, ⟨hFl6, .str (Str.ofString "df") kFl6, .int b6 tf6⟩] 7) :: rest)) (ap : Apart W HD R H dS dFl rest) (mS : (S, instObj 546 dS) ∈ rest) (mF : (Fl, instObj 174 dFl) ∈ rest) (mM : (Me, instObj 429 dMe) ∈ rest) (mMd : (dMe, dictOf [⟨hMe0, .str (Str.ofString "held") kMe0, .ref H⟩] 1) ∈ rest) (mB : (Bt, { cls := .type "tuple", data := .seq (List.toArray [.int b0 tb0, .int b1 tb1, .int b2 tb2, .int b3 tb3, .int b4 tb4, .int b5 tb5, .int b6 tb6]) nB }) ∈ rest) {oHc : Obj} (mHc : (L + 2, oHc) ∈ rest) (dHc : oHc.data = .cell (some (.ref HD))) (iW : IntsAre vsW ws) (iR : IntsAre vsR ws) (D1 : DI w HD oD c) (D2 : DI w H oH c) (hb : BitsOK b0 b1 b2 b3 b4 b5 b6) (hws : WOK ws) (hc : c.length ≤ 200) (w0 : 0 ≤ way) (w1 : way < 16) (i0 : 0 ≤ one) (i1 : one < 16) (j0 : 0 ≤ other) (j1 : other < 16) (g0 : -2147483648 ≤ far) (g1 : far < 8589934592)
  (nxt : ∀ (Bt' : Addr) (nB' : Nat) (b0' b1' b2' b3' b4' b5' b6' : Int) (tb0' tb1' tb2' tb3' tb4' tb5' tb6' : Tok) (vsW' vsR' : List Value) (oD' oH' : Obj) (ws' : List Int) (c' : List (Int × Int)) (pl' : Int) (tpl' trip' tf0' tf1' tf2' tf3' tf4' tf5' tf6' : Tok) (rest' : List (Addr × Obj)) (uc uw uo ut uf ud uu us : Option Value) h' tk', Fr h₀ L h' (fun y => if y = Str.ofString "cell" then uc else if y = Str.ofString "way" then uw else if y = Str.ofString "one" then uo else if y = Str.ofString "other" then ut else if y = Str.ofString "far" then uf else if y = Str.ofString "place" then some (.int pl' tpl') else if y = Str.ofString "deed" then ud else if y = Str.ofString "bits" then some (.ref Bt') else if y = Str.ofString "did" then uu else if y = Str.ofString "spot" then us else if y = Str.ofString "state" then some (.ref S) else if y = Str.ofString "worths" then some (.ref W) else none) → News h₀ L h' ((W, listOf vsW'.toArray nW) :: (HD, oD') :: (R, listOf vsR'.toArray nR) :: (H, oH') :: (dS, dictOf [⟨hS0, .str (Str.ofString "iset") kS0, .none⟩, ⟨hS1, .str (Str.ofString "regs") kS1, .ref R⟩, ⟨hS2, .str (Str.ofString "xmm") kS2, .ref Xm⟩, ⟨hS3, .str (Str.ofString "flags") kS3, .ref Fl⟩, ⟨hS4, .str (Str.ofString "memory") kS4, .ref Me⟩, ⟨hS5, .str (Str.ofString "rip") kS5, .int pl' trip'⟩, ⟨hS6, .str (Str.ofString "begin") kS6, .int 0 tbg⟩, ⟨hS7, .str (Str.ofString "segments") kS7, .ref Sg⟩, ⟨hS8, .str (Str.ofString "is_halted") kS8, .bool false⟩] 9) :: (dFl, dictOf [⟨hFl0, .str (Str.ofString "cf") kFl0, .int b0' tf0'⟩, ⟨hFl1, .str (Str.ofString "pf") kFl1, .int b1' tf1'⟩, ⟨hFl2, .str (Str.ofString "af") kFl2, .int b2' tf2'⟩, ⟨hFl3, .str (Str.ofString "zf") kFl3, .int b3' tf3'⟩, ⟨hFl4, .str (Str.ofString "sf") kFl4, .int b4' tf4'⟩, ⟨hFl5, .str (Str.ofString "of") kFl5, .int b5' tf5'⟩, ⟨hFl6, .str (Str.ofString "df") kFl6, .int b6' tf6'⟩] 7) :: rest') → Apart W HD R H dS dFl rest' → (∀ p ∈ rest, p ∈ rest') → (Bt', { cls := .type "tuple", data := .seq (List.toArray [.int b0' tb0', .int b1' tb1', .int b2' tb2', .int b3' tb3', .int b4' tb4', .int b5' tb5', .int b6' tb6']) nB' }) ∈ rest' → (Bt' = Bt ∨ ∀ p ∈ rest, p.1 ≠ Bt') → IntsAre vsW' ws' → IntsAre vsR' ws' → DI w HD oD' c' → DI w H oH' c' → BitsOK b0' b1' b2' b3' b4' b5' b6' → WOK ws' → c'.length ≤ c.length + 8 → Q .next { s with heap := h', toks := tk' }) : ∀ st, lawSt = some st → TurnGoal w fa cd L 2 Q s st := by
  refine' law_open ?k ?_
  (case k => exact rfl)
  intro hst
  show wpAny _ _ (execs (List.cons _ _) _) _ _ _
  have lQ := QuickMark.mk
  have lM := LoopMark.mk
  have lI := IfMark.mk
  have uS := led_dS (oW := listOf vsW.toArray nW) (oD := oD) (oR := listOf vsR.toArray nR) (oH := oH) (oS := dictOf [⟨hS0, .str (Str.ofString "iset") kS0, .none⟩, ⟨hS1, .str (Str.ofString "regs") kS1, .ref R⟩, ⟨hS2, .str (Str.ofString "xmm") kS2, .ref Xm⟩, ⟨hS3, .str (Str.ofString "flags") kS3, .ref Fl⟩, ⟨hS4, .str (Str.ofString "memory") kS4, .ref Me⟩, ⟨hS5, .str (Str.ofString "rip") kS5, .int rip trip⟩, ⟨hS6, .str (Str.ofString "begin") kS6, .int 0 tbg⟩, ⟨hS7, .str (Str.ofString "segments") kS7, .ref Sg⟩, ⟨hS8, .str (Str.ofString "is_halted") kS8, .bool false⟩] 9) (oF := dictOf [⟨hFl0, .str (Str.ofString "cf") kFl0, .int b0 tf0⟩, ⟨hFl1, .str (Str.ofString "pf") kFl1, .int b1 tf1⟩, ⟨hFl2, .str (Str.ofString "af") kFl2, .int b2 tf2⟩, ⟨hFl3, .str (Str.ofString "zf") kFl3, .int b3 tf3⟩, ⟨hFl4, .str (Str.ofString "sf") kFl4, .int b4 tf4⟩, ⟨hFl5, .str (Str.ofString "of") kFl5, .int b5 tf5⟩, ⟨hFl6, .str (Str.ofString "df") kFl6, .int b6 tf6⟩] 7) ap
  have nWHD := ap.nWHD
  have nWR := ap.nWR
  have nWH := ap.nWH
  have nWdS := ap.nWdS
  have nWdFl := ap.nWdFl
  have nHDR := ap.nHDR
  have nHDH := ap.nHDH
  have nHDdS := ap.nHDdS
  have nHDdFl := ap.nHDdFl
  have nRH := ap.nRH
  have nRdS := ap.nRdS
  have nRdFl := ap.nRdFl
  have nHdS := ap.nHdS
  have nHdFl := ap.nHdFl
  have ndSdFl := ap.ndSdFl
  have rW := ap.rW
  have rHD := ap.rHD
  have rR := ap.rR
  have rH := ap.rH
  have rdS := ap.rdS
  have rdFl := ap.rdFl
  k_steps
  refine stop_out ?_
  (rename Fr h₀ L _ _ => F9)
  (rename News h₀ L _ _ => N9)
  have Z : ∃ (place : Int) (tpl trip9 : Tok), Fr h₀ L _ (fun y => if y = Str.ofString "place" then some (.int place tpl) else if y = Str.ofString "cell" then uc else if y = Str.ofString "way" then some (.int way tw) else if y = Str.ofString "one" then some (.int one to) else if y = Str.ofString "other" then some (.int other tt) else if y = Str.ofString "far" then some (.int far tf) else if y = Str.ofString "place" then some (.int pl0 tp0) else if y = Str.ofString "deed" then ud else if y = Str.ofString "bits" then some (.ref Bt) else if y = Str.ofString "did" then uu else if y = Str.ofString "spot" then us else if y = Str.ofString "state" then some (.ref S) else if y = Str.ofString "worths" then some (.ref W) else none) ∧ News h₀ L _ ((W, listOf vsW.toArray nW) :: (HD, oD) :: (R, listOf vsR.toArray nR) :: (H, oH) :: (dS, dictOf [⟨hS0, .str (Str.ofString "iset") kS0, .none⟩, ⟨hS1, .str (Str.ofString "regs") kS1, .ref R⟩, ⟨hS2, .str (Str.ofString "xmm") kS2, .ref Xm⟩, ⟨hS3, .str (Str.ofString "flags") kS3, .ref Fl⟩, ⟨hS4, .str (Str.ofString "memory") kS4, .ref Me⟩, ⟨hS5, .str (Str.ofString "rip") kS5, .int place trip9⟩, ⟨hS6, .str (Str.ofString "begin") kS6, .int 0 tbg⟩, ⟨hS7, .str (Str.ofString "segments") kS7, .ref Sg⟩, ⟨hS8, .str (Str.ofString "is_halted") kS8, .bool false⟩] 9) :: (dFl, dictOf [⟨hFl0, .str (Str.ofString "cf") kFl0, .int b0 tf0⟩, ⟨hFl1, .str (Str.ofString "pf") kFl1, .int b1 tf1⟩, ⟨hFl2, .str (Str.ofString "af") kFl2, .int b2 tf2⟩, ⟨hFl3, .str (Str.ofString "zf") kFl3, .int b3 tf3⟩, ⟨hFl4, .str (Str.ofString "sf") kFl4, .int b4 tf4⟩, ⟨hFl5, .str (Str.ofString "of") kFl5, .int b5 tf5⟩, ⟨hFl6, .str (Str.ofString "df") kFl6, .int b6 tf6⟩] 7) :: rest) := ⟨_, _, _, F9, N9⟩
  obtain ⟨place, tpl, trip9, F8, N8⟩ := Z
  have F7 : Fr h₀ L _ (fun y => if y = Str.ofString "cell" then uc else if y = Str.ofString "way" then some (.int way tw) else if y = Str.ofString "one" then some (.int one to) else if y = Str.ofString "other" then some (.int other tt) else if y = Str.ofString "far" then some (.int far tf) else if y = Str.ofString "place" then some (.int place tpl) else if y = Str.ofString "deed" then ud else if y = Str.ofString "bits" then some (.ref Bt) else if y = Str.ofString "did" then uu else if y = Str.ofString "spot" then us else if y = Str.ofString "state" then some (.ref S) else if y = Str.ofString "worths" then some (.ref W) else none) := fr_to F8 (by
    refine' map_agree ?i1 ?i2 ?a1 ?a2
    case i1 => first | exact IsMap.cons (IsMap.cons (IsMap.nil)) | exact IsMap.cons (IsMap.cons (IsMap.cons (IsMap.nil))) | exact IsMap.cons (IsMap.cons (IsMap.cons (IsMap.cons (IsMap.nil)))) | exact IsMap.cons (IsMap.cons (IsMap.cons (IsMap.cons (IsMap.cons (IsMap.nil))))) | exact IsMap.cons (IsMap.cons (IsMap.cons (IsMap.cons (IsMap.cons (IsMap.cons (IsMap.nil)))))) | exact IsMap.cons (IsMap.cons (IsMap.cons (IsMap.cons (IsMap.cons (IsMap.cons (IsMap.cons (IsMap.nil))))))) | exact IsMap.cons (IsMap.cons (IsMap.cons (IsMap.cons (IsMap.cons (IsMap.cons (IsMap.cons (IsMap.cons (IsMap.nil)))))))) | exact IsMap.cons (IsMap.cons (IsMap.cons (IsMap.cons (IsMap.cons (IsMap.cons (IsMap.cons (IsMap.cons (IsMap.cons (IsMap.nil))))))))) | exact IsMap.cons (IsMap.cons (IsMap.cons (IsMap.cons (IsMap.cons (IsMap.cons (IsMap.cons (IsMap.cons (IsMap.cons (IsMap.cons (IsMap.nil)))))))))) | exact IsMap.cons (IsMap.cons (IsMap.cons (IsMap.cons (IsMap.cons (IsMap.cons (IsMap.cons (IsMap.cons (IsMap.cons (IsMap.cons (IsMap.cons (IsMap.nil))))))))))) | exact IsMap.cons (IsMap.cons (IsMap.cons (IsMap.cons (IsMap.cons (IsMap.cons (IsMap.cons (IsMap.cons (IsMap.cons (IsMap.cons (IsMap.cons (IsMap.cons (IsMap.nil)))))))))))) | exact IsMap.cons (IsMap.cons (IsMap.cons (IsMap.cons (IsMap.cons (IsMap.cons (IsMap.cons (IsMap.cons (IsMap.cons (IsMap.cons (IsMap.cons (IsMap.cons (IsMap.cons (IsMap.nil))))))))))))) | exact IsMap.cons (IsMap.cons (IsMap.cons (IsMap.cons (IsMap.cons (IsMap.cons (IsMap.cons (IsMap.cons (IsMap.cons (IsMap.cons (IsMap.cons (IsMap.cons (IsMap.cons (IsMap.cons (IsMap.nil)))))))))))))) | exact IsMap.cons (IsMap.cons (IsMap.cons (IsMap.cons (IsMap.cons (IsMap.cons (IsMap.cons (IsMap.cons (IsMap.cons (IsMap.cons (IsMap.cons (IsMap.cons (IsMap.cons (IsMap.cons (IsMap.cons (IsMap.nil))))))))))))))) | exact IsMap.cons (IsMap.cons (IsMap.cons (IsMap.cons (IsMap.cons (IsMap.cons (IsMap.cons (IsMap.cons (IsMap.cons (IsMap.cons (IsMap.cons (IsMap.cons (IsMap.cons (IsMap.cons (IsMap.cons (IsMap.cons (IsMap.nil))))))))))))))))
    case i2 => first | exact IsMap.cons (IsMap.cons (IsMap.cons (IsMap.cons (IsMap.cons (IsMap.cons (IsMap.cons (IsMap.cons (IsMap.cons (IsMap.cons (IsMap.cons (IsMap.cons (IsMap.nil))))))))))))
    case a1 => first | exact Agree.cons rfl (Agree.cons rfl (Agree.nil)) | exact Agree.cons rfl (Agree.cons rfl (Agree.cons rfl (Agree.nil))) | exact Agree.cons rfl (Agree.cons rfl (Agree.cons rfl (Agree.cons rfl (Agree.nil)))) | exact Agree.cons rfl (Agree.cons rfl (Agree.cons rfl (Agree.cons rfl (Agree.cons rfl (Agree.nil))))) | exact Agree.cons rfl (Agree.cons rfl (Agree.cons rfl (Agree.cons rfl (Agree.cons rfl (Agree.cons rfl (Agree.nil)))))) | exact Agree.cons rfl (Agree.cons rfl (Agree.cons rfl (Agree.cons rfl (Agree.cons rfl (Agree.cons rfl (Agree.cons rfl (Agree.nil))))))) | exact Agree.cons rfl (Agree.cons rfl (Agree.cons rfl (Agree.cons rfl (Agree.cons rfl (Agree.cons rfl (Agree.cons rfl (Agree.cons rfl (Agree.nil)))))))) | exact Agree.cons rfl (Agree.cons rfl (Agree.cons rfl (Agree.cons rfl (Agree.cons rfl (Agree.cons rfl (Agree.cons rfl (Agree.cons rfl (Agree.cons rfl (Agree.nil))))))))) | exact Agree.cons rfl (Agree.cons rfl (Agree.cons rfl (Agree.cons rfl (Agree.cons rfl (Agree.cons rfl (Agree.cons rfl (Agree.cons rfl (Agree.cons rfl (Agree.cons rfl (Agree.nil)))))))))) | exact Agree.cons rfl (Agree.cons rfl (Agree.cons rfl (Agree.cons rfl (Agree.cons rfl (Agree.cons rfl (Agree.cons rfl (Agree.cons rfl (Agree.cons rfl (Agree.cons rfl (Agree.cons rfl (Agree.nil))))))))))) | exact Agree.cons rfl (Agree.cons rfl (Agree.cons rfl (Agree.cons rfl (Agree.cons rfl (Agree.cons rfl (Agree.cons rfl (Agree.cons rfl (Agree.cons rfl (Agree.cons rfl (Agree.cons rfl (Agree.cons rfl (Agree.nil)))))))))))) | exact Agree.cons rfl (Agree.cons rfl (Agree.cons rfl (Agree.cons rfl (Agree.cons rfl (Agree.cons rfl (Agree.cons rfl (Agree.cons rfl (Agree.cons rfl (Agree.cons rfl (Agree.cons rfl (Agree.cons rfl (Agree.cons rfl (Agree.nil))))))))))))) | exact Agree.cons rfl (Agree.cons rfl (Agree.cons rfl (Agree.cons rfl (Agree.cons rfl (Agree.cons rfl (Agree.cons rfl (Agree.cons rfl (Agree.cons rfl (Agree.cons rfl (Agree.cons rfl (Agree.cons rfl (Agree.cons rfl (Agree.cons rfl (Agree.nil)))))))))))))) | exact Agree.cons rfl (Agree.cons rfl (Agree.cons rfl (Agree.cons rfl (Agree.cons rfl (Agree.cons rfl (Agree.cons rfl (Agree.cons rfl (Agree.cons rfl (Agree.cons rfl (Agree.cons rfl (Agree.cons rfl (Agree.cons rfl (Agree.cons rfl (Agree.cons rfl (Agree.nil))))))))))))))) | exact Agree.cons rfl (Agree.cons rfl (Agree.cons rfl (Agree.cons rfl (Agree.cons rfl (Agree.cons rfl (Agree.cons rfl (Agree.cons rfl (Agree.cons rfl (Agree.cons rfl (Agree.cons rfl (Agree.cons rfl (Agree.cons rfl (Agree.cons rfl (Agree.cons rfl (Agree.cons rfl (Agree.nil))))))))))))))))
    case a2 => first | exact Agree.cons rfl (Agree.cons rfl (Agree.cons rfl (Agree.cons rfl (Agree.cons rfl (Agree.cons rfl (Agree.cons rfl (Agree.cons rfl (Agree.cons rfl (Agree.cons rfl (Agree.cons rfl (Agree.cons rfl (Agree.nil))))))))))))
    )
  refine t4 (fa := fa) (cd := cd) (l := l) X T B hl hi hn F7 N8 ap mS mF mM mMd mB mHc dHc iW iR D1 D2 hb hws hc w0 w1 i0 i1 j0 j1 g0 g1 ?nx _ hst
  exact nxt
theorem far1 (x : Int) : -2147483648 ≤ x.fmod (2 ^ Int.toNat 32) - 2 ^ Int.toNat 31 ∧ x.fmod (2 ^ Int.toNat 32) - 2 ^ Int.toNat 31 < 8589934592 := by
  have e1 : (2 : Int) ^ Int.toNat 32 = 4294967296 := by decide
  have e2 : (2 : Int) ^ Int.toNat 31 = 2147483648 := by decide
  rw [e1, e2, Int.fmod_eq_emod_of_nonneg _ (by decide)]
  omega
theorem far2 {k : Int} (h0 : ¬ k < 0) (h1 : ¬ 4096 ≤ k) : -2147483648 ≤ k.fdiv 16 - 8 ∧ k.fdiv 16 - 8 < 8589934592 := by
  rw [Int.fdiv_eq_ediv_of_nonneg _ (by decide)]
  omega
theorem fm16 (x : Int) : 0 ≤ x.fmod 16 ∧ x.fmod 16 < 16 := by
  rw [Int.fmod_eq_emod_of_nonneg _ (by decide)]
  omega
theorem t0 {w : World} {h₀ : Heap} {s : Shared} {L : Addr} {p : Program} {loose : List Str} {mean : ExcName → Option Value} {mg mb : Str → Option Value} {Q : Flow → Shared → Prop} {l : Addr} {vs : List Value} {ns : List Int} {fa : Addr} {cd : Value} {W HD Bt : Addr} {vsW : List Value} {nW nB : Nat} {oD : Obj} {tb0 tb1 tb2 tb3 tb4 tb5 tb6 : Tok} {S R Xm Fl Me Sg : Addr} {rip : Int} {trip tbg : Tok} {dS : Addr} {hS0 hS1 hS2 hS3 hS4 hS5 hS6 hS7 hS8 : Int} {kS0 kS1 kS2 kS3 kS4 kS5 kS6 kS7 kS8 : Tok} {vsR : List Value} {ws : List Int} {nR : Nat} {H : Addr} {dMe : Addr} {hMe0 : Int} {kMe0 : Tok} {oH : Obj} {c : List (Int × Int)} {b0 b1 b2 b3 b4 b5 b6 : Int} {tf0 tf1 tf2 tf3 tf4 tf5 tf6 : Tok} {dFl : Addr} {hFl0 hFl1 hFl2 hFl3 hFl4 hFl5 hFl6 : Int} {kFl0 kFl1 kFl2 kFl3 kFl4 kFl5 kFl6 : Tok} {rest : List (Addr × Obj)} {uw uo ut uf ud uu us : Option Value} {tpl tk0 : Tok} {k place : Int} (X : (hd.heap_39 w.params).In h₀) (T : Top p loose mean mg mb h₀) (B : Below callerA h₀ [] h₀) (hl : h₀.IsList l vs.toArray) (hi : IntsAre vs ns) (hn : ns.length < 64) (F : Fr h₀ L s.heap (fun y => if y = Str.ofString "cell" then some (.int k tk0) else if y = Str.ofString "way" then uw else if y = Str.ofString "one" then uo else if y = Str.ofString "other" then ut else if y = Str.ofString "far" then uf else if y = Str.ofString "place" then some (.int place tpl) else if y = Str.ofString "deed" then ud else if y = Str.ofString "bits" then some (.ref Bt) else if y = Str.ofString "did" then uu else if y = Str.ofString "spot" then us else if y = Str.ofString "state" then some (.ref S) else if y = Str.ofString "worths" then some (.ref W) else none)) (N : News h₀ L s.heap ((W, listOf vsW.toArray nW) :: (HD, oD) :: (R, listOf vsR.toArray nR) :: (H, oH) :: (dS, dictOf [⟨hS0, .str (Str.ofString "iset") kS0, .none⟩, ⟨hS1, .str (Str.ofString "regs") kS1, .ref R⟩, ⟨hS2, .str (Str.ofString "xmm") kS2, .ref Xm⟩, ⟨hS3, .str (Str.ofString "flags") kS3, .ref Fl⟩, ⟨hS4, .str (Str.ofString "memory") kS4, .ref Me⟩, ⟨hS5, .str (Str.ofString "rip") kS5, .int rip trip⟩, ⟨hS6, .str (Str.ofString "begin") kS6, .int 0 tbg⟩, ⟨hS7, .str (Str.ofString "segments") kS7, .ref Sg⟩, ⟨hS8, .str (Str.ofString "is_halted") kS8, .bool false⟩] 9) :: (dFl, dictOf [⟨hFl0, .str (Str.ofString "cf") kFl0, .int b0 tf0⟩, ⟨hFl1, .str (Str.ofString "pf") kFl1, .int b1 tf1⟩, ⟨hFl2, .str (Str.ofString "af") kFl2, .int b2 tf2⟩, ⟨hFl3, .str (Str.ofString "zf") kFl3, .int b3 tf3⟩, ⟨hFl4, .str (Str.ofString "sf") kFl4, .int b4 tf4⟩, ⟨hFl5, .str (Str.ofString "of") kFl5, .int b5 tf5⟩, ⟨hFl6, .str (Str.ofString "df") kFl6, .int b6 tf6⟩] 7) :: rest)) (ap : Apart W HD R H dS dFl rest) (mS : (S, instObj 546 dS) ∈ rest) (mF : (Fl, instObj 174 dFl) ∈ rest) (mM : (Me, instObj 429 dMe) ∈ rest) (mMd : (dMe, dictOf [⟨hMe0, .str (Str.ofString "held") kMe0, .ref H⟩] 1) ∈ rest) (mB : (Bt, { cls := .type "tuple", data := .seq (List.toArray [.int b0 tb0, .int b1 tb1, .int b2 tb2, .int b3 tb3, .int b4 tb4, .int b5 tb5, .int b6 tb6]) nB }) ∈ rest) {oHc : Obj} (mHc : (L + 2, oHc) ∈ rest) (dHc : oHc.data = .cell (some (.ref HD))) (iW : IntsAre vsW ws) (iR : IntsAre vsR ws) (D1 : DI w HD oD c) (D2 : DI w H oH c) (hb : BitsOK b0 b1 b2 b3 b4 b5 b6) (hws : WOK ws) (hc : c.length ≤ 200)
  (nxt : ∀ (Bt' : Addr) (nB' : Nat) (b0' b1' b2' b3' b4' b5' b6' : Int) (tb0' tb1' tb2' tb3' tb4' tb5' tb6' : Tok) (vsW' vsR' : List Value) (oD' oH' : Obj) (ws' : List Int) (c' : List (Int × Int)) (pl' : Int) (tpl' trip' tf0' tf1' tf2' tf3' tf4' tf5' tf6' : Tok) (rest' : List (Addr × Obj)) (uc uw uo ut uf ud uu us : Option Value) h' tk', Fr h₀ L h' (fun y => if y = Str.ofString "cell" then uc else if y = Str.ofString "way" then uw else if y = Str.ofString "one" then uo else if y = Str.ofString "other" then ut else if y = Str.ofString "far" then uf else if y = Str.ofString "place" then some (.int pl' tpl') else if y = Str.ofString "deed" then ud else if y = Str.ofString "bits" then some (.ref Bt') else if y = Str.ofString "did" then uu else if y = Str.ofString "spot" then us else if y = Str.ofString "state" then some (.ref S) else if y = Str.ofString "worths" then some (.ref W) else none) → News h₀ L h' ((W, listOf vsW'.toArray nW) :: (HD, oD') :: (R, listOf vsR'.toArray nR) :: (H, oH') :: (dS, dictOf [⟨hS0, .str (Str.ofString "iset") kS0, .none⟩, ⟨hS1, .str (Str.ofString "regs") kS1, .ref R⟩, ⟨hS2, .str (Str.ofString "xmm") kS2, .ref Xm⟩, ⟨hS3, .str (Str.ofString "flags") kS3, .ref Fl⟩, ⟨hS4, .str (Str.ofString "memory") kS4, .ref Me⟩, ⟨hS5, .str (Str.ofString "rip") kS5, .int pl' trip'⟩, ⟨hS6, .str (Str.ofString "begin") kS6, .int 0 tbg⟩, ⟨hS7, .str (Str.ofString "segments") kS7, .ref Sg⟩, ⟨hS8, .str (Str.ofString "is_halted") kS8, .bool false⟩] 9) :: (dFl, dictOf [⟨hFl0, .str (Str.ofString "cf") kFl0, .int b0' tf0'⟩, ⟨hFl1, .str (Str.ofString "pf") kFl1, .int b1' tf1'⟩, ⟨hFl2, .str (Str.ofString "af") kFl2, .int b2' tf2'⟩, ⟨hFl3, .str (Str.ofString "zf") kFl3, .int b3' tf3'⟩, ⟨hFl4, .str (Str.ofString "sf") kFl4, .int b4' tf4'⟩, ⟨hFl5, .str (Str.ofString "of") kFl5, .int b5' tf5'⟩, ⟨hFl6, .str (Str.ofString "df") kFl6, .int b6' tf6'⟩] 7) :: rest') → Apart W HD R H dS dFl rest' → (∀ p ∈ rest, p ∈ rest') → (Bt', { cls := .type "tuple", data := .seq (List.toArray [.int b0' tb0', .int b1' tb1', .int b2' tb2', .int b3' tb3', .int b4' tb4', .int b5' tb5', .int b6' tb6']) nB' }) ∈ rest' → (Bt' = Bt ∨ ∀ p ∈ rest, p.1 ≠ Bt') → IntsAre vsW' ws' → IntsAre vsR' ws' → DI w HD oD' c' → DI w H oH' c' → BitsOK b0' b1' b2' b3' b4' b5' b6' → WOK ws' → c'.length ≤ c.length + 8 → Q .next { s with heap := h', toks := tk' }) : ∀ st, lawSt = some st → TurnGoal w fa cd L 0 Q s st := by
  refine' law_open ?k ?_
  (case k => exact rfl)
  intro hst
  show wpAny _ _ (execs (List.cons _ _) _) _ _ _
  have lC7 := CutMark.mk
  have lQ := QuickMark.mk
  have lM := LoopMark.mk
  have lF := FarMark.mk
  k_steps
  refine stop_out ?_
  refine ifexp_join (P := fun z => -2147483648 ≤ z ∧ z < 8589934592) ?G ?h
  case h =>
    intro Q9 hQ
    k_steps
    all_goals exact hQ _ _ _ (by first | exact far1 _ | exact far2 (by assumption) (by assumption))
  case G =>
    intro far tf tk9 hg
    (try dsimp only)
    k_steps
    refine stop_out ?_
    (rename Fr h₀ L _ _ => F9)
    (rename News h₀ L _ _ => N9)
    have Z : ∃ (tw to tt : Tok), Fr h₀ L _ (fun y => if y = Str.ofString "far" then some (.int far tf) else if y = Str.ofString "way" then some (.int (k.fmod 16) tw) else if y = Str.ofString "one" then some (.int ((k.fdiv 16 + (k.fdiv 16).fdiv 16).fmod 16) to) else if y = Str.ofString "other" then some (.int ((k.fdiv 256).fmod 16) tt) else if y = Str.ofString "cell" then some (.int k tk0) else if y = Str.ofString "way" then uw else if y = Str.ofString "one" then uo else if y = Str.ofString "other" then ut else if y = Str.ofString "far" then uf else if y = Str.ofString "place" then some (.int place tpl) else if y = Str.ofString "deed" then ud else if y = Str.ofString "bits" then some (.ref Bt) else if y = Str.ofString "did" then uu else if y = Str.ofString "spot" then us else if y = Str.ofString "state" then some (.ref S) else if y = Str.ofString "worths" then some (.ref W) else none) := ⟨_, _, _, F9⟩
    obtain ⟨tw, to, tt, F8⟩ := Z
    have F7 : Fr h₀ L _ (fun y => if y = Str.ofString "cell" then some (.int k tk0) else if y = Str.ofString "way" then some (.int (k.fmod 16) tw) else if y = Str.ofString "one" then some (.int ((k.fdiv 16 + (k.fdiv 16).fdiv 16).fmod 16) to) else if y = Str.ofString "other" then some (.int ((k.fdiv 256).fmod 16) tt) else if y = Str.ofString "far" then some (.int far tf) else if y = Str.ofString "place" then some (.int place tpl) else if y = Str.ofString "deed" then ud else if y = Str.ofString "bits" then some (.ref Bt) else if y = Str.ofString "did" then uu else if y = Str.ofString "spot" then us else if y = Str.ofString "state" then some (.ref S) else if y = Str.ofString "worths" then some (.ref W) else none) := fr_to F8 (by
      refine' map_agree ?i1 ?i2 ?a1 ?a2
      case i1 => first | exact IsMap.cons (IsMap.cons (IsMap.nil)) | exact IsMap.cons (IsMap.cons (IsMap.cons (IsMap.nil))) | exact IsMap.cons (IsMap.cons (IsMap.cons (IsMap.cons (IsMap.nil)))) | exact IsMap.cons (IsMap.cons (IsMap.cons (IsMap.cons (IsMap.cons (IsMap.nil))))) | exact IsMap.cons (IsMap.cons (IsMap.cons (IsMap.cons (IsMap.cons (IsMap.cons (IsMap.nil)))))) | exact IsMap.cons (IsMap.cons (IsMap.cons (IsMap.cons (IsMap.cons (IsMap.cons (IsMap.cons (IsMap.nil))))))) | exact IsMap.cons (IsMap.cons (IsMap.cons (IsMap.cons (IsMap.cons (IsMap.cons (IsMap.cons (IsMap.cons (IsMap.nil)))))))) | exact IsMap.cons (IsMap.cons (IsMap.cons (IsMap.cons (IsMap.cons (IsMap.cons (IsMap.cons (IsMap.cons (IsMap.cons (IsMap.nil))))))))) | exact IsMap.cons (IsMap.cons (IsMap.cons (IsMap.cons (IsMap.cons (IsMap.cons (IsMap.cons (IsMap.cons (IsMap.cons (IsMap.cons (IsMap.nil)))))))))) | exact IsMap.cons (IsMap.cons (IsMap.cons (IsMap.cons (IsMap.cons (IsMap.cons (IsMap.cons (IsMap.cons (IsMap.cons (IsMap.cons (IsMap.cons (IsMap.nil))))))))))) | exact IsMap.cons (IsMap.cons (IsMap.cons (IsMap.cons (IsMap.cons (IsMap.cons (IsMap.cons (IsMap.cons (IsMap.cons (IsMap.cons (IsMap.cons (IsMap.cons (IsMap.nil)))))))))))) | exact IsMap.cons (IsMap.cons (IsMap.cons (IsMap.cons (IsMap.cons (IsMap.cons (IsMap.cons (IsMap.cons (IsMap.cons (IsMap.cons (IsMap.cons (IsMap.cons (IsMap.cons (IsMap.nil))))))))))))) | exact IsMap.cons (IsMap.cons (IsMap.cons (IsMap.cons (IsMap.cons (IsMap.cons (IsMap.cons (IsMap.cons (IsMap.cons (IsMap.cons (IsMap.cons (IsMap.cons (IsMap.cons (IsMap.cons (IsMap.nil)))))))))))))) | exact IsMap.cons (IsMap.cons (IsMap.cons (IsMap.cons (IsMap.cons (IsMap.cons (IsMap.cons (IsMap.cons (IsMap.cons (IsMap.cons (IsMap.cons (IsMap.cons (IsMap.cons (IsMap.cons (IsMap.cons (IsMap.nil))))))))))))))) | exact IsMap.cons (IsMap.cons (IsMap.cons (IsMap.cons (IsMap.cons (IsMap.cons (IsMap.cons (IsMap.cons (IsMap.cons (IsMap.cons (IsMap.cons (IsMap.cons (IsMap.cons (IsMap.cons (IsMap.cons (IsMap.cons (IsMap.nil))))))))))))))))
      case i2 => first | exact IsMap.cons (IsMap.cons (IsMap.cons (IsMap.cons (IsMap.cons (IsMap.cons (IsMap.cons (IsMap.cons (IsMap.cons (IsMap.cons (IsMap.cons (IsMap.cons (IsMap.nil))))))))))))
      case a1 => first | exact Agree.cons rfl (Agree.cons rfl (Agree.nil)) | exact Agree.cons rfl (Agree.cons rfl (Agree.cons rfl (Agree.nil))) | exact Agree.cons rfl (Agree.cons rfl (Agree.cons rfl (Agree.cons rfl (Agree.nil)))) | exact Agree.cons rfl (Agree.cons rfl (Agree.cons rfl (Agree.cons rfl (Agree.cons rfl (Agree.nil))))) | exact Agree.cons rfl (Agree.cons rfl (Agree.cons rfl (Agree.cons rfl (Agree.cons rfl (Agree.cons rfl (Agree.nil)))))) | exact Agree.cons rfl (Agree.cons rfl (Agree.cons rfl (Agree.cons rfl (Agree.cons rfl (Agree.cons rfl (Agree.cons rfl (Agree.nil))))))) | exact Agree.cons rfl (Agree.cons rfl (Agree.cons rfl (Agree.cons rfl (Agree.cons rfl (Agree.cons rfl (Agree.cons rfl (Agree.cons rfl (Agree.nil)))))))) | exact Agree.cons rfl (Agree.cons rfl (Agree.cons rfl (Agree.cons rfl (Agree.cons rfl (Agree.cons rfl (Agree.cons rfl (Agree.cons rfl (Agree.cons rfl (Agree.nil))))))))) | exact Agree.cons rfl (Agree.cons rfl (Agree.cons rfl (Agree.cons rfl (Agree.cons rfl (Agree.cons rfl (Agree.cons rfl (Agree.cons rfl (Agree.cons rfl (Agree.cons rfl (Agree.nil)))))))))) | exact Agree.cons rfl (Agree.cons rfl (Agree.cons rfl (Agree.cons rfl (Agree.cons rfl (Agree.cons rfl (Agree.cons rfl (Agree.cons rfl (Agree.cons rfl (Agree.cons rfl (Agree.cons rfl (Agree.nil))))))))))) | exact Agree.cons rfl (Agree.cons rfl (Agree.cons rfl (Agree.cons rfl (Agree.cons rfl (Agree.cons rfl (Agree.cons rfl (Agree.cons rfl (Agree.cons rfl (Agree.cons rfl (Agree.cons rfl (Agree.cons rfl (Agree.nil)))))))))))) | exact Agree.cons rfl (Agree.cons rfl (Agree.cons rfl (Agree.cons rfl (Agree.cons rfl (Agree.cons rfl (Agree.cons rfl (Agree.cons rfl (Agree.cons rfl (Agree.cons rfl (Agree.cons rfl (Agree.cons rfl (Agree.cons rfl (Agree.nil))))))))))))) | exact Agree.cons rfl (Agree.cons rfl (Agree.cons rfl (Agree.cons rfl (Agree.cons rfl (Agree.cons rfl (Agree.cons rfl (Agree.cons rfl (Agree.cons rfl (Agree.cons rfl (Agree.cons rfl (Agree.cons rfl (Agree.cons rfl (Agree.cons rfl (Agree.nil)))))))))))))) | exact Agree.cons rfl (Agree.cons rfl (Agree.cons rfl (Agree.cons rfl (Agree.cons rfl (Agree.cons rfl (Agree.cons rfl (Agree.cons rfl (Agree.cons rfl (Agree.cons rfl (Agree.cons rfl (Agree.cons rfl (Agree.cons rfl (Agree.cons rfl (Agree.cons rfl (Agree.nil))))))))))))))) | exact Agree.cons rfl (Agree.cons rfl (Agree.cons rfl (Agree.cons rfl (Agree.cons rfl (Agree.cons rfl (Agree.cons rfl (Agree.cons rfl (Agree.cons rfl (Agree.cons rfl (Agree.cons rfl (Agree.cons rfl (Agree.cons rfl (Agree.cons rfl (Agree.cons rfl (Agree.cons rfl (Agree.nil))))))))))))))))
      case a2 => first | exact Agree.cons rfl (Agree.cons rfl (Agree.cons rfl (Agree.cons rfl (Agree.cons rfl (Agree.cons rfl (Agree.cons rfl (Agree.cons rfl (Agree.cons rfl (Agree.cons rfl (Agree.cons rfl (Agree.cons rfl (Agree.nil))))))))))))
      )
    have N8 : News h₀ L _ ((W, listOf vsW.toArray nW) :: (HD, oD) :: (R, listOf vsR.toArray nR) :: (H, oH) :: (dS, dictOf [⟨hS0, .str (Str.ofString "iset") kS0, .none⟩, ⟨hS1, .str (Str.ofString "regs") kS1, .ref R⟩, ⟨hS2, .str (Str.ofString "xmm") kS2, .ref Xm⟩, ⟨hS3, .str (Str.ofString "flags") kS3, .ref Fl⟩, ⟨hS4, .str (Str.ofString "memory") kS4, .ref Me⟩, ⟨hS5, .str (Str.ofString "rip") kS5, .int rip trip⟩, ⟨hS6, .str (Str.ofString "begin") kS6, .int 0 tbg⟩, ⟨hS7, .str (Str.ofString "segments") kS7, .ref Sg⟩, ⟨hS8, .str (Str.ofString "is_halted") kS8, .bool false⟩] 9) :: (dFl, dictOf [⟨hFl0, .str (Str.ofString "cf") kFl0, .int b0 tf0⟩, ⟨hFl1, .str (Str.ofString "pf") kFl1, .int b1 tf1⟩, ⟨hFl2, .str (Str.ofString "af") kFl2, .int b2 tf2⟩, ⟨hFl3, .str (Str.ofString "zf") kFl3, .int b3 tf3⟩, ⟨hFl4, .str (Str.ofString "sf") kFl4, .int b4 tf4⟩, ⟨hFl5, .str (Str.ofString "of") kFl5, .int b5 tf5⟩, ⟨hFl6, .str (Str.ofString "df") kFl6, .int b6 tf6⟩] 7) :: rest) := news_of N9 (by walk_at "subN")
    refine turn_use (w := w) (fa := fa) (cd := cd) (L := L) (n := 2) hst ?_
    exact t2 (fa := fa) (cd := cd) (l := l) X T B hl hi hn F7 N8 ap mS mF mM mMd mB mHc dHc iW iR D1 D2 hb hws hc (fm16 _).1 (fm16 _).2 (fm16 _).1 (fm16 _).2 (fm16 _).1 (fm16 _).2 hg.1 hg.2 nxt

example : True := by
  k_with "execs cons" => (((with_reducible rename Mine.ForMark => lM9); (with_reducible show wpAny _ _ (PySem.execs (List.cons (PySem.Stmt.For _ _ _ _ _) _) _) _ _ _); refine stop_intro ?_))
  trivial
structure ForMark : Prop where
theorem off_next {own fx : List (Addr × Obj)} {W HD R H dS dFl Bt Bt' : Addr} {oB oB' x1 x2 x3 x4 x5 x6 y1 y2 y3 y4 y5 y6 : Obj} (ho : OwnOff own (((W, x1) :: (HD, x2) :: (R, x3) :: (H, x4) :: (dS, x5) :: (dFl, x6) :: (Bt, oB) :: fx).map (·.1)))
    (hB : Bt' = Bt ∨ ∀ p ∈ (Bt, oB) :: (fx ++ own), p.1 ≠ Bt') : OwnOff own (((W, y1) :: (HD, y2) :: (R, y3) :: (H, y4) :: (dS, y5) :: (dFl, y6) :: (Bt', oB') :: fx).map (·.1)) := by
  intro p hp b hb
  have ho' := ho p hp
  simp only [List.map_cons, List.mem_cons] at hb ho'
  rcases hb with h | h | h | h | h | h | h | h
  · exact ho' b (.inl h)
  · exact ho' b (.inr (.inl h))
  · exact ho' b (.inr (.inr (.inl h)))
  · exact ho' b (.inr (.inr (.inr (.inl h))))
  · exact ho' b (.inr (.inr (.inr (.inr (.inl h)))))
  · exact ho' b (.inr (.inr (.inr (.inr (.inr (.inl h))))))
  · rcases hB with e | e
    · exact ho' b (.inr (.inr (.inr (.inr (.inr (.inr (.inl (h.trans e))))))))
    · rw [h]; exact e p (.tail _ (List.mem_append_right _ hp))
  · exact ho' b (.inr (.inr (.inr (.inr (.inr (.inr (.inr h)))))))
section
variable {W HD R H dS dFl : Addr} {r r' ow fx : List (Addr × Obj)}
theorem Apart.sub (ap : Apart W HD R H dS dFl r') (h : ∀ p ∈ r, p ∈ r') : Apart W HD R H dS dFl r := ⟨ap.nWHD, ap.nWR, ap.nWH, ap.nWdS, ap.nWdFl, ap.nHDR, ap.nHDH, ap.nHDdS, ap.nHDdFl, ap.nRH, ap.nRdS, ap.nRdFl, ap.nHdS, ap.nHdFl, ap.ndSdFl, fun p hp => ap.rW p (h p hp), fun p hp => ap.rHD p (h p hp), fun p hp => ap.rR p (h p hp), fun p hp => ap.rH p (h p hp), fun p hp => ap.rdS p (h p hp), fun p hp => ap.rdFl p (h p hp)⟩
theorem allLt_mem {d : Addr} : ∀ {l : List (Addr × Obj)}, AllLt d l → ∀ q ∈ l, @LT.lt Nat _ q.1 d
  | [], _, _, h => nomatch h
  | _ :: _, h, q, hq => (List.mem_cons.mp hq).elim (fun e => e ▸ h.1) fun e => allLt_mem h.2 q e
theorem Apart.own {Bt : Addr} {oB x1 x2 x3 x4 x5 x6 : Obj} (ap : Apart W HD R H dS dFl ((Bt, oB) :: fx)) (ho : OwnOff ow (((W, x1) :: (HD, x2) :: (R, x3) :: (H, x4) :: (dS, x5) :: (dFl, x6) :: (Bt, oB) :: fx).map (·.1))) : Apart W HD R H dS dFl ((Bt, oB) :: (fx ++ ow)) := by
  have g : ∀ X ∈ [W, HD, R, H, dS, dFl], (∀ p ∈ (Bt, oB) :: fx, p.1 ≠ X) → ∀ p ∈ (Bt, oB) :: (fx ++ ow), p.1 ≠ X := by
    intro X hX h p hp
    rcases List.mem_cons.mp hp with e | hp
    · exact h p (e ▸ .head _)
    · rcases List.mem_append.mp hp with hp | hp
      · exact h p (.tail _ hp)
      · refine ho p hp X ?_
        simp only [List.map_cons, List.mem_cons, List.not_mem_nil, or_false] at hX ⊢
        rcases hX with h | h | h | h | h | h <;> simp only [h, true_or, or_true]
  exact ⟨ap.nWHD, ap.nWR, ap.nWH, ap.nWdS, ap.nWdFl, ap.nHDR, ap.nHDH, ap.nHDdS, ap.nHDdFl, ap.nRH, ap.nRdS, ap.nRdFl, ap.nHdS, ap.nHdFl, ap.ndSdFl, g W (by simp) ap.rW, g HD (by simp) ap.rHD, g R (by simp) ap.rR, g H (by simp) ap.rH, g dS (by simp) ap.rdS, g dFl (by simp) ap.rdFl⟩
theorem led_own {Bt : Addr} {oB y1 y2 y3 y4 y5 y6 : Obj} {rest' : List (Addr × Obj)} (hB : (Bt, oB) ∈ rest') (hf : ∀ p ∈ fx, p ∈ rest') (ho : ∀ p ∈ ow, p ∈ rest') : ∀ p ∈ ((W, y1) :: (HD, y2) :: (R, y3) :: (H, y4) :: (dS, y5) :: (dFl, y6) :: (Bt, oB) :: fx) ++ ow, p ∈ (W, y1) :: (HD, y2) :: (R, y3) :: (H, y4) :: (dS, y5) :: (dFl, y6) :: rest' := by
  intro p hp
  simp only [List.cons_append, List.mem_cons, List.mem_append] at hp ⊢
  rcases hp with h | h | h | h | h | h | h | h | h
  · exact .inl h
  · exact .inr (.inl h)
  · exact .inr (.inr (.inl h))
  · exact .inr (.inr (.inr (.inl h)))
  · exact .inr (.inr (.inr (.inr (.inl h))))
  · exact .inr (.inr (.inr (.inr (.inr (.inl h)))))
  · exact .inr (.inr (.inr (.inr (.inr (.inr (h ▸ hB))))))
  · exact .inr (.inr (.inr (.inr (.inr (.inr (hf p h))))))
  · exact .inr (.inr (.inr (.inr (.inr (.inr (ho p h))))))
end
inductive J8 (W HD R H dS dFl S Fl Me dMe Xm Sg L : Addr) (nW nR : Nat) (hS0 hS1 hS2 hS3 hS4 hS5 hS6 hS7 hS8 hFl0 hFl1 hFl2 hFl3 hFl4 hFl5 hFl6 hMe0 : Int) (kS0 kS1 kS2 kS3 kS4 kS5 kS6 kS7 kS8 kFl0 kFl1 kFl2 kFl3 kFl4 kFl5 kFl6 kMe0 tbg : Tok) (oHc oSc : Obj) (w : World) : Nat → (Str → Option Value) → List (Addr × Obj) → Prop where
  | mk {i : Nat} {vsW vsR : List Value} {oD oH : Obj} {ws : List Int} {c : List (Int × Int)} {Bt : Addr} {nB : Nat} {b0 b1 b2 b3 b4 b5 b6 : Int} {tb0 tb1 tb2 tb3 tb4 tb5 tb6 : Tok} {rip : Int} {trip : Tok} {tf0 tf1 tf2 tf3 tf4 tf5 tf6 : Tok} {pl : Int} {tpl : Tok} {uc uw uo ut uf ud uu us : Option Value} (a0 : Apart W HD R H dS dFl ((Bt, { cls := .type "tuple", data := .seq (List.toArray [.int b0 tb0, .int b1 tb1, .int b2 tb2, .int b3 tb3, .int b4 tb4, .int b5 tb5, .int b6 tb6]) nB }) :: [(S, instObj 546 dS), (Fl, instObj 174 dFl), (Me, instObj 429 dMe), (dMe, dictOf [⟨hMe0, .str (Str.ofString "held") kMe0, .ref H⟩] 1), (L + 2, oHc), (L + 1, oSc)])) (a1 : IntsAre vsW ws) (a2 : IntsAre vsR ws) (a3 : DI w HD oD c) (a4 : DI w H oH c) (a5 : BitsOK b0 b1 b2 b3 b4 b5 b6) (a6 : WOK ws) (a7 : c.length ≤ 24 + 8 * i) : J8 W HD R H dS dFl S Fl Me dMe Xm Sg L nW nR hS0 hS1 hS2 hS3 hS4 hS5 hS6 hS7 hS8 hFl0 hFl1 hFl2 hFl3 hFl4 hFl5 hFl6 hMe0 kS0 kS1 kS2 kS3 kS4 kS5 kS6 kS7 kS8 kFl0 kFl1 kFl2 kFl3 kFl4 kFl5 kFl6 kMe0 tbg oHc oSc w i (fun y => if y = Str.ofString "cell" then uc else if y = Str.ofString "way" then uw else if y = Str.ofString "one" then uo else if y = Str.ofString "other" then ut else if y = Str.ofString "far" then uf else if y = Str.ofString "place" then some (.int pl tpl) else if y = Str.ofString "deed" then ud else if y = Str.ofString "bits" then some (.ref Bt) else if y = Str.ofString "did" then uu else if y = Str.ofString "spot" then us else if y = Str.ofString "state" then some (.ref S) else if y = Str.ofString "worths" then some (.ref W) else none) ((W, listOf vsW.toArray nW) :: (HD, oD) :: (R, listOf vsR.toArray nR) :: (H, oH) :: (dS, dictOf [⟨hS0, .str (Str.ofString "iset") kS0, .none⟩, ⟨hS1, .str (Str.ofString "regs") kS1, .ref R⟩, ⟨hS2, .str (Str.ofString "xmm") kS2, .ref Xm⟩, ⟨hS3, .str (Str.ofString "flags") kS3, .ref Fl⟩, ⟨hS4, .str (Str.ofString "memory") kS4, .ref Me⟩, ⟨hS5, .str (Str.ofString "rip") kS5, .int rip trip⟩, ⟨hS6, .str (Str.ofString "begin") kS6, .int 0 tbg⟩, ⟨hS7, .str (Str.ofString "segments") kS7, .ref Sg⟩, ⟨hS8, .str (Str.ofString "is_halted") kS8, .bool false⟩] 9) :: (dFl, dictOf [⟨hFl0, .str (Str.ofString "cf") kFl0, .int b0 tf0⟩, ⟨hFl1, .str (Str.ofString "pf") kFl1, .int b1 tf1⟩, ⟨hFl2, .str (Str.ofString "af") kFl2, .int b2 tf2⟩, ⟨hFl3, .str (Str.ofString "zf") kFl3, .int b3 tf3⟩, ⟨hFl4, .str (Str.ofString "sf") kFl4, .int b4 tf4⟩, ⟨hFl5, .str (Str.ofString "of") kFl5, .int b5 tf5⟩, ⟨hFl6, .str (Str.ofString "df") kFl6, .int b6 tf6⟩] 7) :: (Bt, { cls := .type "tuple", data := .seq (List.toArray [.int b0 tb0, .int b1 tb1, .int b2 tb2, .int b3 tb3, .int b4 tb4, .int b5 tb5, .int b6 tb6]) nB }) :: [(S, instObj 546 dS), (Fl, instObj 174 dFl), (Me, instObj 429 dMe), (dMe, dictOf [⟨hMe0, .str (Str.ofString "held") kMe0, .ref H⟩] 1), (L + 2, oHc), (L + 1, oSc)])
noncomputable def Stage10 : Prop := ∀ {w : World} {h₀ : Heap} {s : Shared} {L : Addr} {p : Program} {loose : List Str} {mean : ExcName → Option Value} {mg mb : Str → Option Value} {Q : Flow → Shared → Prop} {l : Addr} {vs : List Value} {ns : List Int} {fa : Addr} {cd : Value} {W HD Bt : Addr} {vsW : List Value} {nW nB : Nat} {oD : Obj} {tb0 tb1 tb2 tb3 tb4 tb5 tb6 : Tok} {S R Xm Fl Me Sg : Addr} {rip : Int} {trip tbg : Tok} {dS : Addr} {hS0 hS1 hS2 hS3 hS4 hS5 hS6 hS7 hS8 : Int} {kS0 kS1 kS2 kS3 kS4 kS5 kS6 kS7 kS8 : Tok} {vsR : List Value}  {nR : Nat} {H : Addr} {dMe : Addr} {hMe0 : Int} {kMe0 : Tok} {oH : Obj} {c : List (Int × Int)} {b0 b1 b2 b3 b4 b5 b6 : Int} {tf0 tf1 tf2 tf3 tf4 tf5 tf6 : Tok} {dFl : Addr} {hFl0 hFl1 hFl2 hFl3 hFl4 hFl5 hFl6 : Int} {kFl0 kFl1 kFl2 kFl3 kFl4 kFl5 kFl6 : Tok} {rest : List (Addr × Obj)} {oHc oSc : Obj} {up uc uw uo ut uf ud uu us : Option Value} (X : (hd.heap_39 w.params).In h₀) (T : Top p loose mean mg mb h₀) (B : Below callerA h₀ [] h₀) (hl : h₀.IsList l vs.toArray) (hi : IntsAre vs ns) (hn : ns.length < 64)
  (F : Fr h₀ L s.heap (fun y => if y = Str.ofString "cell" then uc else if y = Str.ofString "way" then uw else if y = Str.ofString "one" then uo else if y = Str.ofString "other" then ut else if y = Str.ofString "far" then uf else if y = Str.ofString "place" then up else if y = Str.ofString "deed" then ud else if y = Str.ofString "bits" then some (.ref Bt) else if y = Str.ofString "did" then uu else if y = Str.ofString "spot" then us else if y = Str.ofString "state" then some (.ref S) else if y = Str.ofString "worths" then some (.ref W) else none)) (N : News h₀ L s.heap ((W, listOf vsW.toArray nW) :: (HD, oD) :: (R, listOf vsR.toArray nR) :: (H, oH) :: (dS, dictOf [⟨hS0, .str (Str.ofString "iset") kS0, .none⟩, ⟨hS1, .str (Str.ofString "regs") kS1, .ref R⟩, ⟨hS2, .str (Str.ofString "xmm") kS2, .ref Xm⟩, ⟨hS3, .str (Str.ofString "flags") kS3, .ref Fl⟩, ⟨hS4, .str (Str.ofString "memory") kS4, .ref Me⟩, ⟨hS5, .str (Str.ofString "rip") kS5, .int rip trip⟩, ⟨hS6, .str (Str.ofString "begin") kS6, .int 0 tbg⟩, ⟨hS7, .str (Str.ofString "segments") kS7, .ref Sg⟩, ⟨hS8, .str (Str.ofString "is_halted") kS8, .bool false⟩] 9) :: (dFl, dictOf [⟨hFl0, .str (Str.ofString "cf") kFl0, .int b0 tf0⟩, ⟨hFl1, .str (Str.ofString "pf") kFl1, .int b1 tf1⟩, ⟨hFl2, .str (Str.ofString "af") kFl2, .int b2 tf2⟩, ⟨hFl3, .str (Str.ofString "zf") kFl3, .int b3 tf3⟩, ⟨hFl4, .str (Str.ofString "sf") kFl4, .int b4 tf4⟩, ⟨hFl5, .str (Str.ofString "of") kFl5, .int b5 tf5⟩, ⟨hFl6, .str (Str.ofString "df") kFl6, .int b6 tf6⟩] 7) :: rest)) (mS : (S, instObj 546 dS) ∈ rest) (mF : (Fl, instObj 174 dFl) ∈ rest) (mM : (Me, instObj 429 dMe) ∈ rest) (mMd : (dMe, dictOf [⟨hMe0, .str (Str.ofString "held") kMe0, .ref H⟩] 1) ∈ rest) (mB : (Bt, { cls := .type "tuple", data := .seq (List.toArray [.int b0 tb0, .int b1 tb1, .int b2 tb2, .int b3 tb3, .int b4 tb4, .int b5 tb5, .int b6 tb6]) nB }) ∈ rest) (mHc : (L + 2, oHc) ∈ rest) (mSc : (L + 1, oSc) ∈ rest) (dHc : oHc.data = .cell (some (.ref HD))) (dSc : oSc.data = .cell (some (.ref l))) (ap : Apart W HD R H dS dFl rest) (D1 : DI w HD oD c) (D2 : DI w H oH c) (hc : c.length < 128)
  (ret : ∀ h' tk' m', Fr h₀ L h' m' → Q (.ret (.bool true)) { s with heap := h', toks := tk' }), ∀ st, lawSt = some st → RestGoal w fa cd L 10 Q s st
theorem stage8_ (h10 : Stage10) {w : World} {h₀ : Heap} {s : Shared} {L : Addr} {p : Program} {loose : List Str} {mean : ExcName → Option Value} {mg mb : Str → Option Value} {Q : Flow → Shared → Prop} {l : Addr} {vs : List Value} {ns : List Int} {fa : Addr} {cd : Value} {W HD Bt : Addr} {vsW : List Value} {nW nB : Nat} {oD : Obj} {tb0 tb1 tb2 tb3 tb4 tb5 tb6 : Tok} {S R Xm Fl Me Sg : Addr} {rip : Int} {trip tbg : Tok} {dS : Addr} {hS0 hS1 hS2 hS3 hS4 hS5 hS6 hS7 hS8 : Int} {kS0 kS1 kS2 kS3 kS4 kS5 kS6 kS7 kS8 : Tok} {vsR : List Value} {ws : List Int} {nR : Nat} {H : Addr} {dMe : Addr} {hMe0 : Int} {kMe0 : Tok} {oH : Obj} {c : List (Int × Int)} {b0 b1 b2 b3 b4 b5 b6 : Int} {tf0 tf1 tf2 tf3 tf4 tf5 tf6 : Tok} {dFl : Addr} {hFl0 hFl1 hFl2 hFl3 hFl4 hFl5 hFl6 : Int} {kFl0 kFl1 kFl2 kFl3 kFl4 kFl5 kFl6 : Tok} {rest : List (Addr × Obj)} {oHc oSc : Obj} {uS : Option Value} (X : (hd.heap_39 w.params).In h₀) (T : Top p loose mean mg mb h₀) (B : Below callerA h₀ [] h₀) (hl : h₀.IsList l vs.toArray) (hi : IntsAre vs ns) (hn : ns.length < 64)
  (F : Fr h₀ L s.heap (fun y => if y = Str.ofString "spot" then uS else if y = Str.ofString "state" then some (.ref S) else if y = Str.ofString "bits" then some (.ref Bt) else if y = Str.ofString "worths" then some (.ref W) else none)) (N : News h₀ L s.heap ((W, listOf vsW.toArray nW) :: (HD, oD) :: (R, listOf vsR.toArray nR) :: (H, oH) :: (dS, dictOf [⟨hS0, .str (Str.ofString "iset") kS0, .none⟩, ⟨hS1, .str (Str.ofString "regs") kS1, .ref R⟩, ⟨hS2, .str (Str.ofString "xmm") kS2, .ref Xm⟩, ⟨hS3, .str (Str.ofString "flags") kS3, .ref Fl⟩, ⟨hS4, .str (Str.ofString "memory") kS4, .ref Me⟩, ⟨hS5, .str (Str.ofString "rip") kS5, .int rip trip⟩, ⟨hS6, .str (Str.ofString "begin") kS6, .int 0 tbg⟩, ⟨hS7, .str (Str.ofString "segments") kS7, .ref Sg⟩, ⟨hS8, .str (Str.ofString "is_halted") kS8, .bool false⟩] 9) :: (dFl, dictOf [⟨hFl0, .str (Str.ofString "cf") kFl0, .int b0 tf0⟩, ⟨hFl1, .str (Str.ofString "pf") kFl1, .int b1 tf1⟩, ⟨hFl2, .str (Str.ofString "af") kFl2, .int b2 tf2⟩, ⟨hFl3, .str (Str.ofString "zf") kFl3, .int b3 tf3⟩, ⟨hFl4, .str (Str.ofString "sf") kFl4, .int b4 tf4⟩, ⟨hFl5, .str (Str.ofString "of") kFl5, .int b5 tf5⟩, ⟨hFl6, .str (Str.ofString "df") kFl6, .int b6 tf6⟩] 7) :: rest)) (mS : (S, instObj 546 dS) ∈ rest) (mF : (Fl, instObj 174 dFl) ∈ rest) (mM : (Me, instObj 429 dMe) ∈ rest) (mMd : (dMe, dictOf [⟨hMe0, .str (Str.ofString "held") kMe0, .ref H⟩] 1) ∈ rest) (mB : (Bt, { cls := .type "tuple", data := .seq (List.toArray [.int b0 tb0, .int b1 tb1, .int b2 tb2, .int b3 tb3, .int b4 tb4, .int b5 tb5, .int b6 tb6]) nB }) ∈ rest) (mHc : (L + 2, oHc) ∈ rest) (mSc : (L + 1, oSc) ∈ rest) (dHc : oHc.data = .cell (some (.ref HD))) (dSc : oSc.data = .cell (some (.ref l))) (nWHD : @Ne Nat W HD) (nWR : @Ne Nat W R) (nWH : @Ne Nat W H) (nWdS : @Ne Nat W dS) (nWdFl : @Ne Nat W dFl) (nHDR : @Ne Nat HD R) (nHDH : @Ne Nat HD H) (nHDdS : @Ne Nat HD dS) (nHDdFl : @Ne Nat HD dFl) (nRH : @Ne Nat R H) (nRdS : @Ne Nat R dS) (nRdFl : @Ne Nat R dFl) (nHdS : @Ne Nat H dS) (nHdFl : @Ne Nat H dFl) (ndSdFl : @Ne Nat dS dFl) (rW : ∀ p ∈ rest, p.1 ≠ W) (rHD : ∀ p ∈ rest, p.1 ≠ HD) (rR : ∀ p ∈ rest, p.1 ≠ R) (rH : ∀ p ∈ rest, p.1 ≠ H) (rdS : ∀ p ∈ rest, p.1 ≠ dS) (rdFl : ∀ p ∈ rest, p.1 ≠ dFl) (iW : IntsAre vsW ws) (iR : IntsAre vsR ws) (D1 : DI w HD oD c) (D2 : DI w H oH c) (hbits : BitsOK b0 b1 b2 b3 b4 b5 b6)
  (h16 : ws.length = 16) (hws : ∀ x ∈ ws, 0 ≤ x ∧ x < 18446744073709551616) (hc : c.length ≤ 24)
  (ret : ∀ h' tk' m', Fr h₀ L h' m' → Q (.ret (.bool true)) { s with heap := h', toks := tk' }) : ∀ st, lawSt = some st → RestGoal w fa cd L 8 Q s st := by
  refine' law_open ?k ?_
  (case k => exact rfl)
  intro hst
  show wpAny _ _ (execs (List.cons _ _) _) _ _ _
  have lQ := QuickMark.mk
  have lW := ForMark.mk
  k_steps
  refine stop_out ?_
  (rename ForMark => lW9)
  clear lW9
  (rename Fr h₀ L _ _ => F9)
  (rename News h₀ L _ _ => N9)
  refine wpAny_execs_cons ?_
  try dsimp only
  (with_unfolding_all refine' For_invVF F9 ?k1 ?k2 ?_; (case k1 => exact rfl); (case k2 => exact rfl))
  have lM := LoopMark.mk
  k_steps
  refine stop_out ?_
  (rename Fr h₀ L _ _ => F9)
  (rename News h₀ L _ _ => N9)
  (rename IntsAre _ (List.take _ _) => iS9)
  (with_reducible rename Addr => D9)
  have hS9 : (List.take (min 13 ns.length - 3) (List.drop 3 ns)).length ≤ 10 := by rw [List.length_take]; omega
  have Z : ∃ (pl : Int) (tpl : Tok), Fr h₀ L _ (fun y => if y = Str.ofString "place" then some (.int pl tpl) else if y = Str.ofString "spot" then uS else if y = Str.ofString "state" then some (.ref S) else if y = Str.ofString "bits" then some (.ref Bt) else if y = Str.ofString "worths" then some (.ref W) else none) := ⟨_, _, F9⟩
  obtain ⟨pl, tpl, F8⟩ := Z
  have F7 : Fr h₀ L _ (fun y => if y = Str.ofString "cell" then none else if y = Str.ofString "way" then none else if y = Str.ofString "one" then none else if y = Str.ofString "other" then none else if y = Str.ofString "far" then none else if y = Str.ofString "place" then some (.int pl tpl) else if y = Str.ofString "deed" then none else if y = Str.ofString "bits" then some (.ref Bt) else if y = Str.ofString "did" then none else if y = Str.ofString "spot" then uS else if y = Str.ofString "state" then some (.ref S) else if y = Str.ofString "worths" then some (.ref W) else none) := fr_to F8 (by
    refine' map_agree ?i1 ?i2 ?a1 ?a2
    case i1 => first | exact IsMap.cons (IsMap.cons (IsMap.nil)) | exact IsMap.cons (IsMap.cons (IsMap.cons (IsMap.nil))) | exact IsMap.cons (IsMap.cons (IsMap.cons (IsMap.cons (IsMap.nil)))) | exact IsMap.cons (IsMap.cons (IsMap.cons (IsMap.cons (IsMap.cons (IsMap.nil))))) | exact IsMap.cons (IsMap.cons (IsMap.cons (IsMap.cons (IsMap.cons (IsMap.cons (IsMap.nil)))))) | exact IsMap.cons (IsMap.cons (IsMap.cons (IsMap.cons (IsMap.cons (IsMap.cons (IsMap.cons (IsMap.nil))))))) | exact IsMap.cons (IsMap.cons (IsMap.cons (IsMap.cons (IsMap.cons (IsMap.cons (IsMap.cons (IsMap.cons (IsMap.nil)))))))) | exact IsMap.cons (IsMap.cons (IsMap.cons (IsMap.cons (IsMap.cons (IsMap.cons (IsMap.cons (IsMap.cons (IsMap.cons (IsMap.nil))))))))) | exact IsMap.cons (IsMap.cons (IsMap.cons (IsMap.cons (IsMap.cons (IsMap.cons (IsMap.cons (IsMap.cons (IsMap.cons (IsMap.cons (IsMap.nil)))))))))) | exact IsMap.cons (IsMap.cons (IsMap.cons (IsMap.cons (IsMap.cons (IsMap.cons (IsMap.cons (IsMap.cons (IsMap.cons (IsMap.cons (IsMap.cons (IsMap.nil))))))))))) | exact IsMap.cons (IsMap.cons (IsMap.cons (IsMap.cons (IsMap.cons (IsMap.cons (IsMap.cons (IsMap.cons (IsMap.cons (IsMap.cons (IsMap.cons (IsMap.cons (IsMap.nil)))))))))))) | exact IsMap.cons (IsMap.cons (IsMap.cons (IsMap.cons (IsMap.cons (IsMap.cons (IsMap.cons (IsMap.cons (IsMap.cons (IsMap.cons (IsMap.cons (IsMap.cons (IsMap.cons (IsMap.nil))))))))))))) | exact IsMap.cons (IsMap.cons (IsMap.cons (IsMap.cons (IsMap.cons (IsMap.cons (IsMap.cons (IsMap.cons (IsMap.cons (IsMap.cons (IsMap.cons (IsMap.cons (IsMap.cons (IsMap.cons (IsMap.nil)))))))))))))) | exact IsMap.cons (IsMap.cons (IsMap.cons (IsMap.cons (IsMap.cons (IsMap.cons (IsMap.cons (IsMap.cons (IsMap.cons (IsMap.cons (IsMap.cons (IsMap.cons (IsMap.cons (IsMap.cons (IsMap.cons (IsMap.nil))))))))))))))) | exact IsMap.cons (IsMap.cons (IsMap.cons (IsMap.cons (IsMap.cons (IsMap.cons (IsMap.cons (IsMap.cons (IsMap.cons (IsMap.cons (IsMap.cons (IsMap.cons (IsMap.cons (IsMap.cons (IsMap.cons (IsMap.cons (IsMap.nil))))))))))))))))
    case i2 => first | exact IsMap.cons (IsMap.cons (IsMap.cons (IsMap.cons (IsMap.cons (IsMap.cons (IsMap.cons (IsMap.cons (IsMap.cons (IsMap.cons (IsMap.cons (IsMap.cons (IsMap.nil))))))))))))
    case a1 => first | exact Agree.cons rfl (Agree.cons rfl (Agree.nil)) | exact Agree.cons rfl (Agree.cons rfl (Agree.cons rfl (Agree.nil))) | exact Agree.cons rfl (Agree.cons rfl (Agree.cons rfl (Agree.cons rfl (Agree.nil)))) | exact Agree.cons rfl (Agree.cons rfl (Agree.cons rfl (Agree.cons rfl (Agree.cons rfl (Agree.nil))))) | exact Agree.cons rfl (Agree.cons rfl (Agree.cons rfl (Agree.cons rfl (Agree.cons rfl (Agree.cons rfl (Agree.nil)))))) | exact Agree.cons rfl (Agree.cons rfl (Agree.cons rfl (Agree.cons rfl (Agree.cons rfl (Agree.cons rfl (Agree.cons rfl (Agree.nil))))))) | exact Agree.cons rfl (Agree.cons rfl (Agree.cons rfl (Agree.cons rfl (Agree.cons rfl (Agree.cons rfl (Agree.cons rfl (Agree.cons rfl (Agree.nil)))))))) | exact Agree.cons rfl (Agree.cons rfl (Agree.cons rfl (Agree.cons rfl (Agree.cons rfl (Agree.cons rfl (Agree.cons rfl (Agree.cons rfl (Agree.cons rfl (Agree.nil))))))))) | exact Agree.cons rfl (Agree.cons rfl (Agree.cons rfl (Agree.cons rfl (Agree.cons rfl (Agree.cons rfl (Agree.cons rfl (Agree.cons rfl (Agree.cons rfl (Agree.cons rfl (Agree.nil)))))))))) | exact Agree.cons rfl (Agree.cons rfl (Agree.cons rfl (Agree.cons rfl (Agree.cons rfl (Agree.cons rfl (Agree.cons rfl (Agree.cons rfl (Agree.cons rfl (Agree.cons rfl (Agree.cons rfl (Agree.nil))))))))))) | exact Agree.cons rfl (Agree.cons rfl (Agree.cons rfl (Agree.cons rfl (Agree.cons rfl (Agree.cons rfl (Agree.cons rfl (Agree.cons rfl (Agree.cons rfl (Agree.cons rfl (Agree.cons rfl (Agree.cons rfl (Agree.nil)))))))))))) | exact Agree.cons rfl (Agree.cons rfl (Agree.cons rfl (Agree.cons rfl (Agree.cons rfl (Agree.cons rfl (Agree.cons rfl (Agree.cons rfl (Agree.cons rfl (Agree.cons rfl (Agree.cons rfl (Agree.cons rfl (Agree.cons rfl (Agree.nil))))))))))))) | exact Agree.cons rfl (Agree.cons rfl (Agree.cons rfl (Agree.cons rfl (Agree.cons rfl (Agree.cons rfl (Agree.cons rfl (Agree.cons rfl (Agree.cons rfl (Agree.cons rfl (Agree.cons rfl (Agree.cons rfl (Agree.cons rfl (Agree.cons rfl (Agree.nil)))))))))))))) | exact Agree.cons rfl (Agree.cons rfl (Agree.cons rfl (Agree.cons rfl (Agree.cons rfl (Agree.cons rfl (Agree.cons rfl (Agree.cons rfl (Agree.cons rfl (Agree.cons rfl (Agree.cons rfl (Agree.cons rfl (Agree.cons rfl (Agree.cons rfl (Agree.cons rfl (Agree.nil))))))))))))))) | exact Agree.cons rfl (Agree.cons rfl (Agree.cons rfl (Agree.cons rfl (Agree.cons rfl (Agree.cons rfl (Agree.cons rfl (Agree.cons rfl (Agree.cons rfl (Agree.cons rfl (Agree.cons rfl (Agree.cons rfl (Agree.cons rfl (Agree.cons rfl (Agree.cons rfl (Agree.cons rfl (Agree.nil))))))))))))))))
    case a2 => first | exact Agree.cons rfl (Agree.cons rfl (Agree.cons rfl (Agree.cons rfl (Agree.cons rfl (Agree.cons rfl (Agree.cons rfl (Agree.cons rfl (Agree.cons rfl (Agree.cons rfl (Agree.cons rfl (Agree.cons rfl (Agree.nil))))))))))))
    )
  have ap : Apart W HD R H dS dFl rest := ⟨nWHD, nWR, nWH, nWdS, nWdFl, nHDR, nHDH, nHDdS, nHDdFl, nRH, nRdS, nRdFl, nHdS, nHdFl, ndSdFl, rW, rHD, rR, rH, rdS, rdFl⟩
  have hfx : ∀ p ∈ (Bt, { cls := .type "tuple", data := .seq (List.toArray [.int b0 tb0, .int b1 tb1, .int b2 tb2, .int b3 tb3, .int b4 tb4, .int b5 tb5, .int b6 tb6]) nB }) :: [(S, instObj 546 dS), (Fl, instObj 174 dFl), (Me, instObj 429 dMe), (dMe, dictOf [⟨hMe0, .str (Str.ofString "held") kMe0, .ref H⟩] 1), (L + 2, oHc), (L + 1, oSc)], p ∈ rest := by
    simp only [List.forall_mem_cons]
    exact ⟨mB, mS, mF, mM, mMd, mHc, mSc, List.forall_mem_nil _⟩
  have hs9 := N9 _ (.head _)
  (rename _ ∧ _ ∧ _ ∧ _ ∧ _ ∧ _ ∧ AllLt _ _ => l9)
  have hlt9 : ∀ q ∈ (W, listOf vsW.toArray nW) :: (HD, oD) :: (R, listOf vsR.toArray nR) :: (H, oH) :: (dS, dictOf [⟨hS0, .str (Str.ofString "iset") kS0, .none⟩, ⟨hS1, .str (Str.ofString "regs") kS1, .ref R⟩, ⟨hS2, .str (Str.ofString "xmm") kS2, .ref Xm⟩, ⟨hS3, .str (Str.ofString "flags") kS3, .ref Fl⟩, ⟨hS4, .str (Str.ofString "memory") kS4, .ref Me⟩, ⟨hS5, .str (Str.ofString "rip") kS5, .int rip trip⟩, ⟨hS6, .str (Str.ofString "begin") kS6, .int 0 tbg⟩, ⟨hS7, .str (Str.ofString "segments") kS7, .ref Sg⟩, ⟨hS8, .str (Str.ofString "is_halted") kS8, .bool false⟩] 9) :: (dFl, dictOf [⟨hFl0, .str (Str.ofString "cf") kFl0, .int b0 tf0⟩, ⟨hFl1, .str (Str.ofString "pf") kFl1, .int b1 tf1⟩, ⟨hFl2, .str (Str.ofString "af") kFl2, .int b2 tf2⟩, ⟨hFl3, .str (Str.ofString "zf") kFl3, .int b3 tf3⟩, ⟨hFl4, .str (Str.ofString "sf") kFl4, .int b4 tf4⟩, ⟨hFl5, .str (Str.ofString "of") kFl5, .int b5 tf5⟩, ⟨hFl6, .str (Str.ofString "df") kFl6, .int b6 tf6⟩] 7) :: rest, q.1 ≠ D9 := by
    obtain ⟨q1, q2, q3, q4, q5, q6, q7⟩ := l9
    refine List.forall_mem_cons.mpr ⟨Nat.ne_of_lt q1, List.forall_mem_cons.mpr ⟨Nat.ne_of_lt q2, List.forall_mem_cons.mpr ⟨Nat.ne_of_lt q3, List.forall_mem_cons.mpr ⟨Nat.ne_of_lt q4, List.forall_mem_cons.mpr ⟨Nat.ne_of_lt q5, List.forall_mem_cons.mpr ⟨Nat.ne_of_lt q6, fun q hq => Nat.ne_of_lt (allLt_mem q7 q hq)⟩⟩⟩⟩⟩⟩
  refine loop_list (J8 W HD R H dS dFl S Fl Me dMe Xm Sg L nW nR hS0 hS1 hS2 hS3 hS4 hS5 hS6 hS7 hS8 hFl0 hFl1 hFl2 hFl3 hFl4 hFl5 hFl6 hMe0 kS0 kS1 kS2 kS3 kS4 kS5 kS6 kS7 kS8 kFl0 kFl1 kFl2 kFl3 kFl4 kFl5 kFl6 kMe0 tbg oHc oSc w) (by rfl) hs9.1 hs9.2.2 hs9.2.1 (fun q hq => hlt9 q (led_own (ow := []) (hfx _ (.head _)) (fun p hp => hfx p (.tail _ hp)) (fun p hp => nomatch hp) q (by rw [List.append_nil]; exact hq))) iS9 F7 (news_of N9 (fun q hq => .tail _ (led_own (ow := []) (hfx _ (.head _)) (fun p hp => hfx p (.tail _ hp)) (fun p hp => nomatch hp) q (by rw [List.append_nil]; exact hq)))) (.mk (ap.sub hfx) iW iR D1 D2 hbits ⟨h16, hws⟩ hc) ?_ ?_
  · clear F9 N9 F8 F7 hlt9 l9 hs9 hfx ap D1 D2 iW iR h16 hws hc mS mF mM mMd mB mHc mSc hbits nWHD nWR nWH nWdS nWdFl nHDR nHDH nHDdS nHDdFl nRH nRdS nRdFl nHdS nHdFl ndSdFl rW rHD rR rH rdS rdFl
    rintro i k t' m₁ nx h5 tk5 own hk hoff @⟨vsW, vsR, oD, oH, ws, c, Bt, nB, b0, b1, b2, b3, b4, b5, b6, tb0, tb1, tb2, tb3, tb4, tb5, tb6, rip, trip, tf0, tf1, tf2, tf3, tf4, tf5, tf6, pl, tpl, uc, uw, uo, ut, uf, ud, uu, us, ap, iW, iR, D1, D2, hbits, hws, hc⟩ F5 N5
    have hi5 : i < 10 := Nat.lt_of_lt_of_le (List.getElem?_eq_some_iff.mp hk).1 hS9
    have F6 : Fr h₀ L h5 (fun y => if y = Str.ofString "cell" then some (.int k t') else if y = Str.ofString "way" then uw else if y = Str.ofString "one" then uo else if y = Str.ofString "other" then ut else if y = Str.ofString "far" then uf else if y = Str.ofString "place" then some (.int pl tpl) else if y = Str.ofString "deed" then ud else if y = Str.ofString "bits" then some (.ref Bt) else if y = Str.ofString "did" then uu else if y = Str.ofString "spot" then us else if y = Str.ofString "state" then some (.ref S) else if y = Str.ofString "worths" then some (.ref W) else none) := fr_to F5 (by
      refine' map_agree ?i1 ?i2 ?a1 ?a2
      case i1 => first | exact IsMap.cons (IsMap.cons (IsMap.nil)) | exact IsMap.cons (IsMap.cons (IsMap.cons (IsMap.nil))) | exact IsMap.cons (IsMap.cons (IsMap.cons (IsMap.cons (IsMap.nil)))) | exact IsMap.cons (IsMap.cons (IsMap.cons (IsMap.cons (IsMap.cons (IsMap.nil))))) | exact IsMap.cons (IsMap.cons (IsMap.cons (IsMap.cons (IsMap.cons (IsMap.cons (IsMap.nil)))))) | exact IsMap.cons (IsMap.cons (IsMap.cons (IsMap.cons (IsMap.cons (IsMap.cons (IsMap.cons (IsMap.nil))))))) | exact IsMap.cons (IsMap.cons (IsMap.cons (IsMap.cons (IsMap.cons (IsMap.cons (IsMap.cons (IsMap.cons (IsMap.nil)))))))) | exact IsMap.cons (IsMap.cons (IsMap.cons (IsMap.cons (IsMap.cons (IsMap.cons (IsMap.cons (IsMap.cons (IsMap.cons (IsMap.nil))))))))) | exact IsMap.cons (IsMap.cons (IsMap.cons (IsMap.cons (IsMap.cons (IsMap.cons (IsMap.cons (IsMap.cons (IsMap.cons (IsMap.cons (IsMap.nil)))))))))) | exact IsMap.cons (IsMap.cons (IsMap.cons (IsMap.cons (IsMap.cons (IsMap.cons (IsMap.cons (IsMap.cons (IsMap.cons (IsMap.cons (IsMap.cons (IsMap.nil))))))))))) | exact IsMap.cons (IsMap.cons (IsMap.cons (IsMap.cons (IsMap.cons (IsMap.cons (IsMap.cons (IsMap.cons (IsMap.cons (IsMap.cons (IsMap.cons (IsMap.cons (IsMap.nil)))))))))))) | exact IsMap.cons (IsMap.cons (IsMap.cons (IsMap.cons (IsMap.cons (IsMap.cons (IsMap.cons (IsMap.cons (IsMap.cons (IsMap.cons (IsMap.cons (IsMap.cons (IsMap.cons (IsMap.nil))))))))))))) | exact IsMap.cons (IsMap.cons (IsMap.cons (IsMap.cons (IsMap.cons (IsMap.cons (IsMap.cons (IsMap.cons (IsMap.cons (IsMap.cons (IsMap.cons (IsMap.cons (IsMap.cons (IsMap.cons (IsMap.nil)))))))))))))) | exact IsMap.cons (IsMap.cons (IsMap.cons (IsMap.cons (IsMap.cons (IsMap.cons (IsMap.cons (IsMap.cons (IsMap.cons (IsMap.cons (IsMap.cons (IsMap.cons (IsMap.cons (IsMap.cons (IsMap.cons (IsMap.nil))))))))))))))) | exact IsMap.cons (IsMap.cons (IsMap.cons (IsMap.cons (IsMap.cons (IsMap.cons (IsMap.cons (IsMap.cons (IsMap.cons (IsMap.cons (IsMap.cons (IsMap.cons (IsMap.cons (IsMap.cons (IsMap.cons (IsMap.cons (IsMap.nil))))))))))))))))
      case i2 => first | exact IsMap.cons (IsMap.cons (IsMap.cons (IsMap.cons (IsMap.cons (IsMap.cons (IsMap.cons (IsMap.cons (IsMap.cons (IsMap.cons (IsMap.cons (IsMap.cons (IsMap.nil))))))))))))
      case a1 => first | exact Agree.cons rfl (Agree.cons rfl (Agree.nil)) | exact Agree.cons rfl (Agree.cons rfl (Agree.cons rfl (Agree.nil))) | exact Agree.cons rfl (Agree.cons rfl (Agree.cons rfl (Agree.cons rfl (Agree.nil)))) | exact Agree.cons rfl (Agree.cons rfl (Agree.cons rfl (Agree.cons rfl (Agree.cons rfl (Agree.nil))))) | exact Agree.cons rfl (Agree.cons rfl (Agree.cons rfl (Agree.cons rfl (Agree.cons rfl (Agree.cons rfl (Agree.nil)))))) | exact Agree.cons rfl (Agree.cons rfl (Agree.cons rfl (Agree.cons rfl (Agree.cons rfl (Agree.cons rfl (Agree.cons rfl (Agree.nil))))))) | exact Agree.cons rfl (Agree.cons rfl (Agree.cons rfl (Agree.cons rfl (Agree.cons rfl (Agree.cons rfl (Agree.cons rfl (Agree.cons rfl (Agree.nil)))))))) | exact Agree.cons rfl (Agree.cons rfl (Agree.cons rfl (Agree.cons rfl (Agree.cons rfl (Agree.cons rfl (Agree.cons rfl (Agree.cons rfl (Agree.cons rfl (Agree.nil))))))))) | exact Agree.cons rfl (Agree.cons rfl (Agree.cons rfl (Agree.cons rfl (Agree.cons rfl (Agree.cons rfl (Agree.cons rfl (Agree.cons rfl (Agree.cons rfl (Agree.cons rfl (Agree.nil)))))))))) | exact Agree.cons rfl (Agree.cons rfl (Agree.cons rfl (Agree.cons rfl (Agree.cons rfl (Agree.cons rfl (Agree.cons rfl (Agree.cons rfl (Agree.cons rfl (Agree.cons rfl (Agree.cons rfl (Agree.nil))))))))))) | exact Agree.cons rfl (Agree.cons rfl (Agree.cons rfl (Agree.cons rfl (Agree.cons rfl (Agree.cons rfl (Agree.cons rfl (Agree.cons rfl (Agree.cons rfl (Agree.cons rfl (Agree.cons rfl (Agree.cons rfl (Agree.nil)))))))))))) | exact Agree.cons rfl (Agree.cons rfl (Agree.cons rfl (Agree.cons rfl (Agree.cons rfl (Agree.cons rfl (Agree.cons rfl (Agree.cons rfl (Agree.cons rfl (Agree.cons rfl (Agree.cons rfl (Agree.cons rfl (Agree.cons rfl (Agree.nil))))))))))))) | exact Agree.cons rfl (Agree.cons rfl (Agree.cons rfl (Agree.cons rfl (Agree.cons rfl (Agree.cons rfl (Agree.cons rfl (Agree.cons rfl (Agree.cons rfl (Agree.cons rfl (Agree.cons rfl (Agree.cons rfl (Agree.cons rfl (Agree.cons rfl (Agree.nil)))))))))))))) | exact Agree.cons rfl (Agree.cons rfl (Agree.cons rfl (Agree.cons rfl (Agree.cons rfl (Agree.cons rfl (Agree.cons rfl (Agree.cons rfl (Agree.cons rfl (Agree.cons rfl (Agree.cons rfl (Agree.cons rfl (Agree.cons rfl (Agree.cons rfl (Agree.cons rfl (Agree.nil))))))))))))))) | exact Agree.cons rfl (Agree.cons rfl (Agree.cons rfl (Agree.cons rfl (Agree.cons rfl (Agree.cons rfl (Agree.cons rfl (Agree.cons rfl (Agree.cons rfl (Agree.cons rfl (Agree.cons rfl (Agree.cons rfl (Agree.cons rfl (Agree.cons rfl (Agree.cons rfl (Agree.cons rfl (Agree.nil))))))))))))))))
      case a2 => first | exact Agree.cons rfl (Agree.cons rfl (Agree.cons rfl (Agree.cons rfl (Agree.cons rfl (Agree.cons rfl (Agree.cons rfl (Agree.cons rfl (Agree.cons rfl (Agree.cons rfl (Agree.cons rfl (Agree.cons rfl (Agree.nil))))))))))))
      )
    have ap6 := ap.own hoff
    have hin : ∀ p ∈ (Bt, { cls := .type "tuple", data := .seq (List.toArray [.int b0 tb0, .int b1 tb1, .int b2 tb2, .int b3 tb3, .int b4 tb4, .int b5 tb5, .int b6 tb6]) nB }) :: ([(S, instObj 546 dS), (Fl, instObj 174 dFl), (Me, instObj 429 dMe), (dMe, dictOf [⟨hMe0, .str (Str.ofString "held") kMe0, .ref H⟩] 1), (L + 2, oHc), (L + 1, oSc)] ++ own), p ∈ (Bt, { cls := .type "tuple", data := .seq (List.toArray [.int b0 tb0, .int b1 tb1, .int b2 tb2, .int b3 tb3, .int b4 tb4, .int b5 tb5, .int b6 tb6]) nB }) :: ([(S, instObj 546 dS), (Fl, instObj 174 dFl), (Me, instObj 429 dMe), (dMe, dictOf [⟨hMe0, .str (Str.ofString "held") kMe0, .ref H⟩] 1), (L + 2, oHc), (L + 1, oSc)] ++ own) := fun _ h => h
    refine turn_use (w := w) (fa := fa) (cd := cd) (L := L) (n := 0) hst ?_
    refine t0 (fa := fa) (cd := cd) (l := l) (rest := (Bt, { cls := .type "tuple", data := .seq (List.toArray [.int b0 tb0, .int b1 tb1, .int b2 tb2, .int b3 tb3, .int b4 tb4, .int b5 tb5, .int b6 tb6]) nB }) :: ([(S, instObj 546 dS), (Fl, instObj 174 dFl), (Me, instObj 429 dMe), (dMe, dictOf [⟨hMe0, .str (Str.ofString "held") kMe0, .ref H⟩] 1), (L + 2, oHc), (L + 1, oSc)] ++ own)) X T B hl hi hn F6 N5 ap6 (.tail _ (.head _)) (.tail _ (.tail _ (.head _))) (.tail _ (.tail _ (.tail _ (.head _)))) (.tail _ (.tail _ (.tail _ (.tail _ (.head _))))) (.head _) (.tail _ (.tail _ (.tail _ (.tail _ (.tail _ (.head _)))))) dHc iW iR D1 D2 hbits hws (by omega) ?_
    intro Bt' nB' b0' b1' b2' b3' b4' b5' b6' tb0' tb1' tb2' tb3' tb4' tb5' tb6' vsW' vsR' oD' oH' ws' c' pl' tpl' trip' tf0' tf1' tf2' tf3' tf4' tf5' tf6' rest' uc' uw' uo' ut' uf' ud' uu' us' h6 tk6 F2 N2 ap2 sub mB2 hBt iW2 iR2 D12 D22 hb2 hws2 hc2
    have hfx2 : ∀ p ∈ (Bt', { cls := .type "tuple", data := .seq (List.toArray [.int b0' tb0', .int b1' tb1', .int b2' tb2', .int b3' tb3', .int b4' tb4', .int b5' tb5', .int b6' tb6']) nB' }) :: [(S, instObj 546 dS), (Fl, instObj 174 dFl), (Me, instObj 429 dMe), (dMe, dictOf [⟨hMe0, .str (Str.ofString "held") kMe0, .ref H⟩] 1), (L + 2, oHc), (L + 1, oSc)], p ∈ rest' := List.forall_mem_cons.mpr ⟨mB2, fun p hp => sub p (.tail _ (List.mem_append_left _ hp))⟩
    exact TurnEnd.intro (nx := (W, listOf vsW'.toArray nW) :: (HD, oD') :: (R, listOf vsR'.toArray nR) :: (H, oH') :: (dS, dictOf [⟨hS0, .str (Str.ofString "iset") kS0, .none⟩, ⟨hS1, .str (Str.ofString "regs") kS1, .ref R⟩, ⟨hS2, .str (Str.ofString "xmm") kS2, .ref Xm⟩, ⟨hS3, .str (Str.ofString "flags") kS3, .ref Fl⟩, ⟨hS4, .str (Str.ofString "memory") kS4, .ref Me⟩, ⟨hS5, .str (Str.ofString "rip") kS5, .int pl' trip'⟩, ⟨hS6, .str (Str.ofString "begin") kS6, .int 0 tbg⟩, ⟨hS7, .str (Str.ofString "segments") kS7, .ref Sg⟩, ⟨hS8, .str (Str.ofString "is_halted") kS8, .bool false⟩] 9) :: (dFl, dictOf [⟨hFl0, .str (Str.ofString "cf") kFl0, .int b0' tf0'⟩, ⟨hFl1, .str (Str.ofString "pf") kFl1, .int b1' tf1'⟩, ⟨hFl2, .str (Str.ofString "af") kFl2, .int b2' tf2'⟩, ⟨hFl3, .str (Str.ofString "zf") kFl3, .int b3' tf3'⟩, ⟨hFl4, .str (Str.ofString "sf") kFl4, .int b4' tf4'⟩, ⟨hFl5, .str (Str.ofString "of") kFl5, .int b5' tf5'⟩, ⟨hFl6, .str (Str.ofString "df") kFl6, .int b6' tf6'⟩] 7) :: (Bt', { cls := .type "tuple", data := .seq (List.toArray [.int b0' tb0', .int b1' tb1', .int b2' tb2', .int b3' tb3', .int b4' tb4', .int b5' tb5', .int b6' tb6']) nB' }) :: [(S, instObj 546 dS), (Fl, instObj 174 dFl), (Me, instObj 429 dMe), (dMe, dictOf [⟨hMe0, .str (Str.ofString "held") kMe0, .ref H⟩] 1), (L + 2, oHc), (L + 1, oSc)]) F2 (news_of N2 (led_own mB2 (fun p hp => sub p (.tail _ (List.mem_append_left _ hp))) (fun p hp => sub p (.tail _ (List.mem_append_right _ hp))))) (off_next hoff hBt)
      (.mk (ap2.sub hfx2) iW2 iR2 D12 D22 hb2 hws2 (by omega))
  · rintro m₁ nx h5 tk5 @⟨vsW, vsR, oD, oH, ws, c, Bt, nB, b0, b1, b2, b3, b4, b5, b6, tb0, tb1, tb2, tb3, tb4, tb5, tb6, rip, trip, tf0, tf1, tf2, tf3, tf4, tf5, tf6, pl, tpl, uc, uw, uo, ut, uf, ud, uu, us, ap, iW, iR, D1, D2, hbits, hws, hc⟩ F5 N5
    (try k_unfold)
    (try dsimp only)
    exact h10 (s := { s with heap := h5, toks := tk5 }) (rest := (Bt, { cls := .type "tuple", data := .seq (List.toArray [.int b0 tb0, .int b1 tb1, .int b2 tb2, .int b3 tb3, .int b4 tb4, .int b5 tb5, .int b6 tb6]) nB }) :: [(S, instObj 546 dS), (Fl, instObj 174 dFl), (Me, instObj 429 dMe), (dMe, dictOf [⟨hMe0, .str (Str.ofString "held") kMe0, .ref H⟩] 1), (L + 2, oHc), (L + 1, oSc)]) X T B hl hi hn F5 N5 (.tail _ (.head _)) (.tail _ (.tail _ (.head _))) (.tail _ (.tail _ (.tail _ (.head _)))) (.tail _ (.tail _ (.tail _ (.tail _ (.head _))))) (.head _) (.tail _ (.tail _ (.tail _ (.tail _ (.tail _ (.head _)))))) (.tail _ (.tail _ (.tail _ (.tail _ (.tail _ (.tail _ (.head _))))))) dHc dSc ap D1 D2 (by omega) ret _ hst
theorem stage8 (h10 : Stage10) : Stage8 := stage8_ h10

section
open PyProof.Rows.LCg PyProof.Rows.LCt
noncomputable def DictSrcT (prog : Program) (w : World) (A : Around) (h₀ : Heap) (L : Addr) (m : Str → Option Value) (env : Env) (ct elt : PySem.Expr) (x : Str) (scope : Scope) (cl : List (Str × Addr)) (Fin : Shared → List Value → List (Addr × Obj) → Prop) (xv : Value) (s₁ : Shared) : Prop :=
  ∃ d oH kvs news, xv = .ref d ∧ A.handled = none ∧ (d == sysModules) = false ∧ Fr h₀ L s₁.heap m ∧ News h₀ L s₁.heap news ∧ (d, oH) ∈ news ∧ oH.IsDictOf (PySem.intKind prog w) kvs ∧ kvs.length ≤ sizeLine ∧
    ∀ s₂ : Shared, (∃ h, s₂ = { s₁ with heap := h }) → CompRestT prog w A h₀ L m env ct elt x scope cl s₂ (fun nw => (d, oH) ∈ nw) (fun i v => ∃ k y, kvs[i]? = some (k, y) ∧ (PySem.intKind prog w).is k v = true) (Fin s₂) kvs.length 0 [] news
theorem ListComp_TD {prog : Program} {w : World} {A : Around} {E : Value → Shared → Prop} {s : Shared} {h₀ : Heap} {L : Addr} {m : Str → Option Value} {env : Env} {ct elt iter : PySem.Expr} {x : Str} {px : Pos} {scope : Scope} {cl : List (Str × Addr)} {pos : Pos} {Q : Value → Shared → Prop} (F₀ : Fr h₀ L s.heap m)
    (hclos : closureFor scope env = pure cl) (hcell : ∀ y ∈ scope.names, y.2 ≠ .cell) (hkind : scope.kind = .function)
    (hnames : ∀ y ∈ scope.names, y.2 = .local → scope.names.lookup y.1 = some .local) (hx : scope.names.lookup x = some .local)
    (h : wpAny (model prog w) A (eval iter env) (DictSrcT prog w A h₀ L m env ct elt x scope cl (fun s₂ => FinE h₀ L m s₂ Q)) E s)
    (hs : ∀ x, foldedSetIterable iter env x = pure x := by intro _; rfl) :
    wpAny (model prog w) A (eval (.ListComp elt [⟨.Name x px, iter, [ct], 0⟩] scope pos) env) Q E s := by
  rw [eval_ListComp]
  refine wpAny_comprehension_free (use := none) rfl hs hclos hkind hnames (wpAny_mono h (fun xv s₁ h₁ => ?_) fun _ _ e => e)
  obtain ⟨d, oH, kvs, news, rfl, hh, lo, F, N, hm, hd, hsz, R⟩ := h₁
  obtain ⟨ep, ha⟩ := KdkAt.of hd
  have hdl : d < s₁.heap.objs.size := Heap.lt_size (N _ hm).1
  refine wpAny_pyIter_dict lo (ha.dictAt (N _ hm).1) ?_
  have up : ∀ b o, s₁.heap.get? b = some o → (s₁.heap.push { cls := .type "dict_keyiterator", data := .fields #[.ref d, .int 0 0, .int kvs.length 0, .int ep 0] }).get? b = some o := fun b o e => Heap.get?_push_of_some _ e
  refine block_T (Walks.dictKeys hh s₁.heap.objs.size d (Nat.ne_of_lt hdl) kvs ep) hsz (fun i h st => by obtain ⟨o, e, _⟩ := st.1; exact ⟨o, e⟩)
    (S := fun nw => (d, oH) ∈ nw) ?_ hcell hkind hx ⟨⟨_, Heap.get?_push_size _ rfl, rfl, rfl⟩, ha.dictAt (up _ _ (N _ hm).1)⟩ (fun b hb => ?_)
    (F.keeps up) (N.grown up) (Nat.ne_of_lt F.ns.lt) (next_is_new F) (fun p hp => Nat.ne_of_lt (Heap.lt_size (N p hp).1)) hm (R _ ⟨_, rfl⟩) ?_
  · intro i h h' o nw st eI eI' _ Nw hS
    exact ⟨st.1.at fun o' e' => by rw [eI] at e'; rw [← e']; exact eI', ha.dictAt (Nw _ hS).1⟩
  · show b < (s₁.heap.push _).objs.size
    rw [Heap.size_push]
    rcases List.mem_cons.mp hb with rfl | hb
    · exact Nat.lt_succ_self _
    · rw [List.mem_singleton.mp hb]; exact Nat.lt_succ_of_lt hdl
  · intro D C h tk m' ys news' F' N' o1 hn hC₀ hD₀ hCL hDL hCD offC fin
    refine ⟨m', hn, fun h'' hs'' => fin D h'' tk (F'.change hs'' hCL hC₀) (fun p hp => ?_) o1⟩
    refine ⟨hs''.extBut _ _ ?_ (N' p hp).1, (N' p hp).2⟩
    rcases List.mem_cons.mp hp with rfl | hp
    · exact Ne.symm hCD
    · exact offC p hp
theorem comp_turns {prog : Program} {w : World} {A : Around} {h₀ : Heap} {L : Addr} {m : Str → Option Value} {env : Env} {ct elt : PySem.Expr} {x : Str} {scope : Scope} {cl : List (Str × Addr)} {s : Shared} {S : List (Addr × Obj) → Prop} {P : Nat → Value → Prop} {Fin : List Value → List (Addr × Obj) → Prop} {n : Nat}
    (Inv : Nat → List Value → List (Addr × Obj) → Prop)
    (step : ∀ i ys nw, i < n → Inv i ys nw → ∀ v I oI C oC D m₂ h tk (E' : Value → Shared → Prop), P i v → NsObj oC m₂ → m₂ x = some v → Fr h₀ L h m → News h₀ L h ((I, oI) :: (C, oC) :: (D, lst ys) :: nw) → Off3 I C D nw → ((@Ne Nat I C) ∧ (@Ne Nat I D) ∧ (@Ne Nat C D)) →
      wpAny (model prog w) A (isTrue ct (compEnvC scope cl C env) (eval ct (compEnvC scope cl C env))) (fun ok s' => if ok = true then
        wpAny (model prog w) A (eval elt (compEnvC scope cl C env)) (CompEnd h₀ L m { s with heap := h, toks := tk } I oI C oC D (lst ys) S (fun y nw' => Inv (i + 1) (ys ++ [y]) nw')) E' s'
        else CompEnd h₀ L m { s with heap := h, toks := tk } I oI C oC D (lst ys) S (fun _ nw' => Inv (i + 1) ys nw') Value.none s') E' { s with heap := h, toks := tk })
    (fin : ∀ ys nw, Inv n ys nw → Fin ys nw) : ∀ k i ys nw, i + k = n → Inv i ys nw → CompRestT prog w A h₀ L m env ct elt x scope cl s S P Fin k i ys nw
  | 0, i, ys, nw, e, h => CompRestT.zero (fin ys nw ((show i = n from e) ▸ h))
  | k + 1, i, ys, nw, e, h => CompRestT.succ fun v I oI C oC D m₂ h' tk E' hP hC hx F N off ne => by
    refine wpAny_mono (step i ys nw (by omega) h v I oI C oC D m₂ h' tk E' hP hC hx F N off ne) (fun ok s' h1 => ?_) fun _ _ e => e
    cases ok with
    | true =>
      simp only [if_true] at h1 ⊢
      refine wpAny_mono h1 (fun y s'' h2 => ?_) fun _ _ e => e
      obtain ⟨h3, tk3, nw3, e3, F3, N3, o3, S3, r3⟩ := h2
      exact ⟨h3, tk3, nw3, e3, F3, N3, o3, S3, comp_turns Inv step fin k (i + 1) _ _ (by omega) r3⟩
    | false =>
      simp only [Bool.false_eq_true, if_false] at h1 ⊢
      obtain ⟨h3, tk3, nw3, e3, F3, N3, o3, S3, r3⟩ := h1
      exact ⟨h3, tk3, nw3, e3, F3, N3, o3, S3, comp_turns Inv step fin k (i + 1) _ _ (by omega) r3⟩
theorem keyAt {kvs : List (Int × Value)} {c : List (Int × Int)} (hf : FlatPairs PyData.int kvs (kdfD c)) {j : Nat} {k : Int} {v : Value} (hx : kvs[j]? = some (k, v)) : ∃ p, c[j]? = some p ∧ p.1 = k := by
  obtain ⟨dv, hd, _⟩ := hf.at hx
  have hd' : (c[j]?).map (fun p => (PyData.int p.1, PyData.int p.2)) = some (PyData.int k, dv) := by rw [← List.getElem?_map]; exact hd
  cases hcj : c[j]? with
  | none => rw [hcj] at hd'; cases hd'
  | some p =>
    rw [hcj] at hd'
    have e1 : PyData.int p.1 = PyData.int k := congrArg Prod.fst (Option.some.inj hd')
    injection e1 with e1
    exact ⟨p, rfl, e1⟩
theorem hasAt {c : List (Int × Int)} {j : Nat} {p : Int × Int} (h : c[j]? = some p) : kdfHas c p.1 = true := by
  unfold kdfHas
  rw [List.any_eq_true]
  exact ⟨p, List.mem_of_getElem? h, by simp⟩
end

section
local macro_rules | `(tactic| omega) => `(tactic| first | lia | omega (config := {}))
/-- the sort as a function of its comparisons alone: a side is one table of items whose comparisons answer as `less` says -/
structure Side (less : Nat → Nat → Bool) where
  prog : Program
  w : World
  A : Around
  E : Value → Shared → Prop
  s : Shared
  κ : SortKind
  it : Nat → Keyed
  ok : ∀ (i j : Nat) (Q : Bool → Shared → Prop), Q (less i j) s → wpAny (model prog w) A (keyLt' κ (it i).1 (it j).1) Q (fun _ _ => False) s
structure Ix where
  arr : Array Nat
  pend : Array (Nat × Nat × Nat)
  mg : Nat
section
variable {less : Nat → Nat → Bool} {α β : Type}
noncomputable def conc (sd : Side less) (ix : Ix) : SortSt := SortSt.mk' sd.κ (ix.arr.map sd.it) ix.pend ix.mg none
noncomputable def Det (m : Side less → StateT SortSt Sem α) (ix : Ix) (P : (Side less → α) → Ix → Prop) : Prop :=
  ∃ (x : Side less → α) (ix' : Ix), P x ix' ∧ ∀ (sd : Side less) (Q : α → SortSt → Prop), Q (x sd) (conc sd ix') → wpS (model sd.prog sd.w) sd.A sd.E sd.s (m sd) Q (conc sd ix)
theorem det_pure {v : Side less → α} {ix : Ix} {P : (Side less → α) → Ix → Prop} (h : P v ix) : Det (fun sd => pure (v sd)) ix P :=
  ⟨v, ix, h, fun _ _ hq => wpS_pure hq⟩
theorem det_bind {m : Side less → StateT SortSt Sem α} {f : Side less → α → StateT SortSt Sem β} {ix : Ix} {P : (Side less → β) → Ix → Prop}
    (h : Det m ix (fun x ix' => Det (fun sd => f sd (x sd)) ix' P)) : Det (fun sd => m sd >>= f sd) ix P := by
  obtain ⟨x, ix', ⟨y, ix'', hp, h2⟩, h1⟩ := h
  exact ⟨y, ix'', hp, fun sd Q hq => wpS_bind (h1 sd _ (h2 sd Q hq))⟩
theorem det_mono {m : Side less → StateT SortSt Sem α} {ix : Ix} {P P' : (Side less → α) → Ix → Prop} (h : Det m ix P) (hp : ∀ x ix', P x ix' → P' x ix') : Det m ix P' := by
  obtain ⟨x, ix', p, k⟩ := h
  exact ⟨x, ix', hp _ _ p, k⟩
theorem det_rule {msg : String} {f : Side less → Unit → StateT SortSt Sem β} {ix : Ix} {P : (Side less → β) → Ix → Prop} (h : Det (fun sd => f sd ()) ix P) :
    Det (fun sd => (liftM (rule msg) : StateT SortSt Sem Unit) >>= f sd) ix P := by
  obtain ⟨y, ix'', hp, h2⟩ := h
  exact ⟨y, ix'', hp, fun sd Q hq => wpS_bind (wpS_lift (wpAny_rule ⟨rfl, h2 sd Q hq⟩))⟩
theorem det_get {f : Side less → SortSt → StateT SortSt Sem β} {ix : Ix} {P : (Side less → β) → Ix → Prop} (h : Det (fun sd => f sd (conc sd ix)) ix P) :
    Det (fun sd => (get : StateT SortSt Sem SortSt) >>= f sd) ix P := by
  obtain ⟨y, ix'', hp, h2⟩ := h
  exact ⟨y, ix'', hp, fun sd Q hq => wpS_bind (wpS_get (h2 sd Q hq))⟩
theorem det_modify {g : Side less → SortSt → SortSt} {f : Side less → PUnit → StateT SortSt Sem β} {ix : Ix} (ix' : Ix) {P : (Side less → β) → Ix → Prop} (hg : ∀ sd, g sd (conc sd ix) = conc sd ix') (h : Det (fun sd => f sd ⟨⟩) ix' P) :
    Det (fun sd => (modify (g sd) : StateT SortSt Sem PUnit) >>= f sd) ix P := by
  obtain ⟨y, ix'', hp, h2⟩ := h
  exact ⟨y, ix'', hp, fun sd Q hq => wpS_bind (wpS_modify (by rw [hg]; exact h2 sd Q hq))⟩
theorem det_modify1 {g : Side less → SortSt → SortSt} {ix : Ix} (ix' : Ix) {P : (Side less → PUnit) → Ix → Prop} (hg : ∀ sd, g sd (conc sd ix) = conc sd ix') (h : P (fun _ => ⟨⟩) ix') :
    Det (fun sd => (modify (g sd) : StateT SortSt Sem PUnit)) ix P :=
  ⟨_, ix', h, fun sd Q hq => wpS_modify (by rw [hg]; exact hq)⟩
theorem det_set {v : Side less → SortSt} {f : Side less → PUnit → StateT SortSt Sem β} {ix : Ix} (ix' : Ix) {P : (Side less → β) → Ix → Prop} (hg : ∀ sd, v sd = conc sd ix') (h : Det (fun sd => f sd ⟨⟩) ix' P) :
    Det (fun sd => (set (v sd) : StateT SortSt Sem PUnit) >>= f sd) ix P := by
  obtain ⟨y, ix'', hp, h2⟩ := h
  refine ⟨y, ix'', hp, fun sd Q hq => wpS_bind ?_⟩
  unfold wpS
  rw [StateT.run_set, hg]
  exact wpAny_pure ⟨rfl, h2 sd Q hq⟩
theorem at_map {arr : Array Nat} {it : Nat → Keyed} {i : Nat} (hi : i < arr.size) : (arr.map it)[i]? = some (it (arr.getD i 0)) := by
  have e : arr.getD i 0 = arr[i] := by simp [Array.getD, hi]
  rw [e]; simp [hi]
theorem det_elem {arr : Array Nat} {i : Nat} {f : Side less → Keyed → StateT SortSt Sem β} {ix : Ix} {P : (Side less → β) → Ix → Prop} (hi : i < arr.size) (h : ∀ v, Det (fun sd => f sd (sd.it v)) ix P) :
    Det (fun sd => elem' (arr.map sd.it) i >>= f sd) ix P := by
  obtain ⟨y, ix'', hp, h2⟩ := h (arr.getD i 0)
  refine ⟨y, ix'', hp, fun sd Q hq => wpS_bind ?_⟩
  rw [elem'_eq, at_map hi]
  exact wpS_pure (h2 sd Q hq)
theorem det_ite {c : Prop} {d : Side less → Decidable c} {t e : Side less → StateT SortSt Sem α} {ix : Ix} {P : (Side less → α) → Ix → Prop} (ht : c → Det t ix P) (he : ¬ c → Det e ix P) : Det (fun sd => @ite _ c (d sd) (t sd) (e sd)) ix P := by
  by_cases h : c
  · simpa only [if_pos h] using ht h
  · simpa only [if_neg h] using he h
theorem det_iteR {c : Prop} {d : Side less → Decidable c} {t e : Side less → StateT SortSt Sem α} {ix : Ix} {P : (Side less → α) → Ix → Prop} {R : Prop} (hre : R → Det e ix P) (hr : R) (hrt : c → R → Det t ix P) : Det (fun sd => @ite _ c (d sd) (t sd) (e sd)) ix P :=
  det_ite (fun hc => hrt hc hr) fun _ => hre hr
theorem det_iteC (c0 : Prop) {c : Side less → Prop} {d : ∀ sd, Decidable (c sd)} {t e : Side less → StateT SortSt Sem α} {ix : Ix} {P : (Side less → α) → Ix → Prop} (hc : ∀ sd, c sd ↔ c0) (ht : c0 → Det t ix P) (he : ¬ c0 → Det e ix P) : Det (fun sd => @ite _ (c sd) (d sd) (t sd) (e sd)) ix P := by
  by_cases h : c0
  · rw [show (fun sd => @ite _ (c sd) (d sd) (t sd) (e sd)) = t from funext fun sd => if_pos ((hc sd).mpr h)]
    exact ht h
  · rw [show (fun sd => @ite _ (c sd) (d sd) (t sd) (e sd)) = e from funext fun sd => if_neg fun q => h ((hc sd).mp q)]
    exact he h
theorem det_lt1 {i j : Nat} {ix : Ix} {P : (Side less → Option Bool) → Ix → Prop} (h : ∀ c, P (fun _ => some c) ix) :
    Det (fun sd : Side less => lt' (sd.it i) (sd.it j)) ix P := by
  refine ⟨fun _ => some (less i j), ix, h _, fun sd Q hq => ?_⟩
  show wpS _ _ _ _ (lt' _ _) _ _
  rw [lt'_eq]
  refine wpS_bind (wpS_get ?_)
  have hk : wpAny (model sd.prog sd.w) sd.A (keyLt' sd.κ (sd.it i).1 (sd.it j).1) (fun b s' => s' = sd.s ∧ b = less i j) (fun _ _ => False) sd.s := sd.ok i j _ ⟨rfl, rfl⟩
  refine wpS_bind (wpS_lift (wpAny_attempt (wpAny_mono hk (fun c s' hc => ?_) fun _ _ hF => hF.elim)))
  obtain ⟨rfl, rfl⟩ := hc
  exact ⟨rfl, wpS_pure hq⟩
theorem det_lt {i j : Nat} {f : Side less → Option Bool → StateT SortSt Sem β} {ix : Ix} {P : (Side less → β) → Ix → Prop} (h : ∀ c, Det (fun sd => f sd (some c)) ix P) :
    Det (fun sd => lt' (sd.it i) (sd.it j) >>= f sd) ix P := det_bind (det_lt1 h)
theorem det_ltAt {i j : Nat} {f : Side less → Option Bool → StateT SortSt Sem β} {ix : Ix} {P : (Side less → β) → Ix → Prop} (hi : i < ix.arr.size) (hj : j < ix.arr.size) (h : ∀ c, Det (fun sd => f sd (some c)) ix P) :
    Det (fun sd => ltAt' i j >>= f sd) ix P := by
  have e : (fun sd => ltAt' i j >>= f sd) = fun sd : Side less => ((do let a := arrOf (← get); lt' (← elem' a i) (← elem' a j)) : StateT SortSt Sem (Option Bool)) >>= f sd := by
    funext sd; rw [ltAt'_eq]
  rw [e]
  refine det_bind (det_get ?_)
  show Det (fun sd => elem' (ix.arr.map sd.it) i >>= fun x => elem' (ix.arr.map sd.it) j >>= fun y => lt' x y) _ _
  exact det_elem hi fun _ => det_elem hj fun _ => det_lt1 h
/-- one more turn of a loop, or its end -/
noncomputable def DetStep (D : (Side less → β) → Ix → Prop) (I : (Side less → β) → Ix → Prop) (r : Side less → ForInStep β) (ix : Ix) : Prop :=
  (∃ x, r = (fun sd => .done (x sd)) ∧ D x ix) ∨ (∃ x, r = (fun sd => .yield (x sd)) ∧ I x ix)
theorem DetStep.done {D I : (Side less → β) → Ix → Prop} {x : Side less → β} {ix : Ix} (h : D x ix) : DetStep D I (fun sd => .done (x sd)) ix := .inl ⟨x, rfl, h⟩
theorem DetStep.yield {D I : (Side less → β) → Ix → Prop} {x : Side less → β} {ix : Ix} (h : I x ix) : DetStep D I (fun sd => .yield (x sd)) ix := .inr ⟨x, rfl, h⟩
theorem det_forL {f : Side less → Nat → β → StateT SortSt Sem (ForInStep β)} (I : Nat → (Side less → β) → Ix → Prop) (D : (Side less → β) → Ix → Prop) {b : Nat}
    (step : ∀ i x ix, i < b → I i x ix → Det (fun sd => f sd i (x sd)) ix (DetStep D (I (i + 1)))) (fin : ∀ i x ix, b ≤ i → I i x ix → D x ix) :
    ∀ (n i : Nat) (x : Side less → β) (ix : Ix), b - i = n → I i x ix → Det (fun sd => forIn (List.range' i n) (x sd) (f sd)) ix D
  | 0, i, x, ix, hn, h => by
    show Det (fun sd => forIn ([] : List Nat) (x sd) (f sd)) ix D
    simp only [List.forIn_nil]
    exact det_pure (fin i x ix (by omega) h)
  | n + 1, i, x, ix, hn, h => by
    rw [List.range'_succ]
    simp only [List.forIn_cons]
    refine det_bind (det_mono (step i x ix (by omega) h) ?_)
    rintro r ix' (⟨y, rfl, hd⟩ | ⟨y, rfl, hi⟩)
    · exact det_pure hd
    · exact det_forL I D step fin n (i + 1) y ix' (by omega) hi
theorem det_for {f : Side less → Nat → β → StateT SortSt Sem (ForInStep β)} {k : Side less → β → StateT SortSt Sem α} (I : Nat → (Side less → β) → Ix → Prop) (D : (Side less → β) → Ix → Prop) {a b : Nat} {x : Side less → β} {ix : Ix} {P : (Side less → α) → Ix → Prop}
    (h0 : I a x ix) (step : ∀ i x ix, i < b → I i x ix → Det (fun sd => f sd i (x sd)) ix (DetStep D (I (i + 1)))) (fin : ∀ i x ix, b ≤ i → I i x ix → D x ix)
    (after : ∀ x ix, D x ix → Det (fun sd => k sd (x sd)) ix P) : Det (fun sd => forIn [a:b] (x sd) (f sd) >>= k sd) ix P := by
  refine det_bind (det_mono (P := D) ?_ after)
  have e : (fun sd => forIn [a:b] (x sd) (f sd)) = fun sd : Side less => forIn (List.range' a (b - a)) (x sd) (f sd) := by
    funext sd
    rw [Std.Legacy.Range.forIn_eq_forIn_range']
    have hsz : ([a:b] : Std.Legacy.Range).size = b - a := by simp [Std.Legacy.Range.size]
    show forIn (List.range' a ([a:b] : Std.Legacy.Range).size 1) _ _ = _
    rw [hsz]
  rw [e]
  exact det_forL I D step fin (b - a) a x ix rfl h0
theorem det_rev {i j : Nat} {f : Side less → Unit → StateT SortSt Sem β} {ix : Ix} {P : (Side less → β) → Ix → Prop} (h : Det (fun sd => f sd ()) ⟨mirror ix.arr i j ((j - i) / 2), ix.pend, ix.mg⟩ P) :
    Det (fun sd => reverseSlice' i j >>= f sd) ix P := by
  refine det_modify (g := fun _ s => setArr s (mirror (arrOf s) i j ((j - i) / 2))) _ (fun sd => ?_) h
  show SortSt.mk' sd.κ (mirror (ix.arr.map sd.it) i j ((j - i) / 2)) ix.pend ix.mg none = SortSt.mk' sd.κ ((mirror ix.arr i j ((j - i) / 2)).map sd.it) ix.pend ix.mg none
  rw [show mirror (ix.arr.map sd.it) i j ((j - i) / 2) = (mirror ix.arr i j ((j - i) / 2)).map sd.it from kas_swaps_map sd.it (fun k => i + k) (fun k => j - 1 - k) _ ix.arr]
theorem det_move {k l : Nat} {f : Side less → Unit → StateT SortSt Sem β} {ix : Ix} {P : (Side less → β) → Ix → Prop} (h : Det (fun sd => f sd ()) ⟨bubble ix.arr k (k - l), ix.pend, ix.mg⟩ P) :
    Det (fun sd => moveDown' k l >>= f sd) ix P := by
  refine det_modify (g := fun _ s => setArr s (bubble (arrOf s) k (k - l))) _ (fun sd => ?_) h
  show SortSt.mk' sd.κ (bubble (ix.arr.map sd.it) k (k - l)) ix.pend ix.mg none = SortSt.mk' sd.κ ((bubble ix.arr k (k - l)).map sd.it) ix.pend ix.mg none
  rw [show bubble (ix.arr.map sd.it) k (k - l) = (bubble ix.arr k (k - l)).map sd.it from kas_swaps_map sd.it (fun i => k - i) (fun i => k - i - 1) _ ix.arr]
noncomputable def Keep (n : Nat) (ix ix' : Ix) : Prop := ix'.arr.size = n ∧ ix'.pend = ix.pend ∧ ix'.mg = ix.mg
theorem mir_size (xs : Array Nat) (i j d : Nat) : (mirror xs i j d).size = xs.size := mirror_size _ _ _ _
theorem det_asc {lo a nrem : Nat} {ix ix₀ : Ix} {z : Nat} {k : Side less → Option (Option Nat) × Nat → StateT SortSt Sem (Option Nat)} {P : (Side less → Option Nat) → Ix → Prop} (hK : Keep z ix₀ ix) (h1 : 1 ≤ a) (ha : a ≤ nrem) (hz : lo + nrem ≤ z)
    (h : ∀ n, a ≤ n → n ≤ nrem → Det (fun sd => k sd (none, n)) ix P) :
    Det (fun sd : Side less => forIn [a:nrem] ((none, a) : Option (Option Nat) × Nat) (fun _ __s => do
      let __x ← ltAt' (lo + __s.snd) (lo + __s.snd - 1)
      match __x with
      | some smaller => if smaller = true then pure (ForInStep.done (none, __s.snd)) else pure (ForInStep.yield (none, __s.snd + 1))
      | _ => pure (ForInStep.done (some none, __s.snd))) >>= k sd) ix P := by
  refine det_for (x := fun _ => (none, a)) (fun i x ix' => ix' = ix ∧ x = (fun _ => (none, i)) ∧ a ≤ i ∧ i ≤ nrem) (fun x ix' => ix' = ix ∧ ∃ n, x = (fun _ => (none, n)) ∧ a ≤ n ∧ n ≤ nrem) ⟨rfl, rfl, Nat.le_refl _, ha⟩ ?_ ?_ ?_
  · rintro i x ix' hi ⟨rfl, rfl, h2, h3⟩
    have hs := hK.1
    refine det_ltAt (by dsimp only; omega) (by dsimp only; omega) fun c => ?_
    refine det_ite (fun _ => ?_) fun _ => ?_
    · exact det_pure (DetStep.done ⟨rfl, i, rfl, h2, h3⟩)
    · exact det_pure (DetStep.yield ⟨rfl, rfl, by omega, by omega⟩)
  · rintro i x ix' hi ⟨rfl, rfl, h2, h3⟩
    exact ⟨rfl, i, rfl, h2, h3⟩
  · rintro x ix' ⟨rfl, n, rfl, h2, h3⟩
    exact h n h2 h3
noncomputable def CountPost (less : Nat → Nat → Bool) (ix : Ix) (nrem : Nat) (x : Side less → Option Nat) (ix' : Ix) : Prop := ∃ m, x = (fun _ => some m) ∧ 1 ≤ m ∧ m ≤ nrem ∧ Keep ix.arr.size ix ix'
noncomputable def countEnd (lo n0 nrem : Nat) : StateT SortSt Sem (Option Nat) := do
  let mut n := n0
  rule "list.sort.descending-run"
  n := n + 1
  let mut neq := 0
  for _ in [n:nrem] do
    let some smaller ← ltAt' (lo + n) (lo + n - 1) | return none
    if smaller then
      if neq > 0 then reverseSlice' (lo + n - (neq + 1)) (lo + n)
      neq := 0
    else
      let some larger ← ltAt' (lo + n - 1) (lo + n) | return none
      if larger then break
      neq := neq + 1
    n := n + 1
  if neq > 0 then reverseSlice' (lo + n - (neq + 1)) (lo + n)
  reverseSlice' lo (lo + n)
  for _ in [n:nrem] do
    let some smaller ← ltAt' (lo + n) (lo + n - 1) | return none
    if smaller then break
    n := n + 1
  return some n
noncomputable def CountI (z nrem n : Nat) (ix : Ix) (i : Nat) (x : Side less → Option (Option Nat) × Nat × Nat) (ix' : Ix) : Prop := Keep z ix ix' ∧ n + 1 ≤ i ∧ i ≤ nrem ∧ ∃ q, x = (fun _ => (none, i, q))
noncomputable def CountD (z nrem n : Nat) (ix : Ix) (x : Side less → Option (Option Nat) × Nat × Nat) (ix' : Ix) : Prop := Keep z ix ix' ∧ ∃ i q, x = (fun _ => (none, i, q)) ∧ n + 1 ≤ i ∧ i ≤ nrem
theorem det_countEnd {lo n nrem : Nat} {ix ix' : Ix} (hz : lo + nrem ≤ ix.arr.size) (hK : Keep ix.arr.size ix ix') (hlt : n + 1 ≤ nrem) : Det (fun _ => countEnd lo n nrem) ix' (CountPost less ix nrem) := by
  dsimp only [countEnd]
  refine det_rule ?_
  refine det_for (x := fun _ => (none, n + 1, 0)) (CountI ix.arr.size nrem n ix) (CountD ix.arr.size nrem n ix) ⟨hK, Nat.le_refl _, hlt, 0, rfl⟩ ?_ ?_ ?_
  · rintro i x ix2 hi ⟨hK2, h2, h3, q, rfl⟩
    have hs := hK2.1
    dsimp only
    refine det_ltAt (by omega) (by omega) fun c => ?_
    refine det_ite (fun _ => ?_) fun _ => ?_
    · refine det_ite (fun _ => ?_) fun _ => ?_
      · refine det_rev (det_pure (DetStep.yield ⟨⟨(mirror_size _ _ _ _).trans hs, hK2.2⟩, by omega, by omega, _, rfl⟩))
      · exact det_pure (DetStep.yield ⟨hK2, by omega, by omega, _, rfl⟩)
    · refine det_ltAt (by omega) (by omega) fun c => ?_
      refine det_ite (fun _ => ?_) fun _ => ?_
      · exact det_pure (DetStep.done ⟨hK2, i, q, rfl, h2, h3⟩)
      · exact det_pure (DetStep.yield ⟨hK2, by omega, by omega, _, rfl⟩)
  · rintro i x ix2 hi ⟨hK2, h2, h3, q, rfl⟩
    exact ⟨hK2, i, q, rfl, h2, h3⟩
  · rintro x ix2 ⟨hK2, i, q, rfl, h2, h3⟩
    have hs := hK2.1
    dsimp only
    refine det_ite (fun _ => ?_) fun _ => ?_
    · exact det_rev (det_rev (det_asc (z := ix.arr.size) ⟨(mirror_size _ _ _ _).trans ((mirror_size _ _ _ _).trans hs), hK2.2⟩ (by omega) h3 hz fun m m1 m2 => det_pure ⟨m, rfl, by omega, m2, (mirror_size _ _ _ _).trans ((mirror_size _ _ _ _).trans hs), hK2.2⟩))
    · exact det_rev (det_asc (z := ix.arr.size) ⟨(mirror_size _ _ _ _).trans hs, hK2.2⟩ (by omega) h3 hz fun m m1 m2 => det_pure ⟨m, rfl, by omega, m2, (mirror_size _ _ _ _).trans hs, hK2.2⟩)
theorem det_count {lo nrem : Nat} {ix : Ix} (h1 : 1 ≤ nrem) (hz : lo + nrem ≤ ix.arr.size) : Det (fun _ => countRun' lo nrem) ix (CountPost less ix nrem) := by
  dsimp only [countRun'_eq]
  refine det_asc (z := ix.arr.size) ⟨rfl, rfl, rfl⟩ (Nat.le_refl 1) h1 hz fun n n1 n2 => ?_
  dsimp only
  refine det_ite (fun _ => det_pure ⟨n, rfl, n1, n2, rfl, rfl, rfl⟩) fun e1 => ?_
  have hlt : n + 1 ≤ nrem := Nat.lt_of_le_of_ne n2 fun q => e1 (by rw [q]; exact beq_self_eq_true _)
  refine det_ite (fun _ => ?_) fun _ => det_countEnd hz ⟨rfl, rfl, rfl⟩ hlt
  refine det_ltAt (by omega) (by omega) fun c => ?_
  refine det_ite (fun _ => ?_) fun _ => ?_
  · exact det_pure ⟨n, rfl, n1, n2, rfl, rfl, rfl⟩
  · exact det_rev (det_countEnd hz ⟨mirror_size _ _ _ _, rfl, rfl⟩ hlt)
theorem det_bin {lo n ok : Nat} {ix : Ix} (hz : lo + n ≤ ix.arr.size) : Det (fun _ : Side less => binarySort' lo n ok) ix (fun x ix' => x = (fun _ => true) ∧ Keep ix.arr.size ix ix') := by
  dsimp only [binarySort'_eq]
  refine det_for (x := fun _ => (none, ())) (fun i x ix' => Keep ix.arr.size ix ix' ∧ x = (fun _ => (none, ()))) (fun x ix' => Keep ix.arr.size ix ix' ∧ x = (fun _ => (none, ()))) ⟨⟨rfl, rfl, rfl⟩, rfl⟩ ?_ ?_ ?_
  · rintro k x ix2 hk ⟨hK, rfl⟩
    have hs := hK.1
    (try dsimp only)
    refine det_for (x := fun _ => (none, 0, k)) (fun i x ix' => ix' = ix2 ∧ ∃ l r, x = (fun _ => (none, l, r)) ∧ l ≤ k ∧ r ≤ k) (fun x ix' => ix' = ix2 ∧ ∃ l r, x = (fun _ => (none, l, r)) ∧ l ≤ k ∧ r ≤ k) ⟨rfl, 0, k, rfl, Nat.zero_le _, Nat.le_refl _⟩ ?_ ?_ ?_
    · rintro i x ix' hi ⟨rfl, l, r, rfl, hl, hr⟩
      dsimp only
      refine det_ite (fun _ => det_pure (DetStep.done ⟨rfl, l, r, rfl, hl, hr⟩)) fun h => ?_
      refine det_ltAt (by omega) (by omega) fun c => ?_
      refine det_ite (fun _ => ?_) fun _ => ?_
      · exact det_pure (DetStep.yield ⟨rfl, _, _, rfl, hl, by omega⟩)
      · exact det_pure (DetStep.yield ⟨rfl, _, _, rfl, by omega, hr⟩)
    · rintro i x ix' hi h
      exact h
    · rintro x ix' ⟨rfl, l, r, rfl, hl, hr⟩
      dsimp only
      refine det_move (det_pure (DetStep.yield ⟨⟨?_, hK.2⟩, rfl⟩))
      show (bubble _ _ _).size = _
      rw [bubble_size]; exact hs
  · rintro i x ix' _ h
    exact h
  · rintro x ix' ⟨hK, rfl⟩
    exact det_pure ⟨rfl, hK⟩
noncomputable def gallop' : Bool → Keyed → Array Keyed → Nat → Nat → Nat → StateT SortSt Sem (Option Nat) := sortPriv% PySem.Builtin.gallop
noncomputable def mergeLo' : Array Keyed → Array Keyed → StateT SortSt Sem (Array Keyed) := sortPriv% PySem.Builtin.mergeLo
noncomputable def mergeHi' : Array Keyed → Array Keyed → StateT SortSt Sem (Array Keyed) := sortPriv% PySem.Builtin.mergeHi
noncomputable def setMinGallop' : Nat → StateT SortSt Sem Unit := sortPriv% PySem.Builtin.setMinGallop
theorem gallop'_eq (left : Bool) (key : Keyed) (arr : Array Keyed) (base n hint : Nat) : gallop' left key arr base n hint = (do
  let beyond (i : Nat) : StateT SortSt Sem (Option Bool) := do
    let x ← elem' arr (base + i)
    if left then lt' x key else return (← lt' key x).map (!·)
  let mut lastofs := 0
  let mut ofs := 1
  let mut lo := 0
  let mut hi := 0
  let some right ← beyond hint | return none
  if right then
    let maxofs := n - hint
    for _ in [0:n] do
      if ofs ≥ maxofs then break
      let some more ← beyond (hint + ofs) | return none
      if !more then break
      lastofs := ofs
      ofs := 2 * ofs + 1
    lo := hint + lastofs + 1
    hi := hint + min ofs maxofs
  else
    let maxofs := hint + 1
    for _ in [0:n] do
      if ofs ≥ maxofs then break
      let some found ← beyond (hint - ofs) | return none
      if found then break
      lastofs := ofs
      ofs := 2 * ofs + 1
    lo := hint + 1 - min ofs maxofs
    hi := hint - lastofs
  for _ in [0:n] do
    if lo ≥ hi then break
    let m := lo + (hi - lo) / 2
    let some more ← beyond m | return none
    if more then lo := m + 1 else hi := m
  return some hi) := rfl
theorem det_beyond {left : Bool} {k : Nat} {arr : Array Nat} {i : Nat} {β : Type} {f : Side less → Option Bool → StateT SortSt Sem β} {ix : Ix} {P : (Side less → β) → Ix → Prop} (hi : i < arr.size) (h : ∀ b, Det (fun sd => f sd (some b)) ix P) :
    Det (fun sd => (elem' (arr.map sd.it) i >>= fun x => if left = true then lt' x (sd.it k) else (do let b ← lt' (sd.it k) x; pure (Option.map (fun x => !x) b))) >>= f sd) ix P :=
  det_bind (det_elem hi fun _ => det_ite (fun _ => det_lt1 h) fun _ => det_lt fun _ => det_pure (h _))
noncomputable def galEnd (left : Bool) (key : Keyed) (arr : Array Keyed) (base n lo hi : Nat) : StateT SortSt Sem (Option Nat) := do
  let mut lo := lo
  let mut hi := hi
  for _ in [0:n] do
    if lo ≥ hi then break
    let m := lo + (hi - lo) / 2
    let some more ← (do
      let x ← elem' arr (base + m)
      if left then lt' x key else return (← lt' key x).map (!·)) | return none
    if more then lo := m + 1 else hi := m
  return some hi
noncomputable def GalA (ix : Ix) (_ : Nat) (x : Side less → Option (Option Nat) × Nat × Nat) (ix' : Ix) : Prop := ix' = ix ∧ ∃ l o, x = (fun _ => (none, l, o)) ∧ l < o
noncomputable def GalB (n : Nat) (ix : Ix) (_ : Nat) (x : Side less → Option (Option Nat) × Nat × Nat) (ix' : Ix) : Prop := ix' = ix ∧ ∃ l o, x = (fun _ => (none, l, o)) ∧ o ≤ n
theorem det_gal2 {left : Bool} {k : Nat} {arr : Array Nat} {base n lo hi : Nat} {ix : Ix} (hh : hi ≤ n) (hb : base + n ≤ arr.size) :
    Det (fun sd : Side less => galEnd left (sd.it k) (arr.map sd.it) base n lo hi) ix (fun x ix' => ix' = ix ∧ ∃ r, x = (fun _ => some r) ∧ r ≤ n) := by
  dsimp only [galEnd]
  refine det_for (x := fun _ => (none, lo, hi)) (GalB n ix) (GalB n ix 0) ⟨rfl, _, _, rfl, hh⟩ ?_ (fun _ _ _ _ h => h) ?_
  · rintro i x ix'' hi ⟨rfl, l, o, rfl, h1⟩
    refine det_ite (fun _ => det_pure (DetStep.done ⟨rfl, l, o, rfl, h1⟩)) fun ho => ?_
    refine det_beyond (by omega) fun c => ?_
    refine det_ite (fun _ => ?_) fun _ => ?_
    · exact det_pure (DetStep.yield ⟨rfl, _, _, rfl, h1⟩)
    · exact det_pure (DetStep.yield ⟨rfl, _, _, rfl, by omega⟩)
  · rintro x ix'' ⟨rfl, l, o, rfl, h1⟩
    exact det_pure ⟨rfl, o, rfl, h1⟩
theorem det_gallop0 {left : Bool} {k : Nat} {arr : Array Nat} {base n hint : Nat} {ix : Ix} (hb : base + n ≤ arr.size) (hh : hint < n) :
    Det (fun sd : Side less => gallop' left (sd.it k) (arr.map sd.it) base n hint) ix (fun x ix' => ix' = ix ∧ ∃ r, x = (fun _ => some r) ∧ r ≤ n) := by
  dsimp only [gallop'_eq]
  refine det_beyond (by omega) fun right => ?_
  dsimp only
  have I0 : GalA (less := less) ix 0 (fun _ => (none, 0, 1)) ix := ⟨rfl, 0, 1, rfl, by omega⟩
  refine det_ite (fun _ => ?_) fun _ => ?_
  · refine det_for (x := fun _ => (none, 0, 1)) (GalA ix) (GalA ix 0) I0 ?_ (fun _ _ _ _ h => h) ?_
    · rintro i x ix' hi ⟨rfl, l, o, rfl, h1⟩
      dsimp only
      refine det_ite (fun _ => det_pure (DetStep.done ⟨rfl, l, o, rfl, h1⟩)) fun ho => ?_
      refine det_beyond (by omega) fun c => ?_
      refine det_ite (fun _ => ?_) fun _ => ?_
      · exact det_pure (DetStep.done ⟨rfl, l, o, rfl, h1⟩)
      · exact det_pure (DetStep.yield ⟨rfl, o, 2 * o + 1, rfl, by omega⟩)
    · rintro x ix' ⟨rfl, l, o, rfl, h1⟩
      exact det_gal2 (by omega) hb
  · refine det_for (x := fun _ => (none, 0, 1)) (GalA ix) (GalA ix 0) I0 ?_ (fun _ _ _ _ h => h) ?_
    · rintro i x ix' hi ⟨rfl, l, o, rfl, h1⟩
      dsimp only
      refine det_ite (fun _ => det_pure (DetStep.done ⟨rfl, l, o, rfl, h1⟩)) fun ho => ?_
      refine det_beyond (by omega) fun c => ?_
      refine det_ite (fun _ => ?_) fun _ => ?_
      · exact det_pure (DetStep.done ⟨rfl, l, o, rfl, h1⟩)
      · exact det_pure (DetStep.yield ⟨rfl, o, 2 * o + 1, rfl, by omega⟩)
    · rintro x ix' ⟨rfl, l, o, rfl, h1⟩
      exact det_gal2 (by omega) hb
theorem det_gallop {left : Bool} {k : Nat} {arr : Array Nat} {base n hint : Nat} {β : Type} {f : Side less → Option Nat → StateT SortSt Sem β} {ix : Ix} {P : (Side less → β) → Ix → Prop} (hb : base + n ≤ arr.size) (hh : hint < n) (h : ∀ r, r ≤ n → Det (fun sd => f sd (some r)) ix P) :
    Det (fun sd => gallop' left (sd.it k) (arr.map sd.it) base n hint >>= f sd) ix P := by
  refine det_bind (det_mono (det_gallop0 hb hh) ?_)
  rintro x ix' ⟨rfl, r, rfl, hr⟩
  exact h r hr
theorem det_setMin {g : Nat} {β : Type} {f : Side less → Unit → StateT SortSt Sem β} {ix : Ix} {P : (Side less → β) → Ix → Prop} (h : Det (fun sd => f sd ()) ⟨ix.arr, ix.pend, g⟩ P) :
    Det (fun sd => setMinGallop' g >>= f sd) ix P :=
  det_modify (g := fun _ s => SortSt.mk' (kindOf s) (arrOf s) (pendingOf s) g (failedOf s)) _ (fun _ => rfl) h
noncomputable def Mapped (x : Side less → Array Keyed) : Prop := ∃ o : Array Nat, x = fun sd => o.map sd.it
theorem Mapped.map (o : Array Nat) : Mapped (fun sd : Side less => o.map sd.it) := ⟨o, rfl⟩
theorem Mapped.one (k : Nat) : Mapped (fun sd : Side less => #[sd.it k]) := ⟨#[k], by funext sd; simp⟩
theorem Mapped.push {x : Side less → Array Keyed} (h : Mapped x) (k : Nat) : Mapped (fun sd => (x sd).push (sd.it k)) := by
  obtain ⟨o, rfl⟩ := h
  exact ⟨o.push k, by funext sd; simp⟩
theorem Mapped.app {x y : Side less → Array Keyed} (h : Mapped x) (h' : Mapped y) : Mapped (fun sd => x sd ++ y sd) := by
  obtain ⟨o, rfl⟩ := h
  obtain ⟨o', rfl⟩ := h'
  exact ⟨o ++ o', by funext sd; simp⟩
theorem Mapped.ext {x : Side less → Array Keyed} (h : Mapped x) (i j : Nat) : Mapped (fun sd => (x sd).extract i j) := by
  obtain ⟨o, rfl⟩ := h
  exact ⟨o.extract i j, by funext sd; simp⟩
theorem Mapped.rev {x : Side less → Array Keyed} (h : Mapped x) : Mapped (fun sd => (x sd).reverse) := by
  obtain ⟨o, rfl⟩ := h
  exact ⟨o.reverse, by funext sd; simp⟩
abbrev KA := Array Keyed
abbrev SM := StateT SortSt Sem
noncomputable def loDone (a b : KA) (n m : Nat) (out : KA) (ia ib : Nat) : KA := out ++ a.extract ia n ++ b.extract ib m
noncomputable def loLast (a b : KA) (n m : Nat) (out : KA) (ia ib : Nat) : KA := out ++ b.extract ib m ++ a.extract ia n
abbrev LoT := Option KA × KA × Nat × Nat × Nat × Nat
abbrev LoS := Option KA × KA × Nat × Nat × Nat × Nat × Nat
abbrev LoU := Option KA × KA × Nat × Nat × Nat
noncomputable def loOneB (a b : KA) (n m mg : Nat) (out : KA) (ia ib ac bc : Nat) : SM (ForInStep LoT) :=
  if (ib == m) = true then pure (.done (some (loDone a b n m out ia ib), out, ia, ib, ac, bc))
  else if bc ≥ mg then pure (.done (none, out, ia, ib, ac, bc)) else pure (.yield (none, out, ia, ib, ac, bc))
noncomputable def loOneA (a b : KA) (n m mg : Nat) (out : KA) (ia ib ac bc : Nat) : SM (ForInStep LoT) :=
  if (ia + 1 == n) = true then pure (.done (some (loLast a b n m out ia ib), out, ia, ib, ac, bc))
  else if ac ≥ mg then pure (.done (none, out, ia, ib, ac, bc)) else pure (.yield (none, out, ia, ib, ac, bc))
noncomputable def loOne (a b : KA) (n m mg : Nat) (out : KA) (ia ib ac bc : Nat) : SM (ForInStep LoT) := do
  let x ← elem' b ib
  let y ← elem' a ia
  let c ← lt' x y
  match c with
  | some w =>
    if w = true then do
      let z ← elem' b ib
      loOneB a b n m mg (out.push z) ia (ib + 1) 0 (bc + 1)
    else do
      let z ← elem' a ia
      loOneA a b n m mg (out.push z) (ia + 1) ib (ac + 1) 0
  | _ => pure (.done (some (loDone a b n m out ia ib), out, ia, ib, ac, bc))
noncomputable def loC1 (a b : KA) (n m ac bc mg : Nat) (out : KA) (ia ib : Nat) : SM (ForInStep LoS) :=
  if (ia + 1 == n) = true then pure (.done (some (loLast a b n m out ia ib), out, ia, ib, mg, ac, bc))
  else if (decide (ac < 7) && decide (bc < 7)) = true then pure (.done (none, out, ia, ib, mg, ac, bc)) else pure (.yield (none, out, ia, ib, mg, ac, bc))
noncomputable def loC (a b : KA) (n m ac bc mg : Nat) (out : KA) (ia ib : Nat) : SM (ForInStep LoS) := do
  let x ← elem' a ia
  loC1 a b n m ac bc mg (out.push x) (ia + 1) ib
noncomputable def loB2 (a b : KA) (n m ac k mg : Nat) (out : KA) (ia ib : Nat) : SM (ForInStep LoS) :=
  if (ib == m) = true then pure (.done (some (loDone a b n m out ia ib), out, ia, ib, mg, ac, k)) else loC a b n m ac k mg out ia ib
noncomputable def loB1 (a b : KA) (n m ac bc mg : Nat) (out : KA) (ia ib : Nat) : SM (ForInStep LoS) :=
  if (ib == m) = true then pure (.done (some (loDone a b n m out ia ib), out, ia, ib, mg, ac, bc)) else do
    let x ← elem' a ia
    let c ← gallop' true x b ib (m - ib) 0
    match c with
    | some k => if k > 0 then loB2 a b n m ac k mg (out ++ b.extract ib (ib + k)) ia (ib + k) else loC a b n m ac k mg out ia ib
    | _ => pure (.done (some (loDone a b n m out ia ib), out, ia, ib, mg, ac, bc))
noncomputable def loB (a b : KA) (n m ac bc mg : Nat) (out : KA) (ia ib : Nat) : SM (ForInStep LoS) := do
  let x ← elem' b ib
  loB1 a b n m ac bc mg (out.push x) ia (ib + 1)
noncomputable def loA1 (a b : KA) (n m k bc mg : Nat) (out : KA) (ia ib : Nat) : SM (ForInStep LoS) :=
  if (ia + 1 == n) = true then pure (.done (some (loLast a b n m out ia ib), out, ia, ib, mg, k, bc))
  else if (ia == n) = true then pure (.done (some (loDone a b n m out ia ib), out, ia, ib, mg, k, bc)) else loB a b n m k bc mg out ia ib
noncomputable def loA (a b : KA) (n m ac bc : Nat) (out : KA) (ia ib mg : Nat) : SM (ForInStep LoS) := do
  setMinGallop' mg
  let x ← elem' b ib
  let c ← gallop' false x a ia (n - ia) 0
  match c with
  | some k => if k > 0 then loA1 a b n m k bc mg (out ++ a.extract ia (ia + k)) (ia + k) ib else loB a b n m k bc mg out ia ib
  | _ => pure (.done (some (loDone a b n m out ia ib), out, ia, ib, mg, ac, bc))
noncomputable def loTurn (a b : KA) (n m : Nat) (out : KA) (ia ib mg ac bc : Nat) : SM (ForInStep LoS) :=
  if mg > 1 then loA a b n m ac bc out ia ib (mg - 1) else loA a b n m ac bc out ia ib mg
noncomputable def loEnd (s : LoS) : SM (ForInStep LoU) :=
  Break.runK.match_1 (motive := fun _ => SM (ForInStep LoU)) s.1 (fun r => pure (.done (some r, s.2.1, s.2.2.1, s.2.2.2.1, s.2.2.2.2.1))) fun _ => do
    setMinGallop' (s.2.2.2.2.1 + 1)
    pure (.yield (none, s.2.1, s.2.2.1, s.2.2.2.1, s.2.2.2.2.1 + 1))
noncomputable def loMid (a b : KA) (n m mg : Nat) (s : LoT) : SM (ForInStep LoU) :=
  Break.runK.match_1 (motive := fun _ => SM (ForInStep LoU)) s.1 (fun r => pure (.done (some r, s.2.1, s.2.2.1, s.2.2.2.1, mg))) fun _ => do
    rule "list.sort.gallop"
    let s ← forIn [0:n + m] ((none, s.2.1, s.2.2.1, s.2.2.2.1, mg + 1, s.2.2.2.2.1, s.2.2.2.2.2) : LoS) (fun _ s => loTurn a b n m s.2.1 s.2.2.1 s.2.2.2.1 s.2.2.2.2.1 s.2.2.2.2.2.1 s.2.2.2.2.2.2)
    loEnd s
noncomputable def loBody (a b : KA) (n m : Nat) (out : KA) (ia ib mg : Nat) : SM (ForInStep LoU) := do
  let s ← forIn [0:n + m] ((none, out, ia, ib, 0, 0) : LoT) (fun _ s => loOne a b n m mg s.2.1 s.2.2.1 s.2.2.2.1 s.2.2.2.2.1 s.2.2.2.2.2)
  loMid a b n m mg s
noncomputable def mEnd {γ : Type} (s : Option KA × γ) : SM KA :=
  Break.runK.match_1 (motive := fun _ => SM KA) s.1 (fun r => pure r) fun _ => unsupported "internal:list.sort.merge-bound"
noncomputable def loStart (a b : KA) (n m : Nat) (out : KA) (ia ib : Nat) : SM KA :=
  if (ib == m) = true then pure (loDone a b n m out ia ib) else if (ia + 1 == n) = true then pure (loLast a b n m out ia ib) else do
    let t ← get
    let s ← forIn [0:n + m] ((none, out, ia, ib, gallopOf t) : LoU) (fun _ s => loBody a b n m s.2.1 s.2.2.1 s.2.2.2.1 s.2.2.2.2)
    mEnd s
theorem mergeLo'_eq (a b : KA) : mergeLo' a b = (do
  rule "list.sort.merge-lo"
  let x ← elem' b 0
  loStart a b a.size b.size #[x] 0 1) := rfl
noncomputable def hiDone (a b out : KA) (na nb : Nat) : KA := a.extract 0 na ++ b.extract 0 nb ++ out.reverse
noncomputable def hiFirst (a b out : KA) (na nb : Nat) : KA := b.extract 0 nb ++ a.extract 0 na ++ out.reverse
abbrev HiT := Option KA × Nat × Nat × KA × Nat × Nat
abbrev HiS := Option KA × Nat × Nat × KA × Nat × Nat × Nat
abbrev HiU := Option KA × Nat × Nat × KA × Nat
noncomputable def hiOneA (a b : KA) (mg na nb : Nat) (out : KA) (ac bc : Nat) : SM (ForInStep HiT) :=
  if (na == 0) = true then pure (.done (some (hiDone a b out na nb), na, nb, out, ac, bc))
  else if ac ≥ mg then pure (.done (none, na, nb, out, ac, bc)) else pure (.yield (none, na, nb, out, ac, bc))
noncomputable def hiOneB (a b : KA) (mg na nb : Nat) (out : KA) (ac bc : Nat) : SM (ForInStep HiT) :=
  if (nb == 1) = true then pure (.done (some (hiFirst a b out na nb), na, nb, out, ac, bc))
  else if bc ≥ mg then pure (.done (none, na, nb, out, ac, bc)) else pure (.yield (none, na, nb, out, ac, bc))
noncomputable def hiOne (a b : KA) (mg na nb : Nat) (out : KA) (ac bc : Nat) : SM (ForInStep HiT) := do
  let x ← elem' b (nb - 1)
  let y ← elem' a (na - 1)
  let c ← lt' x y
  match c with
  | some w =>
    if w = true then do
      let z ← elem' a (na - 1)
      hiOneA a b mg (na - 1) nb (out.push z) (ac + 1) 0
    else do
      let z ← elem' b (nb - 1)
      hiOneB a b mg na (nb - 1) (out.push z) 0 (bc + 1)
  | _ => pure (.done (some (hiDone a b out na nb), na, nb, out, ac, bc))
noncomputable def hiC1 (a b : KA) (ac bc mg na nb : Nat) (out : KA) : SM (ForInStep HiS) :=
  if (na == 0) = true then pure (.done (some (hiDone a b out na nb), na, nb, out, mg, ac, bc))
  else if (decide (ac < 7) && decide (bc < 7)) = true then pure (.done (none, na, nb, out, mg, ac, bc)) else pure (.yield (none, na, nb, out, mg, ac, bc))
noncomputable def hiC (a b : KA) (ac bc mg na nb : Nat) (out : KA) : SM (ForInStep HiS) := do
  let x ← elem' a (na - 1)
  hiC1 a b ac bc mg (na - 1) nb (out.push x)
noncomputable def hiB2 (a b : KA) (ac k mg na nb : Nat) (out : KA) : SM (ForInStep HiS) :=
  if (nb == 1) = true then pure (.done (some (hiFirst a b out na nb), na, nb, out, mg, ac, k))
  else if (nb == 0) = true then pure (.done (some (hiDone a b out na nb), na, nb, out, mg, ac, k)) else hiC a b ac k mg na nb out
noncomputable def hiB1 (a b : KA) (ac bc mg na nb : Nat) (out : KA) : SM (ForInStep HiS) :=
  if (nb == 1) = true then pure (.done (some (hiFirst a b out na nb), na, nb, out, mg, ac, bc)) else do
    let x ← elem' a (na - 1)
    let c ← gallop' true x b 0 nb (nb - 1)
    match c with
    | some t => if nb - t > 0 then hiB2 a b ac (nb - t) mg na t (out ++ (b.extract t nb).reverse) else hiC a b ac (nb - t) mg na nb out
    | _ => pure (.done (some (hiDone a b out na nb), na, nb, out, mg, ac, bc))
noncomputable def hiB (a b : KA) (ac bc mg na nb : Nat) (out : KA) : SM (ForInStep HiS) := do
  let x ← elem' b (nb - 1)
  hiB1 a b ac bc mg na (nb - 1) (out.push x)
noncomputable def hiA1 (a b : KA) (k bc mg na nb : Nat) (out : KA) : SM (ForInStep HiS) :=
  if (na == 0) = true then pure (.done (some (hiDone a b out na nb), na, nb, out, mg, k, bc)) else hiB a b k bc mg na nb out
noncomputable def hiA (a b : KA) (ac bc na nb : Nat) (out : KA) (mg : Nat) : SM (ForInStep HiS) := do
  setMinGallop' mg
  let x ← elem' b (nb - 1)
  let c ← gallop' false x a 0 na (na - 1)
  match c with
  | some t => if na - t > 0 then hiA1 a b (na - t) bc mg t nb (out ++ (a.extract t na).reverse) else hiB a b (na - t) bc mg na nb out
  | _ => pure (.done (some (hiDone a b out na nb), na, nb, out, mg, ac, bc))
noncomputable def hiTurn (a b : KA) (na nb : Nat) (out : KA) (mg ac bc : Nat) : SM (ForInStep HiS) :=
  if mg > 1 then hiA a b ac bc na nb out (mg - 1) else hiA a b ac bc na nb out mg
noncomputable def hiEnd (s : HiS) : SM (ForInStep HiU) :=
  Break.runK.match_1 (motive := fun _ => SM (ForInStep HiU)) s.1 (fun r => pure (.done (some r, s.2.1, s.2.2.1, s.2.2.2.1, s.2.2.2.2.1))) fun _ => do
    setMinGallop' (s.2.2.2.2.1 + 1)
    pure (.yield (none, s.2.1, s.2.2.1, s.2.2.2.1, s.2.2.2.2.1 + 1))
noncomputable def hiMid (a b : KA) (z mg : Nat) (s : HiT) : SM (ForInStep HiU) :=
  Break.runK.match_1 (motive := fun _ => SM (ForInStep HiU)) s.1 (fun r => pure (.done (some r, s.2.1, s.2.2.1, s.2.2.2.1, mg))) fun _ => do
    rule "list.sort.gallop"
    let s ← forIn [0:z] ((none, s.2.1, s.2.2.1, s.2.2.2.1, mg + 1, s.2.2.2.2.1, s.2.2.2.2.2) : HiS) (fun _ s => hiTurn a b s.2.1 s.2.2.1 s.2.2.2.1 s.2.2.2.2.1 s.2.2.2.2.2.1 s.2.2.2.2.2.2)
    hiEnd s
noncomputable def hiBody (a b : KA) (z na nb : Nat) (out : KA) (mg : Nat) : SM (ForInStep HiU) := do
  let s ← forIn [0:z] ((none, na, nb, out, 0, 0) : HiT) (fun _ s => hiOne a b mg s.2.1 s.2.2.1 s.2.2.2.1 s.2.2.2.2.1 s.2.2.2.2.2)
  hiMid a b z mg s
noncomputable def hiStart (a b : KA) (z na nb : Nat) (out : KA) : SM KA :=
  if (na == 0) = true then pure (hiDone a b out na nb) else if (nb == 1) = true then pure (hiFirst a b out na nb) else do
    let t ← get
    let s ← forIn [0:z] ((none, na, nb, out, gallopOf t) : HiU) (fun _ s => hiBody a b z s.2.1 s.2.2.1 s.2.2.2.1 s.2.2.2.2)
    mEnd s
theorem mergeHi'_eq (a b : KA) : mergeHi' a b = (do
  rule "list.sort.merge-hi"
  let x ← elem' a (a.size - 1)
  hiStart a b (a.size + b.size) (a.size - 1) b.size #[x]) := rfl
/-- what a merge loop hands on: its answer, or its letters -/
noncomputable def Ans {γ : Type} (x : Side less → Option (Array Keyed) × γ) : Prop := ∃ (r : Side less → Array Keyed) (t : Side less → γ), Mapped r ∧ x = fun sd => (some (r sd), t sd)
theorem Ans.intro {γ : Type} {r : Side less → Array Keyed} {t : Side less → γ} (h : Mapped r) : Ans (fun sd => (some (r sd), t sd)) := ⟨r, t, h, rfl⟩
noncomputable def Ms (ix ix' : Ix) : Prop := ix'.arr = ix.arr ∧ ix'.pend = ix.pend
theorem det_iteE {x y : Nat} {d : Side less → Decidable ((x == y) = true)} {t e : Side less → StateT SortSt Sem α} {ix : Ix} {P : (Side less → α) → Ix → Prop} (ht : x = y → Det t ix P) (he : x ≠ y → Det e ix P) : Det (fun sd => @ite _ ((x == y) = true) (d sd) (t sd) (e sd)) ix P :=
  det_ite (fun h => ht (beq_iff_eq.mp h)) fun h => he fun q => h (beq_iff_eq.mpr q)
section
variable {a b : Array Nat} {ix ix' : Ix} {o : Side less → KA} {n m p q mg ia ib ac bc : Nat}
theorem Mapped.loDone (ho : Mapped o) : Mapped (fun sd : Side less => loDone (a.map sd.it) (b.map sd.it) n m (o sd) ia ib) := (ho.app ((Mapped.map a).ext ia n)).app ((Mapped.map b).ext ib m)
theorem Mapped.loLast (ho : Mapped o) : Mapped (fun sd : Side less => loLast (a.map sd.it) (b.map sd.it) n m (o sd) ia ib) := (ho.app ((Mapped.map b).ext ib m)).app ((Mapped.map a).ext ia n)
noncomputable def LoG1 (ix : Ix) (n m p : Nat) (x : Side less → LoT) (ix' : Ix) : Prop := Ms ix ix' ∧ ∃ o ia ib ac bc, Mapped o ∧ x = (fun sd => (none, o sd, ia, ib, ac, bc)) ∧ ia + 1 < n ∧ ib < m ∧ p ≤ ia + ib
noncomputable def LoD1 (ix : Ix) (n m p : Nat) (x : Side less → LoT) (ix' : Ix) : Prop := (Ms ix ix' ∧ Ans x) ∨ LoG1 ix n m p x ix'
noncomputable def LoG2 (ix : Ix) (n m p : Nat) (x : Side less → LoS) (ix' : Ix) : Prop := Ms ix ix' ∧ ∃ o ia ib mg ac bc, Mapped o ∧ x = (fun sd => (none, o sd, ia, ib, mg, ac, bc)) ∧ ia + 1 < n ∧ ib < m ∧ p ≤ ia + ib
noncomputable def LoD2 (ix : Ix) (n m p : Nat) (x : Side less → LoS) (ix' : Ix) : Prop := (Ms ix ix' ∧ Ans x) ∨ LoG2 ix n m p x ix'
noncomputable def LoGU (ix : Ix) (n m p : Nat) (x : Side less → LoU) (ix' : Ix) : Prop := Ms ix ix' ∧ ∃ o ia ib mg, Mapped o ∧ x = (fun sd => (none, o sd, ia, ib, mg)) ∧ ia + 1 < n ∧ ib < m ∧ p ≤ ia + ib
noncomputable def MsAns {γ : Type} (ix : Ix) (x : Side less → Option (Array Keyed) × γ) (ix' : Ix) : Prop := Ms ix ix' ∧ Ans x
theorem det_loOneB (hM : Ms ix ix') (ho : Mapped o) (h1 : ia + 1 < n) (h2 : ib ≤ m) (hp : p ≤ ia + ib) : Det (fun sd => loOneB (a.map sd.it) (b.map sd.it) n m mg (o sd) ia ib ac bc) ix' (DetStep (LoD1 ix n m p) (LoG1 ix n m p)) :=
  det_iteE (fun _ => det_pure (.done (.inl ⟨hM, .intro ho.loDone⟩))) fun e =>
  have g : LoG1 ix n m p (fun sd : Side less => (none, o sd, ia, ib, ac, bc)) ix' := ⟨hM, o, ia, ib, ac, bc, ho, rfl, h1, Nat.lt_of_le_of_ne h2 e, hp⟩
  det_ite (fun _ => det_pure (.done (.inr g))) fun _ => det_pure (.yield g)
theorem det_loOneA (hM : Ms ix ix') (ho : Mapped o) (h1 : ia + 1 ≤ n) (h2 : ib < m) (hp : p ≤ ia + ib) : Det (fun sd => loOneA (a.map sd.it) (b.map sd.it) n m mg (o sd) ia ib ac bc) ix' (DetStep (LoD1 ix n m p) (LoG1 ix n m p)) :=
  det_iteE (fun _ => det_pure (.done (.inl ⟨hM, .intro ho.loLast⟩))) fun e =>
  have g : LoG1 ix n m p (fun sd : Side less => (none, o sd, ia, ib, ac, bc)) ix' := ⟨hM, o, ia, ib, ac, bc, ho, rfl, Nat.lt_of_le_of_ne h1 e, h2, hp⟩
  det_ite (fun _ => det_pure (.done (.inr g))) fun _ => det_pure (.yield g)
theorem det_loOne (hM : Ms ix ix') (ho : Mapped o) (h1 : ia + 1 < a.size) (h2 : ib < b.size) (hp : p ≤ ia + ib) : Det (fun sd => loOne (a.map sd.it) (b.map sd.it) a.size b.size mg (o sd) ia ib ac bc) ix' (DetStep (LoD1 ix a.size b.size p) (LoG1 ix a.size b.size p)) :=
  det_elem h2 fun _ => det_elem (Nat.lt_of_succ_lt h1) fun _ => det_lt fun _ =>
  det_ite (fun _ => det_elem h2 fun v => det_loOneB hM (ho.push v) h1 h2 (Nat.le_succ_of_le hp)) fun _ =>
  det_elem (Nat.lt_of_succ_lt h1) fun v => det_loOneA hM (ho.push v) h1 h2 (by omega)
theorem det_loC1 (hM : Ms ix ix') (ho : Mapped o) (h1 : ia + 1 ≤ n) (h2 : ib < m) (hp : p ≤ ia + ib) (hq : q ≤ p) : Det (fun sd => loC1 (a.map sd.it) (b.map sd.it) n m ac bc mg (o sd) ia ib) ix' (DetStep (LoD2 ix n m q) (LoG2 ix n m p)) :=
  det_iteE (fun _ => det_pure (.done (.inl ⟨hM, .intro ho.loLast⟩))) fun e =>
  have e := Nat.lt_of_le_of_ne h1 e
  det_ite (fun _ => det_pure (.done (.inr ⟨hM, o, ia, ib, mg, ac, bc, ho, rfl, e, h2, Nat.le_trans hq hp⟩))) fun _ => det_pure (.yield ⟨hM, o, ia, ib, mg, ac, bc, ho, rfl, e, h2, hp⟩)
theorem det_loC (hM : Ms ix ix') (ho : Mapped o) (h1 : ia + 1 < a.size) (h2 : ib < m) (hp : p ≤ ia + ib) (hq : q ≤ p) : Det (fun sd => loC (a.map sd.it) (b.map sd.it) a.size m ac bc mg (o sd) ia ib) ix' (DetStep (LoD2 ix a.size m q) (LoG2 ix a.size m p)) :=
  det_elem (Nat.lt_of_succ_lt h1) fun v => det_loC1 hM (ho.push v) h1 h2 (by omega) hq
theorem det_loB2 (hM : Ms ix ix') (ho : Mapped o) (h1 : ia + 1 < a.size) (h2 : ib ≤ m) (hp : p ≤ ia + ib) (hq : q ≤ p) : Det (fun sd => loB2 (a.map sd.it) (b.map sd.it) a.size m ac bc mg (o sd) ia ib) ix' (DetStep (LoD2 ix a.size m q) (LoG2 ix a.size m p)) :=
  det_iteE (fun _ => det_pure (.done (.inl ⟨hM, .intro ho.loDone⟩))) fun e => det_loC hM ho h1 (Nat.lt_of_le_of_ne h2 e) hp hq
theorem det_loB1 (hM : Ms ix ix') (ho : Mapped o) (h1 : ia + 1 < a.size) (h2 : ib ≤ b.size) (hp : p ≤ ia + ib) (hq : q ≤ p) : Det (fun sd => loB1 (a.map sd.it) (b.map sd.it) a.size b.size ac bc mg (o sd) ia ib) ix' (DetStep (LoD2 ix a.size b.size q) (LoG2 ix a.size b.size p)) :=
  det_iteE (fun _ => det_pure (.done (.inl ⟨hM, .intro ho.loDone⟩))) fun e =>
  have e := Nat.lt_of_le_of_ne h2 e
  det_elem (Nat.lt_of_succ_lt h1) fun _ => det_gallop (by omega) (by omega) fun k hk =>
  det_ite (fun _ => det_loB2 hM (ho.app ((Mapped.map b).ext ib (ib + k))) h1 (by omega) (by omega) hq) fun _ => det_loC hM ho h1 e hp hq
theorem det_loB (hM : Ms ix ix') (ho : Mapped o) (h1 : ia + 1 < a.size) (h2 : ib < b.size) (hp : p ≤ ia + (ib + 1)) (hq : q ≤ p) : Det (fun sd => loB (a.map sd.it) (b.map sd.it) a.size b.size ac bc mg (o sd) ia ib) ix' (DetStep (LoD2 ix a.size b.size q) (LoG2 ix a.size b.size p)) :=
  det_elem h2 fun v => det_loB1 hM (ho.push v) h1 h2 hp hq
theorem det_loA1 (hM : Ms ix ix') (ho : Mapped o) (h1 : ia ≤ a.size) (h2 : ib < b.size) (hp : p ≤ ia + (ib + 1)) (hq : q ≤ p) : Det (fun sd => loA1 (a.map sd.it) (b.map sd.it) a.size b.size ac bc mg (o sd) ia ib) ix' (DetStep (LoD2 ix a.size b.size q) (LoG2 ix a.size b.size p)) :=
  det_iteE (fun _ => det_pure (.done (.inl ⟨hM, .intro ho.loLast⟩))) fun e =>
  det_iteE (fun _ => det_pure (.done (.inl ⟨hM, .intro ho.loDone⟩))) fun e2 => det_loB hM ho (by omega) h2 hp hq
theorem det_loA (hM : Ms ix ix') (ho : Mapped o) (h1 : ia + 1 < a.size) (h2 : ib < b.size) (hp : p ≤ ia + (ib + 1)) (hq : q ≤ p) (mg : Nat) : Det (fun sd => loA (a.map sd.it) (b.map sd.it) a.size b.size ac bc (o sd) ia ib mg) ix' (DetStep (LoD2 ix a.size b.size q) (LoG2 ix a.size b.size p)) :=
  det_setMin (det_elem h2 fun _ => det_gallop (by omega) (by omega) fun k hk =>
  det_ite (fun _ => det_loA1 hM (ho.app ((Mapped.map a).ext ia (ia + k))) (by omega) h2 (by omega) hq) fun _ => det_loB hM ho h1 h2 hp hq)
theorem det_loTurn (hM : Ms ix ix') (ho : Mapped o) (h1 : ia + 1 < a.size) (h2 : ib < b.size) (hp : p ≤ ia + (ib + 1)) (hq : q ≤ p) : Det (fun sd => loTurn (a.map sd.it) (b.map sd.it) a.size b.size (o sd) ia ib mg ac bc) ix' (DetStep (LoD2 ix a.size b.size q) (LoG2 ix a.size b.size p)) :=
  det_ite (fun _ => det_loA hM ho h1 h2 hp hq _) fun _ => det_loA hM ho h1 h2 hp hq _
theorem det_loEnd {x : Side less → LoS} (h : LoD2 ix n m q x ix') : Det (fun sd => loEnd (x sd)) ix' (DetStep (MsAns ix) (LoGU ix n m q)) := by
  rcases h with ⟨hM, r, t, hr, rfl⟩ | ⟨hM, o, ia, ib, mg, ac, bc, ho, rfl, h1, h2, hp⟩
  · exact det_pure (DetStep.done ⟨hM, .intro hr⟩)
  · show Det (fun sd => setMinGallop' (mg + 1) >>= fun _ => (pure (.yield (none, o sd, ia, ib, mg + 1)) : SM (ForInStep LoU))) _ _
    exact det_setMin (det_pure (DetStep.yield ⟨hM, o, ia, ib, mg + 1, ho, rfl, h1, h2, hp⟩))
theorem det_loMid {x : Side less → LoT} (h : LoD1 ix a.size b.size p x ix') : Det (fun sd => loMid (a.map sd.it) (b.map sd.it) a.size b.size mg (x sd)) ix' (DetStep (MsAns ix) (LoGU ix a.size b.size (p + 1))) := by
  rcases h with ⟨hM, r, t, hr, rfl⟩ | ⟨hM, o, ia, ib, ac, bc, ho, rfl, h1, h2, hp⟩
  · exact det_pure (DetStep.done ⟨hM, .intro hr⟩)
  refine det_rule (det_for (x := fun sd => (none, o sd, ia, ib, mg + 1, ac, bc)) (fun j => LoG2 ix a.size b.size (p + j)) (LoD2 ix a.size b.size (p + 1)) ⟨hM, o, ia, ib, mg + 1, ac, bc, ho, rfl, h1, h2, hp⟩ ?_ ?_ fun _ _ h => det_loEnd h)
  · rintro j x ix3 hj ⟨hM, o, ia, ib, mg, ac, bc, ho, rfl, h1, h2, hp⟩
    exact det_loTurn (o := o) hM ho h1 h2 (Nat.succ_le_succ hp) (by omega)
  · rintro j x ix3 hj ⟨hM, o, ia, ib, mg, ac, bc, ho, rfl, h1, h2, hp⟩
    exact .inr ⟨hM, o, ia, ib, mg, ac, bc, ho, rfl, h1, h2, by omega⟩
theorem det_loBody (hM : Ms ix ix') (ho : Mapped o) (h1 : ia + 1 < a.size) (h2 : ib < b.size) (hp : p ≤ ia + ib) : Det (fun sd => loBody (a.map sd.it) (b.map sd.it) a.size b.size (o sd) ia ib mg) ix' (DetStep (MsAns ix) (LoGU ix a.size b.size (p + 1))) := by
  refine det_for (x := fun sd => (none, o sd, ia, ib, 0, 0)) (fun _ => LoG1 ix a.size b.size p) (LoD1 ix a.size b.size p) ⟨hM, o, ia, ib, 0, 0, ho, rfl, h1, h2, hp⟩ ?_ (fun _ _ _ _ h => .inr h) fun _ _ h => det_loMid h
  rintro j x ix3 hj ⟨hM, o, ia, ib, ac, bc, ho, rfl, h1, h2, hp⟩
  exact det_loOne (o := o) hM ho h1 h2 hp
theorem det_mEnd {γ : Type} {x : Side less → Option KA × γ} (h : MsAns ix x ix') : Det (fun sd => mEnd (x sd)) ix' (fun x ix' => Mapped x ∧ Ms ix ix') := by
  obtain ⟨hM, r, t, hr, rfl⟩ := h
  exact det_pure (v := r) (P := fun x ix' => Mapped x ∧ Ms ix ix') ⟨hr, hM⟩
theorem det_loStart (ho : Mapped o) (h1 : 0 < a.size) (h2 : 1 ≤ b.size) : Det (fun sd => loStart (a.map sd.it) (b.map sd.it) a.size b.size (o sd) 0 1) ix (fun x ix' => Mapped x ∧ Ms ix ix') := by
  refine det_iteE (fun _ => det_pure ⟨ho.loDone, rfl, rfl⟩) fun e1 => det_iteE (fun _ => det_pure ⟨ho.loLast, rfl, rfl⟩) fun e2 => det_get ?_
  refine det_for (x := fun sd => (none, o sd, 0, 1, ix.mg)) (LoGU ix a.size b.size) (MsAns ix) ⟨⟨rfl, rfl⟩, o, 0, 1, ix.mg, ho, rfl, by omega, by omega, Nat.zero_le _⟩ ?_ ?_ fun _ _ h => det_mEnd h
  · rintro i x ix1 hi ⟨hM, o, ia, ib, mg, ho, rfl, h1, h2, hp⟩
    exact det_loBody (o := o) hM ho h1 h2 hp
  · rintro i x ix1 hi ⟨hM, o, ia, ib, mg, ho, rfl, h1, h2, hp⟩
    exfalso; omega
theorem det_mergeLo (ha : 0 < a.size) (hb : 0 < b.size) : Det (fun sd : Side less => mergeLo' (a.map sd.it) (b.map sd.it)) ix (fun x ix' => Mapped x ∧ Ms ix ix') := by
  simp only [mergeLo'_eq, Array.size_map]
  exact det_rule (det_elem hb fun _ => det_loStart (.one _) ha hb)
end
section
variable {a b : Array Nat} {ix ix' : Ix} {o : Side less → KA} {n m p q mg na nb ac bc : Nat}
theorem Mapped.hiDone (ho : Mapped o) : Mapped (fun sd : Side less => hiDone (a.map sd.it) (b.map sd.it) (o sd) na nb) := (((Mapped.map a).ext 0 na).app ((Mapped.map b).ext 0 nb)).app ho.rev
theorem Mapped.hiFirst (ho : Mapped o) : Mapped (fun sd : Side less => hiFirst (a.map sd.it) (b.map sd.it) (o sd) na nb) := (((Mapped.map b).ext 0 nb).app ((Mapped.map a).ext 0 na)).app ho.rev
/-- where the two counts stand: inside, and at most `z` in all -/
structure HiR (a b : Array Nat) (z na nb : Nat) : Prop where
  a1 : 1 ≤ na
  a2 : na < a.size
  b1 : 2 ≤ nb
  b2 : nb ≤ b.size
  all : na + nb + z < a.size + b.size
theorem HiR.mono (h : HiR a b p na nb) (hq : q ≤ p) : HiR a b q na nb := ⟨h.a1, h.a2, h.b1, h.b2, Nat.lt_of_le_of_lt (Nat.add_le_add_left hq _) h.all⟩
noncomputable def HiG1 (ix : Ix) (a b : Array Nat) (p : Nat) (x : Side less → HiT) (ix' : Ix) : Prop := Ms ix ix' ∧ ∃ na nb o ac bc, Mapped o ∧ x = (fun sd => (none, na, nb, o sd, ac, bc)) ∧ HiR a b p na nb
noncomputable def HiD1 (ix : Ix) (a b : Array Nat) (p : Nat) (x : Side less → HiT) (ix' : Ix) : Prop := (Ms ix ix' ∧ Ans x) ∨ HiG1 ix a b p x ix'
noncomputable def HiG2 (ix : Ix) (a b : Array Nat) (p : Nat) (x : Side less → HiS) (ix' : Ix) : Prop := Ms ix ix' ∧ ∃ na nb o mg ac bc, Mapped o ∧ x = (fun sd => (none, na, nb, o sd, mg, ac, bc)) ∧ HiR a b p na nb
noncomputable def HiD2 (ix : Ix) (a b : Array Nat) (p : Nat) (x : Side less → HiS) (ix' : Ix) : Prop := (Ms ix ix' ∧ Ans x) ∨ HiG2 ix a b p x ix'
noncomputable def HiGU (ix : Ix) (a b : Array Nat) (p : Nat) (x : Side less → HiU) (ix' : Ix) : Prop := Ms ix ix' ∧ ∃ na nb o mg, Mapped o ∧ x = (fun sd => (none, na, nb, o sd, mg)) ∧ HiR a b p na nb
theorem det_hiOneA (hM : Ms ix ix') (ho : Mapped o) (h : na ≠ 0 → HiR a b p na nb) : Det (fun sd => hiOneA (a.map sd.it) (b.map sd.it) mg na nb (o sd) ac bc) ix' (DetStep (HiD1 ix a b p) (HiG1 ix a b p)) :=
  det_iteE (fun _ => det_pure (.done (.inl ⟨hM, .intro ho.hiDone⟩))) fun e =>
  have g : HiG1 ix a b p (fun sd : Side less => (none, na, nb, o sd, ac, bc)) ix' := ⟨hM, na, nb, o, ac, bc, ho, rfl, h e⟩
  det_ite (fun _ => det_pure (.done (.inr g))) fun _ => det_pure (.yield g)
theorem det_hiOneB (hM : Ms ix ix') (ho : Mapped o) (h : nb ≠ 1 → HiR a b p na nb) : Det (fun sd => hiOneB (a.map sd.it) (b.map sd.it) mg na nb (o sd) ac bc) ix' (DetStep (HiD1 ix a b p) (HiG1 ix a b p)) :=
  det_iteE (fun _ => det_pure (.done (.inl ⟨hM, .intro ho.hiFirst⟩))) fun e =>
  have g : HiG1 ix a b p (fun sd : Side less => (none, na, nb, o sd, ac, bc)) ix' := ⟨hM, na, nb, o, ac, bc, ho, rfl, h e⟩
  det_ite (fun _ => det_pure (.done (.inr g))) fun _ => det_pure (.yield g)
theorem HiR.downA (h : HiR a b p na nb) (e : na - 1 ≠ 0) : HiR a b p (na - 1) nb := by
  obtain ⟨h1, h2, h3, h4, h5⟩ := h
  exact ⟨by omega, by omega, h3, h4, by omega⟩
theorem HiR.downB (h : HiR a b p na nb) (e : nb - 1 ≠ 1) : HiR a b p na (nb - 1) := by
  obtain ⟨h1, h2, h3, h4, h5⟩ := h
  exact ⟨h1, h2, by omega, by omega, by omega⟩
theorem HiR.la (h : HiR a b p na nb) : na - 1 < a.size := Nat.lt_of_le_of_lt (Nat.sub_le _ _) h.a2
theorem HiR.lb (h : HiR a b p na nb) : nb - 1 < b.size := Nat.lt_of_lt_of_le (Nat.sub_lt (Nat.le_of_succ_le h.b1) Nat.one_pos) h.b2
theorem det_hiOne (hM : Ms ix ix') (ho : Mapped o) (h : HiR a b p na nb) : Det (fun sd => hiOne (a.map sd.it) (b.map sd.it) mg na nb (o sd) ac bc) ix' (DetStep (HiD1 ix a b p) (HiG1 ix a b p)) :=
  det_elem h.lb fun _ => det_elem h.la fun _ => det_lt fun _ =>
  det_ite (fun _ => det_elem h.la fun v => det_hiOneA hM (ho.push v) h.downA) fun _ =>
  det_elem h.lb fun v => det_hiOneB hM (ho.push v) h.downB
/-- the same, one item further on in this turn: the side `a` is yet to give its item -/
structure HiQ (a b : Array Nat) (z na nb : Nat) : Prop where
  a1 : 1 ≤ na
  a2 : na < a.size
  b1 : 2 ≤ nb
  b2 : nb ≤ b.size
  all : na + nb + z ≤ a.size + b.size
theorem HiQ.la (h : HiQ a b p na nb) : na - 1 < a.size := Nat.lt_of_le_of_lt (Nat.sub_le _ _) h.a2
theorem HiQ.down (h : HiQ a b p na nb) (e : na - 1 ≠ 0) : HiR a b p (na - 1) nb := by
  obtain ⟨h1, h2, h3, h4, h5⟩ := h
  exact ⟨by omega, by omega, h3, h4, by omega⟩
theorem HiQ.cutB {t : Nat} (h : HiQ a b p na nb) (ht : t ≤ nb) (e1 : t ≠ 1) (e0 : t ≠ 0) : HiQ a b p na t := by
  obtain ⟨h1, h2, h3, h4, h5⟩ := h
  exact ⟨h1, h2, by omega, by omega, by omega⟩
theorem det_hiC1 (hM : Ms ix ix') (ho : Mapped o) (h : na ≠ 0 → HiR a b p na nb) (hq : q ≤ p) : Det (fun sd => hiC1 (a.map sd.it) (b.map sd.it) ac bc mg na nb (o sd)) ix' (DetStep (HiD2 ix a b q) (HiG2 ix a b p)) :=
  det_iteE (fun _ => det_pure (.done (.inl ⟨hM, .intro ho.hiDone⟩))) fun e =>
  det_ite (fun _ => det_pure (.done (.inr ⟨hM, na, nb, o, mg, ac, bc, ho, rfl, (h e).mono hq⟩))) fun _ => det_pure (.yield ⟨hM, na, nb, o, mg, ac, bc, ho, rfl, h e⟩)
theorem det_hiC (hM : Ms ix ix') (ho : Mapped o) (h : HiQ a b p na nb) (hq : q ≤ p) : Det (fun sd => hiC (a.map sd.it) (b.map sd.it) ac bc mg na nb (o sd)) ix' (DetStep (HiD2 ix a b q) (HiG2 ix a b p)) :=
  det_elem h.la fun v => det_hiC1 hM (ho.push v) h.down hq
theorem det_hiB2 (hM : Ms ix ix') (ho : Mapped o) (h : nb ≠ 1 → nb ≠ 0 → HiQ a b p na nb) (hq : q ≤ p) : Det (fun sd => hiB2 (a.map sd.it) (b.map sd.it) ac bc mg na nb (o sd)) ix' (DetStep (HiD2 ix a b q) (HiG2 ix a b p)) :=
  det_iteE (fun _ => det_pure (.done (.inl ⟨hM, .intro ho.hiFirst⟩))) fun e1 =>
  det_iteE (fun _ => det_pure (.done (.inl ⟨hM, .intro ho.hiDone⟩))) fun e0 => det_hiC hM ho (h e1 e0) hq
theorem det_hiB1 (hM : Ms ix ix') (ho : Mapped o) (h : nb ≠ 1 → HiQ a b p na nb) (hq : q ≤ p) : Det (fun sd => hiB1 (a.map sd.it) (b.map sd.it) ac bc mg na nb (o sd)) ix' (DetStep (HiD2 ix a b q) (HiG2 ix a b p)) :=
  det_iteE (fun _ => det_pure (.done (.inl ⟨hM, .intro ho.hiFirst⟩))) fun e =>
  have h := h e
  det_elem h.la fun _ => det_gallop ((Nat.zero_add nb).symm ▸ h.b2) (Nat.sub_lt (Nat.le_of_succ_le h.b1) Nat.one_pos) fun t ht =>
  det_ite (fun _ => det_hiB2 hM (ho.app ((Mapped.map b).ext t nb).rev) (h.cutB ht) hq) fun _ => det_hiC hM ho h hq
/-- a turn's start, or after the cut in `a`: both sides have yet to give an item -/
structure HiP (a b : Array Nat) (z na nb : Nat) : Prop where
  a1 : 1 ≤ na
  a2 : na < a.size
  b1 : 2 ≤ nb
  b2 : nb ≤ b.size
  all : na + nb + z ≤ a.size + b.size + 1
theorem HiP.la (h : HiP a b p na nb) : na - 1 < a.size := Nat.lt_of_le_of_lt (Nat.sub_le _ _) h.a2
theorem HiP.lb (h : HiP a b p na nb) : nb - 1 < b.size := Nat.lt_of_lt_of_le (Nat.sub_lt (Nat.le_of_succ_le h.b1) Nat.one_pos) h.b2
theorem HiP.down (h : HiP a b p na nb) (e : nb - 1 ≠ 1) : HiQ a b p na (nb - 1) := by
  obtain ⟨h1, h2, h3, h4, h5⟩ := h
  exact ⟨h1, h2, by omega, by omega, by omega⟩
theorem HiP.cutA {t : Nat} (h : HiP a b p na nb) (ht : t ≤ na) (e0 : t ≠ 0) : HiP a b p t nb := by
  obtain ⟨h1, h2, h3, h4, h5⟩ := h
  exact ⟨by omega, by omega, h3, h4, by omega⟩
theorem det_hiB (hM : Ms ix ix') (ho : Mapped o) (h : HiP a b p na nb) (hq : q ≤ p) : Det (fun sd => hiB (a.map sd.it) (b.map sd.it) ac bc mg na nb (o sd)) ix' (DetStep (HiD2 ix a b q) (HiG2 ix a b p)) :=
  det_elem h.lb fun v => det_hiB1 hM (ho.push v) h.down hq
theorem det_hiA1 (hM : Ms ix ix') (ho : Mapped o) (h : na ≠ 0 → HiP a b p na nb) (hq : q ≤ p) : Det (fun sd => hiA1 (a.map sd.it) (b.map sd.it) ac bc mg na nb (o sd)) ix' (DetStep (HiD2 ix a b q) (HiG2 ix a b p)) :=
  det_iteE (fun _ => det_pure (.done (.inl ⟨hM, .intro ho.hiDone⟩))) fun e => det_hiB hM ho (h e) hq
theorem det_hiA (hM : Ms ix ix') (ho : Mapped o) (h : HiP a b p na nb) (hq : q ≤ p) (mg : Nat) : Det (fun sd => hiA (a.map sd.it) (b.map sd.it) ac bc na nb (o sd) mg) ix' (DetStep (HiD2 ix a b q) (HiG2 ix a b p)) :=
  det_setMin (det_elem h.lb fun _ => det_gallop ((Nat.zero_add na).symm ▸ Nat.le_of_lt h.a2) (Nat.sub_lt h.a1 Nat.one_pos) fun t ht =>
  det_ite (fun _ => det_hiA1 hM (ho.app ((Mapped.map a).ext t na).rev) (h.cutA ht) hq) fun _ => det_hiB hM ho h hq)
theorem det_hiTurn (hM : Ms ix ix') (ho : Mapped o) (h : HiP a b p na nb) (hq : q ≤ p) : Det (fun sd => hiTurn (a.map sd.it) (b.map sd.it) na nb (o sd) mg ac bc) ix' (DetStep (HiD2 ix a b q) (HiG2 ix a b p)) :=
  det_ite (fun _ => det_hiA hM ho h hq _) fun _ => det_hiA hM ho h hq _
theorem det_hiEnd {x : Side less → HiS} (h : HiD2 ix a b q x ix') : Det (fun sd => hiEnd (x sd)) ix' (DetStep (MsAns ix) (HiGU ix a b q)) := by
  rcases h with ⟨hM, r, t, hr, rfl⟩ | ⟨hM, na, nb, o, mg, ac, bc, ho, rfl, h1⟩
  · exact det_pure (DetStep.done ⟨hM, .intro hr⟩)
  · show Det (fun sd => setMinGallop' (mg + 1) >>= fun _ => (pure (.yield (none, na, nb, o sd, mg + 1)) : SM (ForInStep HiU))) _ _
    exact det_setMin (det_pure (DetStep.yield ⟨hM, na, nb, o, mg + 1, ho, rfl, h1⟩))
theorem HiR.turn {j : Nat} (h : HiR a b (p + j) na nb) : HiP a b (p + (j + 1)) na nb := by
  obtain ⟨h1, h2, h3, h4, h5⟩ := h
  exact ⟨h1, h2, h3, h4, by omega⟩
theorem det_hiMid {x : Side less → HiT} (h : HiD1 ix a b p x ix') : Det (fun sd => hiMid (a.map sd.it) (b.map sd.it) (a.size + b.size) mg (x sd)) ix' (DetStep (MsAns ix) (HiGU ix a b (p + 1))) := by
  rcases h with ⟨hM, r, t, hr, rfl⟩ | ⟨hM, na, nb, o, ac, bc, ho, rfl, h1⟩
  · exact det_pure (DetStep.done ⟨hM, .intro hr⟩)
  refine det_rule (det_for (x := fun sd => (none, na, nb, o sd, mg + 1, ac, bc)) (fun j => HiG2 ix a b (p + j)) (HiD2 ix a b (p + 1)) ⟨hM, na, nb, o, mg + 1, ac, bc, ho, rfl, h1⟩ ?_ ?_ fun _ _ h => det_hiEnd h)
  · rintro j x ix3 hj ⟨hM, na, nb, o, mg, ac, bc, ho, rfl, h1⟩
    exact det_hiTurn (o := o) hM ho h1.turn (Nat.add_le_add_left (Nat.succ_le_succ (Nat.zero_le j)) p)
  · rintro j x ix3 hj ⟨hM, na, nb, o, mg, ac, bc, ho, rfl, h1⟩
    exact .inr ⟨hM, na, nb, o, mg, ac, bc, ho, rfl, h1.mono (by have := h1.a1; have := h1.a2; omega)⟩
theorem det_hiBody (hM : Ms ix ix') (ho : Mapped o) (h : HiR a b p na nb) : Det (fun sd => hiBody (a.map sd.it) (b.map sd.it) (a.size + b.size) na nb (o sd) mg) ix' (DetStep (MsAns ix) (HiGU ix a b (p + 1))) := by
  refine det_for (x := fun sd => (none, na, nb, o sd, 0, 0)) (fun _ => HiG1 ix a b p) (HiD1 ix a b p) ⟨hM, na, nb, o, 0, 0, ho, rfl, h⟩ ?_ (fun _ _ _ _ h => .inr h) fun _ _ h => det_hiMid h
  rintro j x ix3 hj ⟨hM, na, nb, o, ac, bc, ho, rfl, h1⟩
  exact det_hiOne (o := o) hM ho h1
theorem det_hiStart (ho : Mapped o) (h1 : 0 < a.size) (h2 : 1 ≤ b.size) : Det (fun sd => hiStart (a.map sd.it) (b.map sd.it) (a.size + b.size) (a.size - 1) b.size (o sd)) ix (fun x ix' => Mapped x ∧ Ms ix ix') := by
  refine det_iteE (fun _ => det_pure ⟨ho.hiDone, rfl, rfl⟩) fun e1 => det_iteE (fun _ => det_pure ⟨ho.hiFirst, rfl, rfl⟩) fun e2 => det_get ?_
  refine det_for (x := fun sd => (none, a.size - 1, b.size, o sd, ix.mg)) (HiGU ix a b) (MsAns ix) ⟨⟨rfl, rfl⟩, _, _, o, ix.mg, ho, rfl, by omega, by omega, by omega, Nat.le_refl _, by omega⟩ ?_ ?_ fun _ _ h => det_mEnd h
  · rintro i x ix1 hi ⟨hM, na, nb, o, mg, ho, rfl, h1⟩
    exact det_hiBody (o := o) hM ho h1
  · rintro i x ix1 hi ⟨hM, na, nb, o, mg, ho, rfl, h1⟩
    exact absurd h1.all (by omega)
theorem det_mergeHi (ha : 0 < a.size) (hb : 0 < b.size) : Det (fun sd : Side less => mergeHi' (a.map sd.it) (b.map sd.it)) ix (fun x ix' => Mapped x ∧ Ms ix ix') := by
  simp only [mergeHi'_eq, Array.size_map]
  exact det_rule (det_elem (Nat.sub_lt ha Nat.one_pos) fun _ => det_hiStart (.one _) ha hb)
end
theorem mergeAt'_eq (i : Nat) : mergeAt' i = (do
  let s ← get
  let (some (sa, na, power), some (sb, nb, _)) := ((pendingOf s)[i]?, (pendingOf s)[i + 1]?) | unsupported "internal:list.sort.pending"
  set (SortSt.mk' (kindOf s) (arrOf s) (((pendingOf s).setIfInBounds i (sa, na + nb, power)).eraseIdxIfInBounds (i + 1)) (gallopOf s) (failedOf s))
  let some k ← gallop' false (← elem' (arrOf s) sb) (arrOf s) sa na 0 | return false
  let (sa, na) := (sa + k, na - k)
  if na == 0 then return true
  let some nb ← gallop' true (← elem' (arrOf s) (sa + na - 1)) (arrOf s) sb nb (nb - 1) | return false
  if nb == 0 then return true
  let x := (arrOf s).extract sa sb
  let y := (arrOf s).extract sb (sb + nb)
  let merged ← if na ≤ nb then mergeLo' x y else mergeHi' x y
  modify fun s => setArr s (merged.toList.zipIdx.foldl (fun a (p, j) => a.setIfInBounds (sa + j) p) (arrOf s))
  return (failedOf (← get)).isNone) := rfl
theorem fold_set_map (it : Nat → Keyed) (sa : Nat) : ∀ (l : List Nat) (k : Nat) (xs : Array Nat),
    (l.map it |>.zipIdx k).foldl (fun a (p, j) => a.setIfInBounds (sa + j) p) (xs.map it) = ((l.zipIdx k).foldl (fun a (p, j) => a.setIfInBounds (sa + j) p) xs).map it
  | [], _, _ => rfl
  | x :: l, k, xs => by
    simp only [List.map_cons, List.zipIdx_cons, List.foldl_cons]
    have e : (xs.map it).setIfInBounds (sa + k) (it x) = (xs.setIfInBounds (sa + k) x).map it := by simp
    rw [e]
    exact fold_set_map it sa l (k + 1) _
theorem fold_set_size (sa : Nat) : ∀ (l : List Nat) (k : Nat) (xs : Array Nat), ((l.zipIdx k).foldl (fun a (p, j) => a.setIfInBounds (sa + j) p) xs).size = xs.size
  | [], _, _ => rfl
  | x :: l, k, xs => by
    simp only [List.zipIdx_cons, List.foldl_cons]
    rw [fold_set_size sa l (k + 1) _]
    simp
theorem ext_map {arr : Array Nat} (it : Nat → Keyed) (i j : Nat) : (arr.map it).extract i j = (arr.extract i j).map it := by simp
theorem det_mergeAt {n1 n2 p1 p2 : Nat} {ix : Ix} (h1 : 0 < n1) (h2 : 0 < n2) (hz : n1 + n2 ≤ ix.arr.size) (hp : ix.pend = #[(0, n1, p1), (n1, n2, p2)]) :
    Det (fun _ : Side less => mergeAt' 0) ix (fun x ix' => x = (fun _ => true) ∧ ix'.arr.size = ix.arr.size ∧ ix'.pend.size = 1) := by
  obtain ⟨arr, pend, mg⟩ := ix
  dsimp only at hp hz ⊢
  subst hp
  simp only [mergeAt'_eq]
  refine det_get ?_
  have g0 : ∀ sd : Side less, (pendingOf (conc sd ⟨arr, #[(0, n1, p1), (n1, n2, p2)], mg⟩))[0]? = some (0, n1, p1) := fun _ => rfl
  have g1 : ∀ sd : Side less, (pendingOf (conc sd ⟨arr, #[(0, n1, p1), (n1, n2, p2)], mg⟩))[0 + 1]? = some (n1, n2, p2) := fun _ => rfl
  simp only [g0, g1]
  have g3 : ((#[(0, n1, p1), (n1, n2, p2)] : Array (Nat × Nat × Nat)).setIfInBounds 0 (0, n1 + n2, p1)).eraseIdxIfInBounds (0 + 1) = #[(0, n1 + n2, p1)] := by
    simp [Array.eraseIdxIfInBounds]
  refine det_set ⟨arr, #[(0, n1 + n2, p1)], mg⟩ (fun sd => ?_) ?_
  · show SortSt.mk' sd.κ (arr.map sd.it) (((#[(0, n1, p1), (n1, n2, p2)] : Array (Nat × Nat × Nat)).setIfInBounds 0 (0, n1 + n2, p1)).eraseIdxIfInBounds (0 + 1)) mg none = _
    rw [g3]; rfl
  have g2 : ∀ sd : Side less, arrOf (conc sd ⟨arr, #[(0, n1, p1), (n1, n2, p2)], mg⟩) = arr.map sd.it := fun _ => rfl
  simp only [g2]
  refine det_elem (by omega) fun _ => det_gallop (by omega) h1 fun k hk => ?_
  try dsimp only
  refine det_ite (fun _ => det_pure ⟨rfl, rfl, rfl⟩) fun e1 => ?_
  simp only [beq_iff_eq] at e1
  refine det_elem (by omega) fun _ => det_gallop (by omega) (by omega) fun k2 hk2 => ?_
  try dsimp only
  refine det_ite (fun _ => det_pure ⟨rfl, rfl, rfl⟩) fun e2 => ?_
  simp only [beq_iff_eq] at e2
  have fin : ∀ (x : Side less → Array Keyed) (ix' : Ix), Mapped x ∧ Ms ⟨arr, #[(0, n1 + n2, p1)], mg⟩ ix' → Det (fun sd : Side less => (do
      modify fun s => setArr s ((x sd).toList.zipIdx.foldl (fun a (p, j) => a.setIfInBounds (0 + k + j) p) (arrOf s))
      return (failedOf (← get)).isNone : StateT SortSt Sem Bool)) ix' (fun x ix' => x = (fun _ => true) ∧ ix'.arr.size = arr.size ∧ ix'.pend.size = 1) := by
    rintro x ix' ⟨⟨o, rfl⟩, hM⟩
    refine det_modify (g := fun sd s => setArr s ((o.map sd.it).toList.zipIdx.foldl (fun a (p, j) => a.setIfInBounds (0 + k + j) p) (arrOf s))) ⟨(o.toList.zipIdx.foldl (fun a (p, j) => a.setIfInBounds (0 + k + j) p) ix'.arr), ix'.pend, ix'.mg⟩ (fun sd => ?_) ?_
    rotate_left
    · refine det_get ?_
      refine det_pure ⟨rfl, ?_, ?_⟩
      · show (o.toList.zipIdx.foldl (fun a (p, j) => a.setIfInBounds (0 + k + j) p) ix'.arr).size = _
        rw [fold_set_size, hM.1]
      · show ix'.pend.size = 1
        rw [hM.2]; rfl
    · show SortSt.mk' sd.κ (((o.map sd.it).toList.zipIdx).foldl (fun a (p, j) => a.setIfInBounds (0 + k + j) p) (ix'.arr.map sd.it)) ix'.pend ix'.mg none = SortSt.mk' sd.κ ((o.toList.zipIdx.foldl (fun a (p, j) => a.setIfInBounds (0 + k + j) p) ix'.arr).map sd.it) ix'.pend ix'.mg none
      rw [Array.toList_map, fold_set_map]
  simp only [ext_map]
  refine det_ite (fun _ => det_bind (det_mono (det_mergeLo ?_ ?_) fin)) fun _ => det_bind (det_mono (det_mergeHi ?_ ?_) fin)
  all_goals (simp only [Array.size_extract]; omega)
theorem power_total : True := trivial
theorem minRun_small {n : Nat} (h2 : 2 ≤ n) (h : n < 64) : minRun' n n 0 = n := by
  obtain ⟨f, rfl⟩ : ∃ f, n = f + 1 := ⟨n - 1, by omega⟩
  rw [minRun'_succ, if_pos h]
theorem minRun_mid {n : Nat} (h1 : 64 ≤ n) (h2 : n < 128) : minRun' n n 0 = n / 2 + n % 2 := by
  obtain ⟨f, rfl⟩ : ∃ f, n = f + 1 + 1 := ⟨n - 2, by omega⟩
  rw [minRun'_succ, if_neg (by omega), minRun'_succ, if_pos (by omega)]
  omega
noncomputable def SortI (n mr : Nat) (i : Nat) (x : Side less → Option Unit × Nat) (ix : Ix) : Prop :=
  ix.arr.size = n ∧ ((i = 0 ∧ x = (fun _ => (none, 0)) ∧ ix.pend = #[]) ∨ (i = 1 ∧ ∃ n1, x = (fun _ => (none, n1)) ∧ ix.pend = #[(0, n1, 0)] ∧ mr ≤ n1 ∧ n1 < n) ∨
    (1 ≤ i ∧ x = (fun _ => (none, n)) ∧ (ix.pend = #[(0, n, 0)] ∨ ∃ n1 n2 pw, ix.pend = #[(0, n1, pw), (n1, n2, 0)] ∧ 0 < n1 ∧ 0 < n2 ∧ n1 + n2 = n)))
noncomputable def SortD (n : Nat) (x : Side less → Option Unit × Nat) (ix : Ix) : Prop :=
  ix.arr.size = n ∧ (∃ k, x = (fun _ => (none, k))) ∧ (ix.pend = #[(0, n, 0)] ∨ ∃ n1 n2 pw, ix.pend = #[(0, n1, pw), (n1, n2, 0)] ∧ 0 < n1 ∧ 0 < n2 ∧ n1 + n2 = n)
theorem det_push {lo m : Nat} {ix : Ix} {n mr i : Nat} (_hs : ix.arr.size = n)
    (h : SortI n mr (i + 1) (fun _ : Side less => (none, lo + m)) ⟨ix.arr, ix.pend.push (lo, m, 0), ix.mg⟩) :
    Det (fun _ : Side less => (do
      modify fun s => setPending s ((pendingOf s).push (lo, m, 0))
      pure (ForInStep.yield (none, lo + m)) : StateT SortSt Sem (ForInStep (Option Unit × Nat)))) ix (DetStep (SortD n) (SortI n mr (i + 1))) :=
  det_modify (g := fun _ s => setPending s ((pendingOf s).push (lo, m, 0))) ⟨ix.arr, ix.pend.push (lo, m, 0), ix.mg⟩ (fun _ => rfl) (det_pure (DetStep.yield h))
noncomputable def runsOlder (size lo n : Nat) (st : SortSt) : StateT SortSt Sem (ForInStep (Option Unit × Nat)) :=
  match (pendingOf st).back? with
  | some (s1, n1, _) => do
    let s ← forIn [:size] ((none, ()) : Option Unit × Unit) (fun _ _ => do
      let st ← get
      match (if (pendingOf st).size > 1 then (pendingOf st)[(pendingOf st).size - 2]? else none) with
      | some (_, _, older) => if older ≤ power' size (2 * s1 + n1) (2 * s1 + n1 + n1 + n) size then pure (ForInStep.done (none, ())) else do
          let b ← mergeAt' ((pendingOf st).size - 2)
          if (!b) = true then pure (ForInStep.done (some (), ())) else pure (ForInStep.yield (none, ()))
      | _ => pure (ForInStep.done (none, ())))
    @Break.runK.match_1 Unit (fun _ => StateT SortSt Sem (ForInStep (Option Unit × Nat))) s.fst (fun r => pure (ForInStep.done (some r, lo))) (fun _ => do
      modify fun s => setPending s ((pendingOf s).modify ((pendingOf s).size - 1) fun x => (x.fst, x.2.fst, power' size (2 * s1 + n1) (2 * s1 + n1 + n1 + n) size))
      modify fun s => setPending s ((pendingOf s).push (lo, n, 0))
      pure (ForInStep.yield (none, lo + n)))
  | _ => do
    modify fun s => setPending s ((pendingOf s).push (lo, n, 0))
    pure (ForInStep.yield (none, lo + n))
theorem back0 {sd : Side less} {arr : Array Nat} {mg : Nat} : (pendingOf (conc sd ⟨arr, #[], mg⟩)).back? = none := rfl
theorem back1 {sd : Side less} {arr : Array Nat} {mg n1 : Nat} : (pendingOf (conc sd ⟨arr, #[(0, n1, 0)], mg⟩)).back? = some (0, n1, 0) := rfl
theorem older1 {sd : Side less} {arr : Array Nat} {mg n1 : Nat} : (if (pendingOf (conc sd ⟨arr, #[(0, n1, 0)], mg⟩)).size > 1 then (pendingOf (conc sd ⟨arr, #[(0, n1, 0)], mg⟩))[(pendingOf (conc sd ⟨arr, #[(0, n1, 0)], mg⟩)).size - 2]? else none) = none := rfl
theorem det_older0 {n mr m : Nat} {ix : Ix} (hp : ix.pend = #[]) (k1 : ix.arr.size = n) (h2 : 2 ≤ n) (c1 : mr ≤ m) (c2 : m ≤ n) :
    Det (fun sd : Side less => runsOlder n 0 m (conc sd ix)) ix (DetStep (SortD n) (SortI n mr (0 + 1))) := by
  obtain ⟨arr, pend, mg⟩ := ix
  dsimp only at hp k1
  subst hp
  dsimp only [runsOlder, back0]
  refine det_push k1 ⟨k1, ?_⟩
  rw [Nat.zero_add]
  by_cases hm : m < n
  · exact .inr (.inl ⟨rfl, m, by rw [Nat.zero_add], rfl, c1, hm⟩)
  · obtain rfl : m = n := Nat.le_antisymm c2 (Nat.not_lt.mp hm)
    exact .inr (.inr ⟨Nat.le_refl 1, by rw [Nat.zero_add], .inl rfl⟩)
theorem pw_modify (n1 q : Nat) : (#[(0, n1, 0)] : Array (Nat × Nat × Nat)).modify 0 (fun x => (x.fst, x.2.fst, q)) = #[(0, n1, q)] := by simp
noncomputable def Flat (ix : Ix) (x : Side less → Option Unit × Unit) (ix' : Ix) : Prop := ix' = ix ∧ x = fun _ => (none, ())
theorem det_older1 {n n1 mr m : Nat} {ix : Ix} (hm : m = n - n1) (hp : ix.pend = #[(0, n1, 0)]) (k1 : ix.arr.size = n) (q0 : 0 < n1) (q2 : n1 < n) :
    Det (fun sd : Side less => runsOlder n n1 m (conc sd ix)) ix (DetStep (SortD n) (SortI n mr (1 + 1))) := by
  obtain ⟨arr, pend, mg⟩ := ix
  dsimp only at hp k1
  subst hp hm
  dsimp only [runsOlder, back1]
  refine det_for (x := fun _ => (none, ())) (fun _ => Flat ⟨arr, #[(0, n1, 0)], mg⟩) (Flat ⟨arr, #[(0, n1, 0)], mg⟩) ⟨rfl, rfl⟩ ?_ (fun _ _ _ _ h => h) ?_
  · rintro i x ix' hi ⟨rfl, rfl⟩
    refine det_get ?_
    dsimp only [older1]
    exact det_pure (DetStep.done ⟨rfl, rfl⟩)
  · rintro x ix' ⟨rfl, rfl⟩
    dsimp only
    refine det_modify (g := fun _ s => setPending s ((pendingOf s).modify ((pendingOf s).size - 1) fun x => (x.fst, x.2.fst, power' n (2 * 0 + n1) (2 * 0 + n1 + n1 + (n - n1)) n))) ⟨arr, #[(0, n1, power' n (2 * 0 + n1) (2 * 0 + n1 + n1 + (n - n1)) n)], mg⟩ (fun sd => congrArg (fun z => SortSt.mk' sd.κ (arr.map sd.it) z mg none) (pw_modify n1 _)) ?_
    have e : n1 + (n - n1) = n := by omega
    exact det_push k1 ⟨k1, .inr (.inr ⟨Nat.le_add_left 1 1, by rw [e], .inr ⟨n1, n - n1, _, rfl, q0, Nat.sub_pos_of_lt q2, e⟩⟩)⟩
noncomputable def runsBody (size : Nat) : StateT SortSt Sem Unit := do
  let minrun := minRun' size size 0
  let mut lo := 0
  for _ in [0:size] do
    if lo ≥ size then break
    let some found ← countRun' lo (size - lo) | return
    let mut n := found
    if n < minrun then
      rule "list.sort.binary-insertion"
      let force := min (size - lo) minrun
      if !(← binarySort' lo force n) then return
      n := force
    if let some (s1, n1, _) := (pendingOf (← get)).back? then
      let pw := power' size (2 * s1 + n1) (2 * s1 + n1 + n1 + n) size
      for _ in [0:size] do
        let p := pendingOf (← get)
        let some (_, _, older) := (if p.size > 1 then p[p.size - 2]? else none) | break
        if older ≤ pw then break
        if !(← mergeAt' (p.size - 2)) then return
      modify fun s => setPending s ((pendingOf s).modify ((pendingOf s).size - 1) fun (st, len, _) => (st, len, pw))
    modify fun s => setPending s ((pendingOf s).push (lo, n, 0))
    lo := lo + n
  for _ in [0:size] do
    let p := pendingOf (← get)
    if p.size ≤ 1 then break
    let i := p.size - 2
    let before := if i > 0 then p[i - 1]?.map (·.2.1) else none
    let i := if before.any (· < (p[i + 1]?.elim 0 (·.2.1))) then i - 1 else i
    if !(← mergeAt' i) then return
theorem sortRuns'_body : sortRuns' = (do runsBody (arrOf (← get)).size) := rfl
noncomputable def MrOK (n mr : Nat) : Prop := 1 ≤ mr ∧ mr ≤ n ∧ n ≤ mr + mr
theorem minRun_ok {n : Nat} (h2 : 2 ≤ n) (h128 : n < 128) : MrOK n (minRun' n n 0) := by
  by_cases h : n < 64
  · rw [minRun_small h2 h]; exact ⟨by omega, by omega, by omega⟩
  · rw [minRun_mid (by omega) h128]; exact ⟨by omega, by omega, by omega⟩
theorem det_runs {n : Nat} {ix : Ix} (h2 : 2 ≤ n) (h128 : n < 128) (hs : ix.arr.size = n) (hp : ix.pend = #[]) :
    Det (fun _ : Side less => sortRuns') ix (fun _ ix' => ix'.arr.size = n) := by
  obtain ⟨m1, m2, m3⟩ := minRun_ok h2 h128
  rw [sortRuns'_body]
  refine det_get ?_
  rw [show (fun sd : Side less => runsBody (arrOf (conc sd ix)).size) = fun _ => runsBody n from funext fun sd => congrArg runsBody ((Array.size_map ..).trans hs)]
  dsimp only [runsBody]
  generalize minRun' n n 0 = mr at m1 m2 m3 ⊢
  refine det_for (x := fun _ => (none, 0)) (SortI n mr) (SortD n) ⟨hs, .inl ⟨rfl, rfl, hp⟩⟩ ?_ ?_ ?_
  · rintro i x ix1 hi ⟨hs1, ⟨rfl, rfl, hp1⟩ | ⟨rfl, n1, rfl, hp1, q1, q2⟩ | ⟨hi1, rfl, hp1⟩⟩
    · try dsimp only
      refine det_ite (fun h => absurd h (by omega)) fun _ => ?_
      refine det_bind (det_mono (det_count (by omega) (by omega)) ?_)
      rintro _ ix2 ⟨m, rfl, c1, c2, hK⟩
      rw [hs1] at hK
      obtain ⟨k1, k2, k3⟩ := hK
      refine det_ite (fun hlt => ?_) fun hge => det_get (det_older0 (k2.trans hp1) k1 h2 (Nat.not_lt.mp hge) c2)
      refine det_rule (det_bind (det_mono (det_bin (by omega)) ?_))
      rintro _ ix3 ⟨rfl, k4, k5, k6⟩
      exact det_ite (fun h => absurd h (by decide)) fun _ => det_get (det_older0 (k5.trans (k2.trans hp1)) (k4.trans k1) h2 (by omega) (by omega))
    · try dsimp only
      refine det_ite (fun h => absurd h (by omega)) fun _ => ?_
      refine det_bind (det_mono (det_count (by omega) (by omega)) ?_)
      rintro _ ix2 ⟨m, rfl, c1, c2, hK⟩
      rw [hs1] at hK
      obtain ⟨k1, k2, k3⟩ := hK
      have nm : n - n1 ≤ mr := by omega
      refine det_ite (fun hlt => ?_) fun hge => ?_
      · refine det_rule (det_bind (det_mono (det_bin (by omega)) ?_))
        rintro _ ix3 ⟨rfl, k4, k5, k6⟩
        exact det_ite (fun h => absurd h (by decide)) fun _ => det_get (det_older1 (Nat.min_eq_left nm) (k5.trans (k2.trans hp1)) (k4.trans k1) (by omega) q2)
      · obtain rfl : m = n - n1 := by omega
        exact det_get (det_older1 rfl (k2.trans hp1) k1 (by omega) q2)
    · try dsimp only
      refine det_ite (fun _ => det_pure (DetStep.done ⟨hs1, ⟨n, rfl⟩, hp1⟩)) fun h => absurd (Nat.le_refl n) h
  · rintro i x ix1 hi ⟨hs1, ⟨rfl, rfl, hp1⟩ | ⟨rfl, n1, rfl, hp1, q1, q2⟩ | ⟨hi1, rfl, hp1⟩⟩
    · exfalso; omega
    · exfalso; omega
    · exact ⟨hs1, ⟨n, rfl⟩, hp1⟩
  · rintro x ix1 ⟨hs1, ⟨k, rfl⟩, hp1⟩
    try dsimp only
    refine det_for (x := fun _ => (none, ())) (fun i x ix' => x = (fun _ => (none, ())) ∧ ix'.arr.size = n ∧ (ix'.pend.size = 1 ∨ ∃ n1 n2 pw, ix'.pend = #[(0, n1, pw), (n1, n2, 0)] ∧ 0 < n1 ∧ 0 < n2 ∧ n1 + n2 = n)) (fun x ix' => x = (fun _ => (none, ())) ∧ ix'.arr.size = n)
      ⟨rfl, hs1, hp1.imp_left fun e => by rw [e]; rfl⟩ ?_ (fun _ _ _ _ h => ⟨h.1, h.2.1⟩) ?_
    · rintro i x ix' hi ⟨rfl, hs2, hp2⟩
      refine det_get ?_
      rcases hp2 with hp2 | ⟨n1, n2, pw, hp2, r1, r2, r3⟩
      · exact det_iteC True (fun _ => iff_of_true (Nat.le_of_eq hp2) trivial) (fun _ => det_pure (DetStep.done ⟨rfl, hs2⟩)) fun h => absurd trivial h
      · obtain ⟨arr, pend, mg⟩ := ix'
        dsimp only at hp2 hs2
        subst hp2
        refine det_iteC False (fun _ => iff_of_false (Nat.not_le.mpr (Nat.lt_succ_self 1)) id) (fun h => h.elim) fun _ => ?_
        show Det (fun sd : Side less => mergeAt' 0 >>= _) _ _
        refine det_bind (det_mono (det_mergeAt r1 r2 (by dsimp only; omega) rfl) ?_)
        rintro _ ix3 ⟨rfl, hs3, hp3⟩
        try dsimp only
        exact det_pure (DetStep.yield ⟨rfl, hs3.trans hs2, .inl hp3⟩)
    · rintro x ix' ⟨rfl, hs2⟩
      exact det_pure hs2
end
noncomputable def tupO (x y : Int) (t u : Tok) (k : Nat) : Obj := { cls := .type "tuple", data := .seq (List.toArray [.int x t, .int y u]) k }
inductive Tups (l : List (Addr × Obj)) : List Value → List (Int × Int) → Prop
  | nil : Tups l [] []
  | cons {a : Addr} {x y : Int} {t u : Tok} {k : Nat} {vs : List Value} {ps : List (Int × Int)} : (a, tupO x y t u k) ∈ l → Tups l vs ps → Tups l (.ref a :: vs) ((x, y) :: ps)
theorem Tups.mono {l l' : List (Addr × Obj)} (hs : ∀ p ∈ l, p ∈ l') {vs : List Value} {ps : List (Int × Int)} (h : Tups l vs ps) : Tups l' vs ps := by
  induction h with
  | nil => exact .nil
  | cons h _ ih => exact .cons (hs _ h) ih
theorem Tups.len {l : List (Addr × Obj)} {vs : List Value} {ps : List (Int × Int)} (h : Tups l vs ps) : vs.length = ps.length := by
  induction h with
  | nil => rfl
  | cons h _ ih => simp [ih]
theorem Tups.app {l : List (Addr × Obj)} {vs vs' : List Value} {ps ps' : List (Int × Int)} (h : Tups l vs ps) (h' : Tups l vs' ps') : Tups l (vs ++ vs') (ps ++ ps') := by
  induction h with
  | nil => exact h'
  | cons h _ ih => exact .cons h ih
theorem Tups.get {l : List (Addr × Obj)} {vs : List Value} {ps : List (Int × Int)} (h : Tups l vs ps) : ∀ i, i < ps.length → ∃ a t u k, vs.getD i .none = .ref a ∧ (a, tupO (ps.getD i (0, 0)).1 (ps.getD i (0, 0)).2 t u k) ∈ l := by
  induction h with
  | nil => intro i hi; simp at hi
  | @cons a x y t u k vs ps hm _ ih =>
    intro i hi
    cases i with
    | zero => exact ⟨a, t, u, k, rfl, hm⟩
    | succ i => exact ih i (by simpa using hi)
theorem Tups.pick {l : List (Addr × Obj)} {vs : List Value} {ps : List (Int × Int)} (h : Tups l vs ps) : ∀ is : List Nat, (∀ i ∈ is, i < ps.length) → Tups l (is.map fun i => vs.getD i .none) (is.map fun i => ps.getD i (0, 0))
  | [], _ => .nil
  | i :: is, hi => by
    obtain ⟨a, t, u, k, e, hm⟩ := h.get i (hi i (.head _))
    rw [List.map_cons, List.map_cons, e]
    exact .cons hm (h.pick is fun j hj => hi j (.tail _ hj))
noncomputable def lessP (p q : Int × Int) : Bool := if p.1 = q.1 then (if p.2 = q.2 then false else decide (p.2 < q.2)) else decide (p.1 < q.1)
noncomputable def lessN (ps : List (Int × Int)) (i j : Nat) : Bool := lessP (ps.getD (i % ps.length) (0, 0)) (ps.getD (j % ps.length) (0, 0))
section
variable {prog : Program} {w : World} {A : Around} {E : Value → Shared → Prop} {s : Shared}
theorem key_lt {a b : Addr} {x y x' y' : Int} {t u t' u' : Tok} {k k' : Nat} {Q : Bool → Shared → Prop} (ha : s.heap.get? a = some (tupO x y t u k)) (hb : s.heap.get? b = some (tupO x' y' t' u' k')) (h : Q (lessP (x, y) (x', y')) s) :
    wpAny (model prog w) A (keyLt' (tuples' true) (.ref a) (.ref b)) Q E s := by
  refine kat_lt ha rfl hb rfl ?_
  show KatLex prog w A true false Q [(.int x t, .int x' t'), (.int y u, .int y' u')] 0 s
  refine kat_cons (wpAny_eqBool_int ?_)
  unfold lessP at h
  dsimp only at h
  by_cases e : x = x'
  · rw [show (x == x') = true by simp [e]]
    rw [if_pos e] at h
    refine kat_yes (kat_cons (wpAny_eqBool_int ?_))
    by_cases e2 : y = y'
    · rw [show (y == y') = true by simp [e2]]
      rw [if_pos e2] at h
      exact kat_yes (kat_nil h)
    · rw [show (y == y') = false by simp [e2]]
      rw [if_neg e2] at h
      exact kat_no (kat_one _ _ (PyProof.Rows.lt_int h))
  · rw [show (x == x') = false by simp [e]]
    rw [if_neg e] at h
    exact kat_no (oneLt_int h)
theorem det_out {ps : List (Int × Int)} (h2 : 2 ≤ ps.length) (h128 : ps.length < 128) :
    ∃ p : Array Nat, p.size = ps.length ∧ ∀ (sd : Side (lessN ps)) (Q : Unit → SortSt → Prop), (∀ st, arrOf st = p.map sd.it → failedOf st = none → Q () st) →
      wpS (model sd.prog sd.w) sd.A sd.E sd.s sortRuns' Q (conc sd ⟨List.toArray (List.range ps.length), #[], 7⟩) := by
  obtain ⟨x, ix', hz, k⟩ := det_runs (less := lessN ps) (ix := ⟨List.toArray (List.range ps.length), #[], 7⟩) h2 h128 (by simp) rfl
  exact ⟨ix'.arr, hz, fun sd Q hq => k sd Q (hq _ rfl rfl)⟩
end
/-- where the sort leaves each place: it hangs on the pairs alone -/
noncomputable def sortIx (ps : List (Int × Int)) : Array Nat := open Classical in if h : 2 ≤ ps.length ∧ ps.length < 128 then (det_out h.1 h.2).choose else List.toArray (List.range ps.length)
noncomputable def sortL (ps : List (Int × Int)) : List Nat := (sortIx ps).toList.map fun i => i % ps.length
noncomputable def sortP (ps : List (Int × Int)) : List (Int × Int) := (sortL ps).map fun i => ps.getD i (0, 0)
theorem sortIx_size {ps : List (Int × Int)} : (sortIx ps).size = ps.length := by
  unfold sortIx
  split
  · rename_i h; exact (det_out h.1 h.2).choose_spec.1
  · simp
theorem sortL_len {ps : List (Int × Int)} : (sortL ps).length = ps.length := by
  unfold sortL; rw [List.length_map, Array.length_toList, sortIx_size]
theorem sortL_lt {ps : List (Int × Int)} : ∀ i ∈ sortL ps, i < ps.length := by
  intro i hi
  have hn : 0 < ps.length := by
    rw [← sortL_len]; exact List.length_pos_of_mem hi
  unfold sortL at hi
  obtain ⟨j, _, rfl⟩ := List.mem_map.mp hi
  exact Nat.mod_lt _ hn
theorem sortL_small {ps : List (Int × Int)} {α : Type} (f : List α) (d : α) (hf : f.length = ps.length) (h : ps.length < 2) : (sortL ps).map (fun i => f.getD i d) = f := by
  unfold sortL sortIx
  rw [dif_neg (by omega)]
  rcases ps with _ | ⟨p, _ | ⟨q, r⟩⟩
  · rcases f with _ | ⟨x, f⟩
    · rfl
    · cases hf
  · rcases f with _ | ⟨x, _ | ⟨y, f⟩⟩
    · cases hf
    · rfl
    · exact absurd (Nat.succ.inj hf) (Nat.succ_ne_zero _)
  · exact absurd h (Nat.not_lt.mpr (Nat.le_add_left 2 _))
section
variable {prog : Program} {w : World} {A : Around} {E : Value → Shared → Prop} {s : Shared} {h₀ : Heap} {L a : Addr} {m : Str → Option Value} {news : List (Addr × Obj)} {vs : List Value} {ps : List (Int × Int)}
theorem tups_kat {h : Heap} (N : News h₀ L h news) (T : Tups news vs ps) : ∃ fs : List Value, KatTups h vs fs ∧ fs.length = ps.length ∧ ∀ v ∈ fs, ∃ x t, v = Value.int x t := by
  induction T with
  | nil => exact ⟨[], .nil, rfl, fun _ h => nomatch h⟩
  | @cons a x y t u k vs ps hm _ ih =>
    obtain ⟨fs, h1, h2, h3⟩ := ih
    refine ⟨.int x t :: fs, .cons (N _ hm).1 rfl rfl rfl h1, by simp [h2], fun v hv => ?_⟩
    rcases List.mem_cons.mp hv with rfl | hv
    · exact ⟨x, t, rfl⟩
    · exact h3 v hv
theorem tup_sort {P : PySem.Fin → Shared → Prop} {n : Nat} (F : Fr h₀ L s.heap m) (N : News h₀ L s.heap news) (T : Tups news vs ps) (hz : ps.length < 128) (ho : s.heap.get? a = some (seqObj "list" vs.toArray n)) (haL : a ≠ L) (ha0 : h₀.get? a = none) (hna : ∀ p ∈ news, p.1 ≠ a)
    (h : ∀ c h', Fr h₀ L h' m → News h₀ L h' ((a, seqObj "list" (List.toArray ((sortL ps).map fun i => vs.getD i .none)) c) :: news) → P (.done (.ret .none)) { s with heap := h' }) :
    wpAny (model prog w) A (Builtin.«list.sort» ⟨[.ref a], []⟩) P E s := by
  have hl := T.len
  have ha : a < s.heap.objs.size := Heap.lt_size ho
  have s1 := Heap.SameBut.update s.heap a (Obj.mapSeq fun _ => (#[] : Array Value))
  obtain ⟨e1, ho1⟩ : ∃ e1, (s.heap.update a (Obj.mapSeq fun _ => (#[] : Array Value))).get? a = some (seqObj "list" #[] e1) := ⟨_, get?_update_seq ho fun _ => #[]⟩
  have F3 : Fr h₀ L (((s.heap.update a (Obj.mapSeq fun _ => (#[] : Array Value))).push (seqObj "tuple" vs.toArray 0)).push (seqObj "list" #[] 0)) m := ((kas_fr F s1 haL ha0).push _).push _
  have N2 : News h₀ L (((s.heap.update a (Obj.mapSeq fun _ => (#[] : Array Value))).push (seqObj "tuple" vs.toArray 0)).push (seqObj "list" #[] 0)) news :=
    (kas_news N s1 hna).grown fun b x e => Heap.get?_push_of_some _ (Heap.get?_push_of_some _ e)
  have ho3 := Heap.get?_push_of_some (seqObj "list" #[] 0) (Heap.get?_push_of_some (seqObj "tuple" vs.toArray 0) ho1)
  rw [list_sort_plain]
  refine wpAny_bind (listItems_at ho rfl ?_)
  refine wpAny_bind (listUpdate_at ho rfl ?_ (by rw [List.size_toArray, sizeLine_eq]; omega) (Nat.zero_le _))
  refine wpAny_bind (seqEpoch_at ho1 rfl ?_)
  refine wpAny_bind (wpAny_newTuple ?_ (by show vs.length ≤ _; rw [sizeLine_eq]; omega))
  refine wpAny_bind (wpAny_newList ?_ (Nat.zero_le _))
  refine wpAny_holding ?_
  show wpAny (model prog w) A _ P E { s with heap := ((s.heap.update a (Obj.mapSeq fun _ => (#[] : Array Value))).push (seqObj "tuple" vs.toArray 0)).push (seqObj "list" #[] 0) }
  dsimp only
  generalize hg : (((s.heap.update a (Obj.mapSeq fun _ => (#[] : Array Value))).push (seqObj "tuple" vs.toArray 0)).push (seqObj "list" #[] 0)) = g at F3 N2 ho3 ⊢
  have hsz : (List.toArray ((sortL ps).map fun i => vs.getD i Value.none)).size = vs.length := by rw [List.size_toArray, List.length_map, sortL_len, hl]
  by_cases h2 : vs.toArray.size < 2
  · rw [if_pos h2, if_pos h2]
    refine wpAny_bind (wpAny_pure ?_)
    rw [StateT.run_pure]
    refine wpAny_bind (wpAny_pure ?_)
    have h2' : vs.length < 2 := by rw [List.size_toArray] at h2; exact h2
    have hout : Array.map (fun x => x.snd) (arrOf (SortSt.mk' general' (vs.toArray.zip vs.toArray) #[] 7 none)) = List.toArray ((sortL ps).map fun i => vs.getD i Value.none) := by
      rw [sortL_small vs Value.none hl (by omega)]
      show Array.map (fun x => x.snd) (vs.toArray.zip vs.toArray) = vs.toArray
      exact Array.ext (by simp) fun i i1 i2 => by simp
    have hfail : failedOf (SortSt.mk' general' (vs.toArray.zip vs.toArray) #[] 7 none) = none := rfl
    dsimp only
    rw [hout]
    refine wpAny_bind (seqEpoch_at ho3 rfl ?_)
    refine wpAny_bind (listUpdate_at ho3 rfl ?_ (Nat.zero_le _) (Nat.le_trans (Nat.le_of_eq hsz) (by rw [sizeLine_eq]; omega)))
    (try rw [hfail])
    simp only [bne_self_eq_false, Bool.false_eq_true, if_false]
    have s2 := Heap.SameBut.update g a (Obj.mapSeq fun _ => List.toArray ((sortL ps).map fun i => vs.getD i Value.none))
    obtain ⟨c2, hc2⟩ : ∃ c2, (g.update a (Obj.mapSeq fun _ => List.toArray ((sortL ps).map fun i => vs.getD i Value.none))).get? a = some (seqObj "list" (List.toArray ((sortL ps).map fun i => vs.getD i Value.none)) c2) := ⟨_, get?_update_seq ho3 fun _ => List.toArray ((sortL ps).map fun i => vs.getD i Value.none)⟩
    refine wpAny_pure (h c2 _ (kas_fr F3 s2 haL ha0) fun p hp => ?_)
    rcases List.mem_cons.mp hp with rfl | hp
    · exact ⟨hc2, haL, ha0⟩
    · exact kas_news N2 s2 hna p hp
  · rw [if_neg h2, if_neg h2]
    have h2' : 2 ≤ ps.length := by rw [List.size_toArray] at h2; omega
    obtain ⟨fs, hk1, hk2, hk3⟩ := tups_kat N2 T
    refine wpAny_bind (kat_kind (T := .type "int") hk1 (by omega) (fun v hv => ?_) rfl ?_)
    · obtain ⟨x, t, rfl⟩ := hk3 v hv
      exact Looks.of_pure rfl
    have hsort := (det_out h2' hz).choose_spec.2
    have hix : sortIx ps = (det_out h2' hz).choose := by unfold sortIx; rw [dif_pos ⟨h2', hz⟩]
    rw [← hix] at hsort
    have hpos : 0 < ps.length := by omega
    have ok : ∀ (i j : Nat) (Q : Bool → Shared → Prop), Q (lessN ps i j) { s with heap := g } → wpAny (model prog w) A (keyLt' (tuples' true) (vs.getD (i % ps.length) Value.none) (vs.getD (j % ps.length) Value.none)) Q (fun _ _ => False) { s with heap := g } := by
      intro i j Q hq
      obtain ⟨a1, t1, u1, k1, e1, m1⟩ := T.get (i % ps.length) (Nat.mod_lt _ hpos)
      obtain ⟨a2, t2, u2, k2, e2, m2⟩ := T.get (j % ps.length) (Nat.mod_lt _ hpos)
      rw [e1, e2]
      exact key_lt (N2 _ m1).1 (N2 _ m2).1 hq
    have run := hsort ⟨prog, w, A, E, { s with heap := g }, tuples' true, fun i => (vs.getD (i % ps.length) Value.none, vs.getD (i % ps.length) Value.none), ok⟩
      (fun _ st => (arrOf st).map (·.2) = List.toArray ((sortL ps).map fun i => vs.getD i Value.none) ∧ failedOf st = none) (fun st h1 h2 => ⟨by
        rw [h1]
        apply Array.toList_inj.mp
        unfold sortL
        rw [Array.map_map, Array.toList_map, List.map_map]
        rfl, h2⟩)
    have est : SortSt.mk' (tuples' (Value.type "int" != Value.type "tuple")) (vs.toArray.zip vs.toArray) #[] 7 none = conc (less := lessN ps) ⟨prog, w, A, E, { s with heap := g }, tuples' true, fun i => (vs.getD (i % ps.length) Value.none, vs.getD (i % ps.length) Value.none), ok⟩ ⟨List.toArray (List.range ps.length), #[], 7⟩ := by
      show SortSt.mk' (tuples' true) (vs.toArray.zip vs.toArray) #[] 7 none = SortSt.mk' (tuples' true) ((List.toArray (List.range ps.length)).map fun i => (vs.getD (i % ps.length) Value.none, vs.getD (i % ps.length) Value.none)) #[] 7 none
      congr 1
      refine Array.ext (by simp [hl]) fun i i1 i2 => ?_
      have hi : i < vs.length := by simpa using i1
      have hm : i % ps.length = i := Nat.mod_eq_of_lt (by omega)
      simp [hm, hi]
    rw [← est] at run
    refine wpAny_bind (wpAny_mono run ?_ fun _ _ e => e)
    rintro ⟨⟨⟩, st'⟩ s' ⟨rfl, hout, hfail⟩
    dsimp only
    rw [hout]
    refine wpAny_bind (seqEpoch_at ho3 rfl ?_)
    refine wpAny_bind (listUpdate_at ho3 rfl ?_ (Nat.zero_le _) (Nat.le_trans (Nat.le_of_eq hsz) (by rw [sizeLine_eq]; omega)))
    (try rw [hfail])
    simp only [bne_self_eq_false, Bool.false_eq_true, if_false]
    have s2 := Heap.SameBut.update g a (Obj.mapSeq fun _ => List.toArray ((sortL ps).map fun i => vs.getD i Value.none))
    obtain ⟨c2, hc2⟩ : ∃ c2, (g.update a (Obj.mapSeq fun _ => List.toArray ((sortL ps).map fun i => vs.getD i Value.none))).get? a = some (seqObj "list" (List.toArray ((sortL ps).map fun i => vs.getD i Value.none)) c2) := ⟨_, get?_update_seq ho3 fun _ => List.toArray ((sortL ps).map fun i => vs.getD i Value.none)⟩
    refine wpAny_pure (h c2 _ (kas_fr F3 s2 haL ha0) fun p hp => ?_)
    rcases List.mem_cons.mp hp with rfl | hp
    · exact ⟨hc2, haL, ha0⟩
    · exact kas_news N2 s2 hna p hp
theorem tup_sorted {l : Addr} {Q : Value → Shared → Prop} (F : Fr h₀ L s.heap m) (N : News h₀ L s.heap news) (T : Tups news vs ps) (hz : ps.length < 128) (hl : s.heap.IsList l vs.toArray)
    (h : ∀ D c h', Fr h₀ L h' m → News h₀ L h' ((D, seqObj "list" (List.toArray ((sortL ps).map fun i => vs.getD i .none)) c) :: news) → (∀ q ∈ news, q.1 < D) → Q (.ref D) { s with heap := h' }) :
    wpAny (model prog w) A (call (.builtin "sorted") [.ref l]) Q E s := by
  have hlen := T.len
  refine Calls.call_function_entry kind_sorted plain_sorted entry_sorted (args_sorted1 _) ?_
  unfold Builtin.«sorted»
  refine wpAny_bind (m := checkCount "sorted" 1 1 _) (wpAny_pure ?_)
  refine wpAny_bind (collect_list hl ?_ (by rw [sizeLine_eq]; omega))
  refine wpAny_bind (wpAny_newList ?_ (by rw [sizeLine_eq]; omega))
  have hsz : ((s.heap.push (seqObj "list" #[] 0)).update s.heap.objs.size (Obj.mapSeq (· ++ vs.toArray))).objs.size = s.heap.objs.size + 1 := by
    rw [Heap.size_update, size_push']
  have hoL : (((s.heap.push (seqObj "list" #[] 0)).update s.heap.objs.size (Obj.mapSeq (· ++ vs.toArray))).push (seqObj "list" vs.toArray 0)).get? (s.heap.objs.size + 1) = some (seqObj "list" vs.toArray 0) := by
    rw [← hsz]; exact Heap.get?_push_size _ rfl
  have keep : ∀ b o, s.heap.get? b = some o → (((s.heap.push (seqObj "list" #[] 0)).update s.heap.objs.size (Obj.mapSeq (· ++ vs.toArray))).push (seqObj "list" vs.toArray 0)).get? b = some o := fun b o q => by
    have hlt : b < s.heap.objs.size := Heap.lt_size q
    rw [Heap.get?_push_ne _ _ _ (by rw [hsz]; exact Nat.ne_of_lt (Nat.lt_succ_of_lt hlt)), Heap.get?_update_ne _ _ _ _ (Nat.ne_of_lt hlt), Heap.get?_push_ne _ _ _ (Nat.ne_of_lt hlt)]
    exact q
  have hL : L < s.heap.objs.size := F.ns.lt
  show wpAny _ _ _ _ _ { s with heap := ((s.heap.push (seqObj "list" #[] 0)).update s.heap.objs.size (Obj.mapSeq (· ++ vs.toArray))).push (seqObj "list" vs.toArray 0) }
  rw [hsz]
  refine wpAny_bind (wpAny_holding (wpAny_call_entry slot_list_sort ⟨_, hoL, rfl⟩ entry_list_sort ?body (args_list_sort _)))
  case body =>
    refine tup_sort (s := { s with heap := ((s.heap.push (seqObj "list" #[] 0)).update s.heap.objs.size (Obj.mapSeq (· ++ vs.toArray))).push (seqObj "list" vs.toArray 0) })
      (F.kept keep) (N.grown keep) T hz hoL (Nat.ne_of_gt (Nat.lt_succ_of_lt hL)) (Heap.get?_none_of_le (Nat.le_trans F.above (Nat.le_succ_of_le (Nat.le_of_lt hL))))
      (fun p hp => Nat.ne_of_lt (Nat.lt_succ_of_lt (Heap.lt_size (N p hp).1))) fun c h' F' N' => ?_
    exact ⟨_, rfl, wpAny_pure ⟨_, rfl, h _ c h' F' N' fun q hq => Nat.lt_succ_of_lt (Heap.lt_size (N q hq).1)⟩⟩
theorem tups_reads {h : Heap} (N : News h₀ L h news) (T : Tups news vs ps) : ReadsAll h vs (ps.map fun p => PyData.tuple [.int p.1, .int p.2]) [] := by
  induction T with
  | nil => exact .nil
  | @cons a x y t u k vs ps hm _ ih => exact .cons (as := []) (.tuple (as := []) (N _ hm).1 rfl rfl (.cons (as := []) (.int _ _) (.cons (as := []) (.int _ _) .nil))) ih
theorem tups_eqv : ∀ ps : List (Int × Int), PyData.eqvAll (ps.map fun p => PyData.tuple [.int p.1, .int p.2]) (ps.map fun p => PyData.tuple [.int p.1, .int p.2]) = true
  | [] => by simp [PyData.eqvAll]
  | p :: ps => by simp [PyData.eqvAll, PyData.eqv, tups_eqv ps]
theorem tups_lay : ∀ ps : List (Int × Int), PyData.canLayAll0 (ps.map fun p => PyData.tuple [.int p.1, .int p.2]) = true
  | [] => by simp [PyData.canLayAll0]
  | p :: ps => by simp [PyData.canLayAll0, PyData.canLay0, tups_lay ps]
theorem tups_depth : ∀ ps : List (Int × Int), PyData.depthAll (ps.map fun p => PyData.tuple [.int p.1, .int p.2]) ≤ 1
  | [] => by simp [PyData.depthAll]
  | p :: ps => by have := tups_depth ps; simp [PyData.depthAll, PyData.depth]; omega
theorem tups_shaped (ps : List (Int × Int)) : SeqAt.shaped (.list (ps.map fun p => PyData.tuple [.int p.1, .int p.2])) = true := by
  have := tups_depth ps
  simp [SeqAt.shaped, PyData.canLay0, PyData.depth, tups_lay]
  omega
theorem tup_eq {D1 D2 : Addr} {vs1 vs2 : List Value} {c1 c2 : Nat} {Q : Value → Shared → Prop} (N : News h₀ L s.heap news) (m1 : (D1, seqObj "list" vs1.toArray c1) ∈ news) (m2 : (D2, seqObj "list" vs2.toArray c2) ∈ news) (T1 : Tups news vs1 ps) (T2 : Tups news vs2 ps) (hu : A.units + 64 < cLine) (h : Q (.bool true) s) :
    wpAny (model prog w) A (compareOp .Eq (.ref D1) (.ref D2)) Q E s := by
  refine eq_dataH (.list (N _ m1).1 rfl rfl (by simpa using tups_reads N T1)) (.list (N _ m2).1 rfl rfl (by simpa using tups_reads N T2)) (tups_shaped ps) (tups_shaped ps) hu ?_
  rw [show PyData.eqv (.list (ps.map fun p => PyData.tuple [.int p.1, .int p.2])) (.list (ps.map fun p => PyData.tuple [.int p.1, .int p.2])) = true by simp only [PyData.eqv]; exact tups_eqv ps]
  exact h
end
end

example : True := by
  k_with "eval ListComp" => (((with_reducible rename Mine.CompMark => lM9); refine stop_intro ?_))
  k_with "call builtin:sorted" => (((with_reducible rename Mine.SortMark => lM9); refine stop_intro ?_))
  k_with "DictSrcT" => (refine stop_intro ?_)
  k_with "CompEnd" => (((with_reducible rename Mine.CompMark => lM9); refine stop_intro ?_))
  k_with "subscriptTail" => ((k_here; (with_reducible rename Mine.CompMark => lM9); (with_reducible show wpAny _ _ (subscriptTail _ _ (Value.ref _) (Value.int _ _)) _ _ _); k_dflt (refine Mine.item_anyK (by k_tabat) (by assumption) ?_); intro _))
  k_with "call ref" => ((k_here; (with_reducible show wpAny _ _ (PySem.call (Value.ref 398) _ _) _ _ _); k_dflt (refine' Mine.c_written ?B ?F ?X ?T ?k ?N ?mMea ?mMeb ?mH ?D ?hc ?hun ?d ?_; (case B => k_asm); (case F => k_asm); (case X => k_asm); (case T => k_asm); (case k => first | exact rfl | assumption); (case N => k_asm); (case mMea => k_mem); (case mMeb => k_mem); (case mH => k_mem); (case D => k_asm); (case hun => ktr_units); (case hc => omega); (case d => ktr_room)); intro D' vs' n' news' h' tk' F' N' sub' T9'; (try dsimp only at N'); (try k_sweep)))
  trivial
theorem item_anyK {prog : Program} {w : World} {A : Around} {E : Value → Shared → Prop} {s : Shared} {d : Addr} {c : List (Int × Int)} {k : Int} {tk : Tok} {value slice : PySem.Expr} {Q : Value → Shared → Prop} (T : IntTab prog w s.heap d (kdfD c)) (hk : kdfHas c k = true) (h : ∀ t, Q (.int (kdfLook c k 0) t) { s with toks := s.toks + 1 })
    (hs : subscripted slice false (.ref d) (.int k tk) = operate [.ref d, .int k tk] (getItem (.ref d) (.int k tk)) := by with_unfolding_all rfl) :
    wpAny (model prog w) A (subscriptTail value slice (.ref d) (.int k tk)) Q E s :=
  item_tab_any PyProof.V.same_int (intKind_is prog w k tk) T (kdfD_item hk) (fun v hv => by
    obtain ⟨t, ht⟩ := PyProof.V.Flat.int_inv hv
    rw [ht]
    exact h t) hs
structure CompMark : Prop where
structure SortMark : Prop where
/-- the pairs of a dict of ints whose value is not nought, as the comprehension meets them -/
noncomputable def nzs (c : List (Int × Int)) (ks : List Int) : List (Int × Int) := ks.filterMap fun k => if kdfLook c k 0 = 0 then none else some (k, kdfLook c k 0)
theorem nzs_len (c : List (Int × Int)) (ks : List Int) : (nzs c ks).length ≤ ks.length := List.length_filterMap_le _ _
theorem keys_take {c : List (Int × Int)} {i : Nat} {p : Int × Int} (h : c[i]? = some p) : (c.map (·.1)).take (i + 1) = (c.map (·.1)).take i ++ [p.1] := by
  rw [List.take_add_one, List.getElem?_map, h]; rfl
theorem nzs_yes {c : List (Int × Int)} {i : Nat} {p : Int × Int} (h : c[i]? = some p) (h0 : kdfLook c p.1 0 ≠ 0) : nzs c ((c.map (·.1)).take (i + 1)) = nzs c ((c.map (·.1)).take i) ++ [(p.1, kdfLook c p.1 0)] := by
  rw [keys_take h]
  unfold nzs
  rw [List.filterMap_append, List.filterMap_cons, if_neg h0]
  rfl
theorem nzs_no {c : List (Int × Int)} {i : Nat} {p : Int × Int} (h : c[i]? = some p) (h0 : kdfLook c p.1 0 = 0) : nzs c ((c.map (·.1)).take (i + 1)) = nzs c ((c.map (·.1)).take i) := by
  rw [keys_take h]
  unfold nzs
  rw [List.filterMap_append, List.filterMap_cons, if_pos h0, List.filterMap_nil, List.append_nil]
noncomputable def TupInv (base : List (Addr × Obj)) (c : List (Int × Int)) (i : Nat) (ys : List Value) (nw : List (Addr × Obj)) : Prop := (∀ p ∈ base, p ∈ nw) ∧ Tups nw ys (nzs c ((c.map (·.1)).take i))
theorem TupInv.yes {base : List (Addr × Obj)} {c : List (Int × Int)} {i : Nat} {ys : List Value} {nw : List (Addr × Obj)} {p : Int × Int} {q : Addr} {t u : Tok} {k : Nat} (h : TupInv base c i ys nw) (hp : c[i]? = some p) (h0 : kdfLook c p.1 0 ≠ 0) : TupInv base c (i + 1) (ys ++ [.ref q]) ((q, tupO p.1 (kdfLook c p.1 0) t u k) :: nw) :=
  ⟨fun r hr => .tail _ (h.1 r hr), by rw [nzs_yes hp h0]; exact Tups.app (h.2.mono fun r hr => .tail _ hr) (.cons (.head _) .nil)⟩
theorem TupInv.no {base : List (Addr × Obj)} {c : List (Int × Int)} {i : Nat} {ys : List Value} {nw : List (Addr × Obj)} {p : Int × Int} (h : TupInv base c i ys nw) (hp : c[i]? = some p) (h0 : kdfLook c p.1 0 = 0) : TupInv base c (i + 1) ys nw :=
  ⟨h.1, by rw [nzs_no hp h0]; exact h.2⟩
theorem off_q {I C D q : Addr} {oq : Obj} {nw : List (Addr × Obj)} (ho : PyProof.Rows.LCg.Off3 I C D nw) (h1 : I < q) (h2 : C < q) (h3 : D < q) : PyProof.Rows.LCg.Off3 I C D ((q, oq) :: nw) := ⟨⟨Nat.ne_of_gt h1, Nat.ne_of_gt h2, Nat.ne_of_gt h3⟩, ho⟩
theorem sub_q {α : Type} {a b c q : α} {l : List α} : ∀ p ∈ a :: b :: c :: q :: l, p ∈ q :: a :: b :: c :: l := by
  intro p hp
  simp only [List.mem_cons] at hp ⊢
  rcases hp with h | h | h | h | h <;> simp only [h, true_or, or_true]
section
variable {w : World} {dp un : Nat} {gd : Option (List Code)} {cn : Str} {cs : Scope} {a : Addr} {ccd : Value} {cl : List (Str × Addr)} {outer : List Env} {A₀ : Around} {base h₀ : Heap} {L : Addr} {m : Str → Option Value} {stH : Heap} {stG : Array GenState} {stD : Drawn} {stT : Nat} {stO : OsState} {Q E : Value → Shared → Prop} {p : Program} {loose : List Str} {mean : ExcName → Option Value} {mg mb : Str → Option Value} {news : List (Addr × Obj)}
    (B : Below A₀ base outer h₀) (F : Fr h₀ L stH m) (X : (hd.heap_39 w.params).In h₀) (T : Top p loose mean mg mb h₀) (hk : cs.kind = .function) (N : News h₀ L stH news)
include B F X T hk N
theorem c_written {Me : Addr} {H : Addr} {dMe : Addr} {hMe0 : Int} {kMe0 : Tok} {oH : Obj} {c : List (Int × Int)} (mMea : (Me, instObj 429 dMe) ∈ news) (mMeb : (dMe, dictOf [⟨hMe0, .str (Str.ofString "held") kMe0, .ref H⟩] 1) ∈ news) (mH : (H, oH) ∈ news) (D : DI w H oH c) (hc : c.length < 128) (hun : un + 400 < cLine) (hdp : dp + 12 < recursionLimit)
    (ret : ∀ D vs' n' news' h' tk', Fr h₀ L h' m → News h₀ L h' ((D, seqObj "list" (List.toArray ((sortL (nzs c (c.map (·.1)))).map fun i => vs'.getD i .none)) n') :: news') → (∀ p ∈ news, p ∈ news') → Tups news' vs' (nzs c (c.map (·.1))) → Q (.ref D) ⟨h', stG, stD, tk', stO⟩) :
    wpAny (model PySem.Challenge.rw_nn0065_01.row.prog w) (ktrTop dp un gd cn cs L a ccd cl outer) (call (.ref 398) [.ref Me]) Q E ⟨stH, stG, stD, stT, stO⟩ := by
  obtain ⟨lo, kvs, hd, hf, ho⟩ := D
  k_dflt (refine' wpAny_call (code_defC (binds := [(Str.ofString "self", .ref Me)]) ?k1 ?k2 ?k3 ?k4 ?k5 ?kA ?kF ?kK ?k6 ?k7 ?k8 ?k9 ?kB ?kD ?_ ?c2 ?c3 ?c4); (case kA => exact rfl); (case kF => exact rfl); (case kK => assumption); (case k1 => k_asm); (case k2 => k_asm); (case k3 => k_asm); (case k4 => k_asm); (case k5 => k_asm); (case k6 => k_is); (case k7 => k_is); (case k8 => ktr_room); (case k9 => exact BindsTo.of_eq rfl); (case kB => exact rfl); (case kD => decide +kernel); (case c2 => exact rfl); (case c3 => exact rfl); (case c4 => exact rfl); k_whole; intro g' L' h' tk' cells' FG' F' N' Y' B' X' T' lt'; k_cells Y'; (try simp only [List.cons_append, List.nil_append] at N'); (try dsimp only); (try k_fold))
  have hlen : kvs.length = c.length := by rw [← hf.length, kdfD_length]
  have lC := CompMark.mk
  have lS := SortMark.mk
  k_steps
  refine stop_out ?_
  k_dflt (refine ListComp_TD (F₀ := by k_asm) (by with_unfolding_all rfl) (by decide) (by rfl) (by decide) (by rfl) ?_)
  k_steps
  refine stop_out ?_
  (rename Fr _ _ _ _ => F9)
  (rename News _ _ _ _ => N9)
  refine ⟨H, oH, kvs, _, rfl, rfl, lo, F9, N9, .tail _ mH, hd, (by rw [hlen, sizeLine_eq]; omega), ?_⟩
  rintro s₂ ⟨g9, rfl⟩
  refine comp_turns (n := kvs.length) (TupInv (_ :: news) c) ?_ ?_ _ 0 [] _ (Nat.zero_add _) ⟨fun p hp => hp, .nil⟩
  · intro i ys nw hi hI v I oI C oC D m₂ h8 tk8 E8 hP hC hx F8 N8 off8 ne8
    obtain ⟨k, y, hk9, hv⟩ := hP
    obtain ⟨t8, rfl⟩ := Value.isInt_shape hv
    obtain ⟨p9, hp9, rfl⟩ := keyAt hf hk9
    have hh9 := hasAt hp9
    have q1 := Heap.lt_size (N8 _ (.head _)).1
    have q2 := Heap.lt_size (N8 _ (.tail _ (.head _))).1
    have q3 := Heap.lt_size (N8 _ (.tail _ (.tail _ (.head _)))).1
    have m1 := hI.1 _ (.head _)
    have m2 := hI.1 _ (.tail _ mMea)
    have m3 := hI.1 _ (.tail _ mMeb)
    have m4 := hI.1 _ (.tail _ mH)
    clear F9 N9 hk9 hv mMea mMeb mH ret FG' N B' B F T
    k_steps
    · refine stop_out ?_
      (rename Fr _ _ _ _ => F7)
      (rename News _ _ _ _ => N7)
      refine PyProof.Rows.LCg.CompEnd.intro F7 N7 (_ :: nw) sub_q (off_q off8 q1 q2 q3) (.tail _ m4) ?_
      exact TupInv.yes (k := 0) hI hp9 (by first | assumption | omega)
    · (rename Fr _ _ _ _ => F7)
      (rename News _ _ _ _ => N7)
      exact PyProof.Rows.LCg.CompEnd.intro F7 N7 nw (fun p hp => hp) off8 m4 (TupInv.no hI hp9 (by first | assumption | omega))
  · intro ys nw hI
    clear F9 N9
    intro D8 h8 tk8 F8 N8 o8
    have T8 := hI.2
    rw [List.take_of_length_le (by rw [List.length_map, hlen]; exact Nat.le_refl _)] at T8
    have s8 := hI.1
    clear hI o8
    k_steps
    refine stop_out ?_
    (rename Fr g' L' _ _ => F7)
    (rename News g' L' _ _ => N7)
    refine tup_sorted (ps := nzs c (c.map (·.1))) (vs := ys) F7 N7 (T8.mono fun p hp => .tail _ hp) (Nat.lt_of_le_of_lt (nzs_len _ _) (by rw [List.length_map]; exact hc)) ⟨_, (N7 _ (.head _)).1, rfl, _, rfl⟩ ?_
    intro D9 c9 h9 F6 N6 hlt6
    clear F7 N7 hlt6
    (try dsimp only)
    k_steps
    (rename Fr h₀ L _ _ => F5)
    (rename News h₀ L _ _ => N5)
    exact ret D9 ys _ (_ :: nw) _ _ F5 N5 (fun p hp => .tail _ (s8 p (.tail _ hp))) (T8.mono fun p hp => .tail _ hp)
end
example : True := by
  k_with "compareOp Eq ref ref" => (((with_reducible rename Mine.EqMark => lM9); refine stop_intro ?_))
  trivial
structure EqMark : Prop where
theorem stage10_ {w : World} {h₀ : Heap} {s : Shared} {L : Addr} {p : Program} {loose : List Str} {mean : ExcName → Option Value} {mg mb : Str → Option Value} {Q : Flow → Shared → Prop} {l : Addr} {vs : List Value} {ns : List Int} {fa : Addr} {cd : Value} {W HD Bt : Addr} {vsW : List Value} {nW nB : Nat} {oD : Obj} {tb0 tb1 tb2 tb3 tb4 tb5 tb6 : Tok} {S R Xm Fl Me Sg : Addr} {rip : Int} {trip tbg : Tok} {dS : Addr} {hS0 hS1 hS2 hS3 hS4 hS5 hS6 hS7 hS8 : Int} {kS0 kS1 kS2 kS3 kS4 kS5 kS6 kS7 kS8 : Tok} {vsR : List Value}  {nR : Nat} {H : Addr} {dMe : Addr} {hMe0 : Int} {kMe0 : Tok} {oH : Obj} {c : List (Int × Int)} {b0 b1 b2 b3 b4 b5 b6 : Int} {tf0 tf1 tf2 tf3 tf4 tf5 tf6 : Tok} {dFl : Addr} {hFl0 hFl1 hFl2 hFl3 hFl4 hFl5 hFl6 : Int} {kFl0 kFl1 kFl2 kFl3 kFl4 kFl5 kFl6 : Tok} {rest : List (Addr × Obj)} {oHc oSc : Obj} {up uc uw uo ut uf ud uu us : Option Value} (X : (hd.heap_39 w.params).In h₀) (T : Top p loose mean mg mb h₀) (B : Below callerA h₀ [] h₀) (hl : h₀.IsList l vs.toArray) (hi : IntsAre vs ns) (hn : ns.length < 64)
  (F : Fr h₀ L s.heap (fun y => if y = Str.ofString "cell" then uc else if y = Str.ofString "way" then uw else if y = Str.ofString "one" then uo else if y = Str.ofString "other" then ut else if y = Str.ofString "far" then uf else if y = Str.ofString "place" then up else if y = Str.ofString "deed" then ud else if y = Str.ofString "bits" then some (.ref Bt) else if y = Str.ofString "did" then uu else if y = Str.ofString "spot" then us else if y = Str.ofString "state" then some (.ref S) else if y = Str.ofString "worths" then some (.ref W) else none)) (N : News h₀ L s.heap ((W, listOf vsW.toArray nW) :: (HD, oD) :: (R, listOf vsR.toArray nR) :: (H, oH) :: (dS, dictOf [⟨hS0, .str (Str.ofString "iset") kS0, .none⟩, ⟨hS1, .str (Str.ofString "regs") kS1, .ref R⟩, ⟨hS2, .str (Str.ofString "xmm") kS2, .ref Xm⟩, ⟨hS3, .str (Str.ofString "flags") kS3, .ref Fl⟩, ⟨hS4, .str (Str.ofString "memory") kS4, .ref Me⟩, ⟨hS5, .str (Str.ofString "rip") kS5, .int rip trip⟩, ⟨hS6, .str (Str.ofString "begin") kS6, .int 0 tbg⟩, ⟨hS7, .str (Str.ofString "segments") kS7, .ref Sg⟩, ⟨hS8, .str (Str.ofString "is_halted") kS8, .bool false⟩] 9) :: (dFl, dictOf [⟨hFl0, .str (Str.ofString "cf") kFl0, .int b0 tf0⟩, ⟨hFl1, .str (Str.ofString "pf") kFl1, .int b1 tf1⟩, ⟨hFl2, .str (Str.ofString "af") kFl2, .int b2 tf2⟩, ⟨hFl3, .str (Str.ofString "zf") kFl3, .int b3 tf3⟩, ⟨hFl4, .str (Str.ofString "sf") kFl4, .int b4 tf4⟩, ⟨hFl5, .str (Str.ofString "of") kFl5, .int b5 tf5⟩, ⟨hFl6, .str (Str.ofString "df") kFl6, .int b6 tf6⟩] 7) :: rest)) (mS : (S, instObj 546 dS) ∈ rest) (mF : (Fl, instObj 174 dFl) ∈ rest) (mM : (Me, instObj 429 dMe) ∈ rest) (mMd : (dMe, dictOf [⟨hMe0, .str (Str.ofString "held") kMe0, .ref H⟩] 1) ∈ rest) (mB : (Bt, { cls := .type "tuple", data := .seq (List.toArray [.int b0 tb0, .int b1 tb1, .int b2 tb2, .int b3 tb3, .int b4 tb4, .int b5 tb5, .int b6 tb6]) nB }) ∈ rest) (mHc : (L + 2, oHc) ∈ rest) (mSc : (L + 1, oSc) ∈ rest) (dHc : oHc.data = .cell (some (.ref HD))) (dSc : oSc.data = .cell (some (.ref l))) (ap : Apart W HD R H dS dFl rest) (D1 : DI w HD oD c) (D2 : DI w H oH c) (hc : c.length < 128)
  (ret : ∀ h' tk' m', Fr h₀ L h' m' → Q (.ret (.bool true)) { s with heap := h', toks := tk' }) : ∀ st, lawSt = some st → RestGoal w fa cd L 10 Q s st := by
  refine' law_open ?k ?_
  (case k => exact rfl)
  intro hst
  show wpAny _ _ (execs (List.cons _ _) _) _ _ _
  clear hst
  have lQ := QuickMark.mk
  have lC := CompMark.mk
  have lS := SortMark.mk
  have lE := EqMark.mk
  k_steps
  refine stop_out ?_
  (rename Fr h₀ L _ _ => F9)
  (rename News h₀ L _ _ => N9)
  (rename Tups _ _ _ => T9)
  (rename ∀ p ∈ _, p ∈ _ => sub9)
  have nHD := sub9 (HD, oD) (.tail _ (.head _))
  have nHc := sub9 (L + 2, oHc) (.tail _ (.tail _ (.tail _ (.tail _ (.tail _ (.tail _ mHc))))))
  clear sub9 D2 mS mF mM mMd mB mHc mSc ap
  (try clear F)
  (try clear N)
  obtain ⟨lo, kvs, hd, hf, ho⟩ := D1
  have hlen : kvs.length = c.length := by rw [← hf.length, kdfD_length]
  k_dflt (refine ListComp_TD (F₀ := F9) (by with_unfolding_all rfl) (by decide) (by rfl) (by decide) (by rfl) ?_)
  k_steps
  refine stop_out ?_
  refine ⟨HD, oD, kvs, _, rfl, rfl, lo, F9, N9, .tail _ nHD, hd, (by rw [hlen, sizeLine_eq]; omega), ?_⟩
  rintro s₂ ⟨g9, rfl⟩
  refine comp_turns (n := kvs.length) (TupInv (_ :: _) c) ?_ ?_ _ 0 [] _ (Nat.zero_add _) ⟨fun p hp => hp, .nil⟩
  · intro i ys nw hi9 hI v I oI C oC D m₂ h8 tk8 E8 hP hC hx F8 N8 off8 ne8
    obtain ⟨k, y, hk9, hv⟩ := hP
    obtain ⟨t8, rfl⟩ := Value.isInt_shape hv
    obtain ⟨p9, hp9, rfl⟩ := keyAt hf hk9
    have hh9 := hasAt hp9
    have q1 := Heap.lt_size (N8 _ (.head _)).1
    have q2 := Heap.lt_size (N8 _ (.tail _ (.head _))).1
    have q3 := Heap.lt_size (N8 _ (.tail _ (.tail _ (.head _)))).1
    have m1 := hI.1 _ (.tail _ nHc)
    have m4 := hI.1 _ (.tail _ nHD)
    clear F9 N9 hk9 hv nHD nHc ret T9
    k_steps
    · refine stop_out ?_
      (rename Fr _ _ _ _ => F7)
      (rename News _ _ _ _ => N7)
      refine PyProof.Rows.LCg.CompEnd.intro F7 N7 (_ :: nw) sub_q (off_q off8 q1 q2 q3) (.tail _ m4) ?_
      exact TupInv.yes (k := 0) hI hp9 (by first | assumption | omega)
    · (rename Fr _ _ _ _ => F7)
      (rename News _ _ _ _ => N7)
      exact PyProof.Rows.LCg.CompEnd.intro F7 N7 nw (fun p hp => hp) off8 m4 (TupInv.no hI hp9 (by first | assumption | omega))
  · intro ys nw hI
    intro D8 h8 tk8 F8 N8 o8
    have T8 := hI.2
    rw [List.take_of_length_le (by rw [List.length_map, hlen]; exact Nat.le_refl _)] at T8
    have s8 := hI.1
    have mD := s8 _ (.head _)
    have T7 := T9.mono (l' := nw) fun p hp => s8 p (.tail _ hp)
    clear hI o8 F9 N9 s8 T9 nHD nHc
    k_steps
    refine stop_out ?_
    (rename Fr h₀ L _ _ => F7)
    (rename News h₀ L _ _ => N7)
    refine tup_sorted (ps := nzs c (c.map (·.1))) (vs := ys) F7 N7 (T8.mono fun p hp => .tail _ hp) (Nat.lt_of_le_of_lt (nzs_len _ _) (by rw [List.length_map]; exact hc)) ⟨_, (N7 _ (.head _)).1, rfl, _, rfl⟩ ?_
    intro D9 c9 h9 F6 N6 hlt6
    clear F7 N7 hlt6
    (try dsimp only)
    k_steps
    refine stop_out ?_
    (rename Fr h₀ L _ _ => F5)
    (rename News h₀ L _ _ => N5)
    k_dflt (refine tup_eq (ps := (sortL (nzs c (c.map (·.1)))).map fun i => (nzs c (c.map (·.1))).getD i (0, 0)) N5 (.tail _ (.tail _ mD)) (.head _) ((T7.pick _ sortL_lt).mono fun p hp => .tail _ (.tail _ hp)) ((T8.pick _ sortL_lt).mono fun p hp => .tail _ (.tail _ hp)) ?hu ?_)
    case hu => ktr_units
    k_steps
    exact ret _ _ _ F5
theorem stage10 : Stage10 := stage10_

theorem law_end {M : Model} {A : Around} {α : Type} {m : Sem α} {Q : α → Shared → Prop} {E : Value → Shared → Prop} {s : Shared} (h : wpAny M A m Q (fun _ _ => False) s) : wpAny M A m Q E s := wpAny_mono h (fun _ _ h => h) fun _ _ e => e.elim
theorem main_ : PySem.Challenge.rw_nn0065_01.Holds := hd (by
  k_go0
  (rename Frag.In _ _ => X9)
  (rename Top _ _ _ _ _ _ => T9)
  (rename Below _ _ _ _ => B9)
  (rename Fr _ _ _ _ => F9)
  (rename News _ _ _ _ => N9)
  (rename PySem.Heap.IsList _ _ _ => L9)
  (rename IntsAre _ _ => I9)
  refine law_end ?_
  refine law_thm (stageA (stageB (stageC (stage7 (stage8 stage10))))) X9 T9 B9 (fr_to F9 fun y => rfl) N9 ?dS ?dH L9 I9 (by omega) ?rt _ rfl
  case dS => assumption
  case dH => assumption
  case rt =>
    intro h' tk' m' F'
    (try dsimp only)
    k_steps)

end Mine
theorem PySem.Challenge.cw_nn0065_01_holds : PySem.Challenge.rw_nn0065_01.Holds := by
  exact Mine.main_
