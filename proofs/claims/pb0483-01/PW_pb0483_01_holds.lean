import PyProof.Rows.All
import Wide.All
import OpenK.AllK
import Wide.FinOn
import Lean
import PySem.Challenge.RW_pb0483_01
open PySem PySem.W PyProof.Rows
set_option Elab.async false
set_option maxRecDepth 100000
set_option maxHeartbeats 8000000
set_option rowWalk.seconds 0
set_option compiler.extract_closed false
set_option hygiene false
def Mine.c0 : Str := "x"
def Mine.c1 : Str := "x"
theorem Mine.e0 : Mine.c1 = Mine.c0 := rfl
name_quick tw16864618592142003386 for Mine.c0 by Mine.e0
name_quick tw14904681115217272601 for Mine.c0 by Mine.e0
name_quick tw11898673842065290130 for Mine.c0 by Mine.e0
name_quick tw12592172766608505503 for Mine.c0 by Mine.e0
name_quick tw4684226298888400098 for Mine.c0 by Mine.e0
name_quick tw15235614512728720 for Mine.c0 by Mine.e0
name_quick tw3520257249291928256 for Mine.c0 by Mine.e0
name_quick tw13913613514976480042 for Mine.c0 by Mine.e0
name_quick tw6128106870883400570 for Mine.c0 by Mine.e0
name_quick tw16053306600634468012 for Mine.c0 by Mine.e0
name_quick tw4903002758410956813 for Mine.c0 by Mine.e0
name_quick tw8060666987683057360 for Mine.c0 by Mine.e0
name_quick tw16217903435359918192 for Mine.c0 by Mine.e0
name_quick tw561727478393794602 for Mine.c0 by Mine.e0
name_quick tw4683681711962371626 for Mine.c0 by Mine.e0
name_quick tw16822532161544500889 for Mine.c0 by Mine.e0
name_quick tw2187251505897268136 for Mine.c0 by Mine.e0
name_quick tw11024694936033576346 for Mine.c0 by Mine.e0
name_quick tw12188032599808994241 for Mine.c0 by Mine.e0
name_quick tw2629151800749243262 for Mine.c0 by Mine.e0
name_quick tw13462424878891718212 for Mine.c0 by Mine.e0
name_quick tw13861969467909019144 for Mine.c0 by Mine.e0
name_quick tw855453113358079251 for Mine.c0 by Mine.e0
name_quick tw6953138203311097117 for Mine.c0 by Mine.e0
name_quick tw6148498323302512570 for Mine.c0 by Mine.e0
name_quick tw11738243743197964597 for Mine.c0 by Mine.e0
name_quick tw8739830900816887780 for Mine.c0 by Mine.e0
name_quick tw4734895289157585001 for Mine.c0 by Mine.e0
name_quick tw3308634892276815127 for Mine.c0 by Mine.e0
name_quick tw4323258101793500111 for Mine.c0 by Mine.e0
name_quick tw8318101203651539667 for Mine.c0 by Mine.e0
name_quick tw14689541978594310382 for Mine.c0 by Mine.e0
name_quick tw10741264400317747893 for Mine.c0 by Mine.e0
name_quick tw2399617604181995578 for Mine.c0 by Mine.e0
name_quick tw11401859456886640639 for Mine.c0 by Mine.e0
name_quick tw2474200967059427378 for Mine.c0 by Mine.e0
name_quick tw10294118229990073760 for Mine.c0 by Mine.e0
name_quick tw18101783494082082527 for Mine.c0 by Mine.e0
name_quick tw866717566613908145 for Mine.c0 by Mine.e0
name_quick tw15240619367488684849 for Mine.c0 by Mine.e0
name_quick tw15166322114958858414 for Mine.c0 by Mine.e0
name_quick tw9113380124883318265 for Mine.c0 by Mine.e0
name_quick tw15621415185263527259 for Mine.c0 by Mine.e0
name_quick tw14219159868682941630 for Mine.c0 by Mine.e0
name_quick tw13034982811429478159 for Mine.c0 by Mine.e0
name_quick tw12887044766017154078 for Mine.c0 by Mine.e0
name_quick tw7217548393331319763 for Mine.c0 by Mine.e0
name_quick tw4971374062829452455 for Mine.c0 by Mine.e0
name_quick tw16636501806038632012 for Mine.c0 by Mine.e0
name_quick tw15254633091992210921 for Mine.c0 by Mine.e0
name_quick tw15214748959534726111 for Mine.c0 by Mine.e0
name_quick tw8047209995159408440 for Mine.c0 by Mine.e0
name_quick tw6557801498797044033 for Mine.c0 by Mine.e0
name_quick tw11564986514327137767 for Mine.c0 by Mine.e0
name_quick tw11962351593759143498 for Mine.c0 by Mine.e0
name_quick tw13769103115541136327 for Mine.c0 by Mine.e0
name_quick tw17214186515701724070 for Mine.c0 by Mine.e0
name_quick tw9592521066531166775 for Mine.c0 by Mine.e0
name_quick tw9461873434466728008 for Mine.c0 by Mine.e0
name_quick tw6056707288978253535 for Mine.c0 by Mine.e0
name_quick tw1378205811072252300 for Mine.c0 by Mine.e0
name_quick tw6522051377940421278 for Mine.c0 by Mine.e0
name_quick tw2827255003249426055 for Mine.c0 by Mine.e0
name_quick tw11692469974320434101 for Mine.c0 by Mine.e0
name_quick tw8374155422468719031 for Mine.c0 by Mine.e0
name_quick tw4562827626845409882 for Mine.c0 by Mine.e0
name_quick tw11888710085139899048 for Mine.c0 by Mine.e0
name_quick tw18383651708701053236 for Mine.c0 by Mine.e0
name_quick tw10338398162516547025 for Mine.c0 by Mine.e0
name_quick tw18367749455379333440 for Mine.c0 by Mine.e0
name_quick tw1342123614928995077 for Mine.c0 by Mine.e0
name_quick tw16902440903046159558 for Mine.c0 by Mine.e0
name_quick tw8752102160057688731 for Mine.c0 by Mine.e0
name_quick tw4075453323654395381 for Mine.c0 by Mine.e0
name_quick tw14341141199694864594 for Mine.c0 by Mine.e0
name_quick tw2295934692909999376 for Mine.c0 by Mine.e0
name_quick tw9689729476882780088 for Mine.c0 by Mine.e0
name_quick tw7476452910721959123 for Mine.c0 by Mine.e0
name_quick tw3985964047577975286 for Mine.c0 by Mine.e0
name_quick tw3592811809046731828 for Mine.c0 by Mine.e0
name_quick tw8297923619242306668 for Mine.c0 by Mine.e0
name_quick tw12954591660760965231 for Mine.c0 by Mine.e0
name_quick tw8002303944043701648 for Mine.c0 by Mine.e0
name_quick tw13946496683202179788 for Mine.c0 by Mine.e0
name_quick tw1413555121281612218 for Mine.c0 by Mine.e0
name_quick tw12362610545917648234 for Mine.c0 by Mine.e0
name_quick tw15042883488752021643 for Mine.c0 by Mine.e0
name_quick tw6128145076113358165 for Mine.c0 by Mine.e0
name_quick tw10258873121960336067 for Mine.c0 by Mine.e0
name_quick tw10510056951384868246 for Mine.c0 by Mine.e0
name_quick tw1950803216711332702 for Mine.c0 by Mine.e0
name_quick tw15577281813014381367 for Mine.c0 by Mine.e0
name_quick tw3300257896294614128 for Mine.c0 by Mine.e0
name_quick tw1825952489489211193 for Mine.c0 by Mine.e0
name_quick tw1207101557538958131 for Mine.c0 by Mine.e0
name_quick tw17338325484393633139 for Mine.c0 by Mine.e0
name_quick tw15831126876759372255 for Mine.c0 by Mine.e0
name_quick tw13444670453868202053 for Mine.c0 by Mine.e0
name_quick tw5890639436620234070 for Mine.c0 by Mine.e0
name_quick tw12330612334027959195 for Mine.c0 by Mine.e0
name_quick tw11907897558876765624 for Mine.c0 by Mine.e0
name_quick tw14592624751514493413 for Mine.c0 by Mine.e0
name_quick tw10341888390210383824 for Mine.c0 by Mine.e0
name_quick tw13812277999558781770 for Mine.c0 by Mine.e0
name_quick tw3215387988796971590 for Mine.c0 by Mine.e0
name_quick tw8219003486749837733 for Mine.c0 by Mine.e0
name_quick tw12917704675397863716 for Mine.c0 by Mine.e0
name_quick tw13421457143807847188 for Mine.c0 by Mine.e0
name_quick tw3235425350174046738 for Mine.c0 by Mine.e0
name_quick tw2107523057676978006 for Mine.c0 by Mine.e0
name_quick tw6162269159774324313 for Mine.c0 by Mine.e0
name_quick tw14424681132571578402 for Mine.c0 by Mine.e0
name_quick tw17170472223608059050 for Mine.c0 by Mine.e0
name_quick tw2741014181512449073 for Mine.c0 by Mine.e0
name_quick tw896878414759379649 for Mine.c0 by Mine.e0
name_quick tw12138319994727072339 for Mine.c0 by Mine.e0
name_quick tw7220529860990300233 for Mine.c0 by Mine.e0
name_quick tw14170518179582410385 for Mine.c0 by Mine.e0
name_quick tw16203965252921439515 for Mine.c0 by Mine.e0
name_quick tw5467331546851215429 for Mine.c0 by Mine.e0
name_quick tw14243238205550065757 for Mine.c0 by Mine.e0
name_quick tw2483420100392427323 for Mine.c0 by Mine.e0
name_quick tw384561282630992784 for Mine.c0 by Mine.e0
name_quick tw6901996201401580103 for Mine.c0 by Mine.e0
name_quick tw14935467056822913822 for Mine.c0 by Mine.e0
name_quick tw6822071536725586909 for Mine.c0 by Mine.e0
name_quick tw8733291241859026926 for Mine.c0 by Mine.e0
name_quick tw6690350156832105676 for Mine.c0 by Mine.e0
name_quick tw10016166984437732892 for Mine.c0 by Mine.e0
name_quick tw16723463757517087524 for Mine.c0 by Mine.e0
name_quick tw10510019762269167821 for Mine.c0 by Mine.e0
name_quick tw14782755387869428366 for Mine.c0 by Mine.e0
name_quick tw16955839230299176341 for Mine.c0 by Mine.e0
name_quick tw17435391645217708394 for Mine.c0 by Mine.e0
name_quick tw1922157984580058403 for Mine.c0 by Mine.e0
name_quick tw16279288168775177219 for Mine.c0 by Mine.e0
name_quick tw1915925776726481438 for Mine.c0 by Mine.e0
name_quick tw1979317910248211280 for Mine.c0 by Mine.e0
name_quick tw9784134513789038367 for Mine.c0 by Mine.e0
name_quick tw11033627544408312984 for Mine.c0 by Mine.e0
name_quick tw17187875760726034783 for Mine.c0 by Mine.e0
name_quick tw12297992134047619483 for Mine.c0 by Mine.e0
name_quick tw14746253646979254834 for Mine.c0 by Mine.e0
name_quick tw446995266069924076 for Mine.c0 by Mine.e0
name_quick tw14022695629967993375 for Mine.c0 by Mine.e0
name_quick tw14961746396406840608 for Mine.c0 by Mine.e0
name_quick tw16873086082458093902 for Mine.c0 by Mine.e0
name_quick tw10888863842102328177 for Mine.c0 by Mine.e0
name_quick tw6798380500665416597 for Mine.c0 by Mine.e0
name_quick tw13135312941875745310 for Mine.c0 by Mine.e0
name_quick tw1142673529048489019 for Mine.c0 by Mine.e0
name_quick tw13385558918117058561 for Mine.c0 by Mine.e0
name_quick tw13831308528885131752 for Mine.c0 by Mine.e0
name_quick tw1956260828630720203 for Mine.c0 by Mine.e0
name_quick tw11161164713144168021 for Mine.c0 by Mine.e0
name_quick tw17464319187374939960 for Mine.c0 by Mine.e0
name_quick tw9972681490609642005 for Mine.c0 by Mine.e0
name_quick tw4715322325142750446 for Mine.c0 by Mine.e0
name_quick tw2080317491765294665 for Mine.c0 by Mine.e0
name_quick tw3365755272349913518 for Mine.c0 by Mine.e0
name_quick tw7086961617601330827 for Mine.c0 by Mine.e0
name_quick tw1000662321505670351 for Mine.c0 by Mine.e0
name_quick tw3303267245142563540 for Mine.c0 by Mine.e0
name_quick tw14391293386007564604 for Mine.c0 by Mine.e0
name_quick tw861502493610598483 for Mine.c0 by Mine.e0
name_quick tw5344885176932410299 for Mine.c0 by Mine.e0
name_quick tw5000232492035539693 for Mine.c0 by Mine.e0
name_quick tw17062427158221528723 for Mine.c0 by Mine.e0
name_quick tw8222940686941784037 for Mine.c0 by Mine.e0
name_quick tw140236481695663071 for Mine.c0 by Mine.e0
name_quick tw9402243437249704421 for Mine.c0 by Mine.e0
name_quick tw13757698761724263525 for Mine.c0 by Mine.e0
name_quick tw4483904966330829159 for Mine.c0 by Mine.e0
name_quick tw7867829370405329436 for Mine.c0 by Mine.e0
name_quick tw8115137120850386438 for Mine.c0 by Mine.e0
name_quick tw16721508838639397229 for Mine.c0 by Mine.e0
name_quick tw256976265262469064 for Mine.c0 by Mine.e0
name_quick tw10469546370983774788 for Mine.c0 by Mine.e0
name_quick tw9536688357841153863 for Mine.c0 by Mine.e0
name_quick tw2314633323536394700 for Mine.c0 by Mine.e0
name_quick tw5459702643516471331 for Mine.c0 by Mine.e0
name_quick tw14678943786356421948 for Mine.c0 by Mine.e0
name_quick tw17318462890700432884 for Mine.c0 by Mine.e0
name_quick tw1717767836212652739 for Mine.c0 by Mine.e0
name_quick tw8159993647027272844 for Mine.c0 by Mine.e0
name_quick tw16140922888777852060 for Mine.c0 by Mine.e0
name_quick tw5127367033827617521 for Mine.c0 by Mine.e0
name_quick tw10698057553749749337 for Mine.c0 by Mine.e0
name_quick tw13567515925198824819 for Mine.c0 by Mine.e0
name_quick tw18073898193381586223 for Mine.c0 by Mine.e0
name_quick tw1719895430356276633 for Mine.c0 by Mine.e0
name_quick tw16607193741793207195 for Mine.c0 by Mine.e0
name_quick tw7001957589650049515 for Mine.c0 by Mine.e0
name_quick tw12314708539913122752 for Mine.c0 by Mine.e0
name_quick tw2261719852989239553 for Mine.c0 by Mine.e0
name_quick tw258204147387103276 for Mine.c0 by Mine.e0
name_quick tw3042748168174471775 for Mine.c0 by Mine.e0
name_quick tw5344687154915797982 for Mine.c0 by Mine.e0
name_quick tw5634879105068955787 for Mine.c0 by Mine.e0
name_quick tw140001813534094272 for Mine.c0 by Mine.e0
name_quick tw14226173905949225808 for Mine.c0 by Mine.e0
name_quick tw726351398001015727 for Mine.c0 by Mine.e0
name_quick tw5444512763150141072 for Mine.c0 by Mine.e0
name_quick tw12652081859355081885 for Mine.c0 by Mine.e0
name_quick tw9387514328989991554 for Mine.c0 by Mine.e0
name_quick tw16753820520455620202 for Mine.c0 by Mine.e0
name_quick tw16919654943277366748 for Mine.c0 by Mine.e0
name_quick tw6170744672141170255 for Mine.c0 by Mine.e0
name_quick tw5498123283257192965 for Mine.c0 by Mine.e0
name_quick tw16108870410212019532 for Mine.c0 by Mine.e0
name_quick tw15861351967447197489 for Mine.c0 by Mine.e0
name_quick tw2950685276103557050 for Mine.c0 by Mine.e0
name_quick tw247591363613054380 for Mine.c0 by Mine.e0
name_quick tw8498532028676091811 for Mine.c0 by Mine.e0
name_quick tw10374632558016547081 for Mine.c0 by Mine.e0
name_quick tw17590705303994421779 for Mine.c0 by Mine.e0
name_quick tw542563422162235373 for Mine.c0 by Mine.e0
name_quick tw17351735930882485243 for Mine.c0 by Mine.e0
name_quick tw8157277791214410489 for Mine.c0 by Mine.e0
name_quick tw4480162626587320490 for Mine.c0 by Mine.e0
name_quick tw12670982853097334264 for Mine.c0 by Mine.e0
name_quick tw11066385474520676512 for Mine.c0 by Mine.e0
name_quick tw5323657890516693427 for Mine.c0 by Mine.e0
name_quick tw4490611911172417597 for Mine.c0 by Mine.e0
name_quick tw6782663255696616371 for Mine.c0 by Mine.e0
name_quick tw6702445572142316249 for Mine.c0 by Mine.e0
name_quick tw14196522196718054806 for Mine.c0 by Mine.e0
name_quick tw1383625962624193546 for Mine.c0 by Mine.e0
name_quick tw1607123104830579860 for Mine.c0 by Mine.e0
name_quick tw4321966507151631593 for Mine.c0 by Mine.e0
name_quick tw6105849179199505303 for Mine.c0 by Mine.e0
name_quick tw10257955065651855134 for Mine.c0 by Mine.e0
name_quick tw14664691819916384248 for Mine.c0 by Mine.e0
name_quick tw9510108024173832781 for Mine.c0 by Mine.e0
name_quick tw1708089923452030704 for Mine.c0 by Mine.e0
name_quick tw14560624547652848805 for Mine.c0 by Mine.e0
name_quick tw12408111787983249662 for Mine.c0 by Mine.e0
name_quick tw14520296925931582552 for Mine.c0 by Mine.e0
name_quick tw8080008513338510535 for Mine.c0 by Mine.e0
name_quick tw15925456577456769635 for Mine.c0 by Mine.e0
name_quick tw16298917771340976007 for Mine.c0 by Mine.e0
name_quick tw12747814925858328940 for Mine.c0 by Mine.e0
name_quick tw8742817616077272606 for Mine.c0 by Mine.e0
name_quick tw8492135340293348127 for Mine.c0 by Mine.e0
name_quick tw5217270863462422736 for Mine.c0 by Mine.e0
name_quick tw15805137534098808535 for Mine.c0 by Mine.e0
name_quick tw3300454383303005205 for Mine.c0 by Mine.e0
name_quick tw11421057715548341654 for Mine.c0 by Mine.e0
name_quick tw7322748291113730364 for Mine.c0 by Mine.e0
name_quick tw7485256538410118956 for Mine.c0 by Mine.e0
name_quick tw6469784823511061222 for Mine.c0 by Mine.e0
name_quick tw14564479935002850509 for Mine.c0 by Mine.e0
name_quick tw4859391219904099992 for Mine.c0 by Mine.e0
name_quick tw14404928986312190071 for Mine.c0 by Mine.e0
name_quick tw13478237413612938871 for Mine.c0 by Mine.e0
name_quick tw3543459598558145280 for Mine.c0 by Mine.e0
name_quick tw13855379610559885079 for Mine.c0 by Mine.e0
name_quick tw14703100239697439463 for Mine.c0 by Mine.e0
name_quick tw6858818405166986180 for Mine.c0 by Mine.e0
name_quick tw17518593693041627797 for Mine.c0 by Mine.e0
name_quick tw17613222154834848340 for Mine.c0 by Mine.e0
name_quick tw2931988195819169919 for Mine.c0 by Mine.e0
name_quick tw3641951560692057861 for Mine.c0 by Mine.e0
name_quick tw16003985067176294414 for Mine.c0 by Mine.e0
name_quick tw5622701340561072331 for Mine.c0 by Mine.e0
name_quick tw5289818103960998278 for Mine.c0 by Mine.e0
name_quick tw14154597600763967237 for Mine.c0 by Mine.e0
name_quick tw9206141786237547592 for Mine.c0 by Mine.e0
name_quick tw5872530126848033075 for Mine.c0 by Mine.e0
name_quick tw8760152093665844161 for Mine.c0 by Mine.e0
name_quick tw12528533614272120300 for Mine.c0 by Mine.e0
name_quick tw2941924889016668590 for Mine.c0 by Mine.e0
name_quick tw17691633702590694504 for Mine.c0 by Mine.e0
name_quick tw9796564346219866840 for Mine.c0 by Mine.e0
name_quick tw18157406047293677543 for Mine.c0 by Mine.e0
name_quick tw13956191218907399338 for Mine.c0 by Mine.e0
name_quick tw12740759652641322565 for Mine.c0 by Mine.e0
name_quick tw9501610304058242746 for Mine.c0 by Mine.e0
name_quick tw1251388686125282213 for Mine.c0 by Mine.e0
name_quick tw14093639371245587692 for Mine.c0 by Mine.e0
name_quick tw10910644110388302437 for Mine.c0 by Mine.e0
name_quick tw15685335758407661847 for Mine.c0 by Mine.e0
name_quick tw17852080271459398996 for Mine.c0 by Mine.e0
name_quick tw15541240446876304647 for Mine.c0 by Mine.e0
name_quick tw13810262117814702294 for Mine.c0 by Mine.e0
name_quick tw9947508896943372755 for Mine.c0 by Mine.e0
name_quick tw10842938092177581297 for Mine.c0 by Mine.e0
name_quick tw2789304352393801511 for Mine.c0 by Mine.e0
name_quick tw11766667032028208565 for Mine.c0 by Mine.e0
name_quick tw5725222548895626118 for Mine.c0 by Mine.e0
name_quick tw9331231397406362311 for Mine.c0 by Mine.e0
name_quick tw8432719020341155521 for Mine.c0 by Mine.e0
name_quick tw2403389108928632939 for Mine.c0 by Mine.e0
name_quick tw11153475782318119604 for Mine.c0 by Mine.e0
name_quick tw8480184845173159842 for Mine.c0 by Mine.e0
name_quick tw14993981098963755598 for Mine.c0 by Mine.e0
name_quick tw7120392768208495833 for Mine.c0 by Mine.e0
name_quick tw3721919958574915784 for Mine.c0 by Mine.e0
name_quick tw12843764043397292189 for Mine.c0 by Mine.e0
name_quick tw8924819469995637033 for Mine.c0 by Mine.e0
name_quick tw9848817304349107530 for Mine.c0 by Mine.e0
name_quick tw18328257000508772394 for Mine.c0 by Mine.e0
name_quick tw12798174099139212305 for Mine.c0 by Mine.e0
name_quick tw4884199854448574 for Mine.c0 by Mine.e0
name_quick tw15438627641174518403 for Mine.c0 by Mine.e0
name_quick tw9404705873571188630 for Mine.c0 by Mine.e0
name_quick tw3992765435912101610 for Mine.c0 by Mine.e0
name_quick tw14074196154385387334 for Mine.c0 by Mine.e0
name_quick tw8995945545434573385 for Mine.c0 by Mine.e0
name_quick tw5994696166404524948 for Mine.c0 by Mine.e0
name_quick tw7374399212775623666 for Mine.c0 by Mine.e0
name_quick tw9116068151291705539 for Mine.c0 by Mine.e0
name_quick tw87601786513091389 for Mine.c0 by Mine.e0
name_quick tw1401067106901849026 for Mine.c0 by Mine.e0
name_quick tw14842496431369740429 for Mine.c0 by Mine.e0
name_quick tw1835071406663858368 for Mine.c0 by Mine.e0
name_quick tw6548459193220583526 for Mine.c0 by Mine.e0
name_quick tw6472337539984862722 for Mine.c0 by Mine.e0
name_quick tw615563214671542189 for Mine.c0 by Mine.e0
name_quick tw11513857634932158529 for Mine.c0 by Mine.e0
name_quick tw17883462748017686043 for Mine.c0 by Mine.e0
name_quick tw2228412568605170491 for Mine.c0 by Mine.e0
name_quick tw17260811203177919210 for Mine.c0 by Mine.e0
name_quick tw3049343062529576306 for Mine.c0 by Mine.e0
name_quick tw10297410513487048360 for Mine.c0 by Mine.e0
name_quick tw15401437161963490237 for Mine.c0 by Mine.e0
name_quick tw9304451534382375720 for Mine.c0 by Mine.e0
name_quick tw3475869608268796686 for Mine.c0 by Mine.e0
name_quick tw7921390202802761869 for Mine.c0 by Mine.e0
name_quick tw4804111812005502284 for Mine.c0 by Mine.e0
name_quick tw17483705464198625004 for Mine.c0 by Mine.e0
name_quick tw3713540243193553862 for Mine.c0 by Mine.e0
name_quick tw16682895059504647277 for Mine.c0 by Mine.e0
name_quick tw1205274952441263945 for Mine.c0 by Mine.e0
name_quick tw6703304554741867743 for Mine.c0 by Mine.e0
name_quick tw9806118890596472461 for Mine.c0 by Mine.e0
name_quick tw8865387616306378214 for Mine.c0 by Mine.e0
name_quick tw1495895850433845275 for Mine.c0 by Mine.e0
name_quick tw4670614919966055157 for Mine.c0 by Mine.e0
name_quick tw8899516883271353254 for Mine.c0 by Mine.e0
name_quick tw2570914705882880060 for Mine.c0 by Mine.e0
name_quick tw17963105932079019327 for Mine.c0 by Mine.e0
name_quick tw2353497105660221152 for Mine.c0 by Mine.e0
name_quick tw991626836265849350 for Mine.c0 by Mine.e0
name_quick tw3110587219445414310 for Mine.c0 by Mine.e0
name_quick tw9646623106273453227 for Mine.c0 by Mine.e0
name_quick tw9950792792127014553 for Mine.c0 by Mine.e0
name_quick tw10159399881129095643 for Mine.c0 by Mine.e0
name_quick tw17760279517084355780 for Mine.c0 by Mine.e0
name_quick tw18031968618487185184 for Mine.c0 by Mine.e0
name_quick tw15590096980072825465 for Mine.c0 by Mine.e0
name_quick tw354308444213283272 for Mine.c0 by Mine.e0
name_quick tw15433366417846715934 for Mine.c0 by Mine.e0
name_quick tw1972164579936704799 for Mine.c0 by Mine.e0
name_quick tw14611616552423853409 for Mine.c0 by Mine.e0
name_quick tw18293242582946804979 for Mine.c0 by Mine.e0
name_quick tw3953844824629472508 for Mine.c0 by Mine.e0
name_quick tw9919008367099125623 for Mine.c0 by Mine.e0
name_quick tw3065219299181827589 for Mine.c0 by Mine.e0
name_quick tw16248296213531012650 for Mine.c0 by Mine.e0
name_quick tw11853640710764476214 for Mine.c0 by Mine.e0
name_quick tw14172470266813156586 for Mine.c0 by Mine.e0
name_quick tw1382182411562308786 for Mine.c0 by Mine.e0
name_quick tw13437419889732721216 for Mine.c0 by Mine.e0
name_quick tw3671519592330383864 for Mine.c0 by Mine.e0
name_quick tw15173544498738437827 for Mine.c0 by Mine.e0
name_quick tw16120054744476736488 for Mine.c0 by Mine.e0
name_quick tw6968137755033780318 for Mine.c0 by Mine.e0
name_quick tw12382822922155266910 for Mine.c0 by Mine.e0
name_quick tw1293241653719404408 for Mine.c0 by Mine.e0
name_quick tw17339309145561079191 for Mine.c0 by Mine.e0
name_quick tw4906484309439969231 for Mine.c0 by Mine.e0
name_quick tw547895379624588593 for Mine.c0 by Mine.e0
name_quick tw977512076041815475 for Mine.c0 by Mine.e0
name_quick tw4699756791338806529 for Mine.c0 by Mine.e0
name_quick tw443766864951011646 for Mine.c0 by Mine.e0
name_quick tw6030501089693204938 for Mine.c0 by Mine.e0
name_quick tw14577027041581768965 for Mine.c0 by Mine.e0
name_quick tw2084650752826471497 for Mine.c0 by Mine.e0
name_quick tw643336161829623379 for Mine.c0 by Mine.e0
name_quick tw4436474186459923750 for Mine.c0 by Mine.e0
name_quick tw3099597729799864441 for Mine.c0 by Mine.e0
name_quick tw16773468814595293053 for Mine.c0 by Mine.e0
name_quick tw4171853373547519906 for Mine.c0 by Mine.e0
name_quick tw7007286002206832825 for Mine.c0 by Mine.e0
name_quick tw4953865588907285216 for Mine.c0 by Mine.e0
name_quick tw3374319085511977134 for Mine.c0 by Mine.e0
name_quick tw5702276774652866934 for Mine.c0 by Mine.e0
name_quick tw10519837036962490867 for Mine.c0 by Mine.e0
name_quick tw3382625519597670723 for Mine.c0 by Mine.e0
name_quick tw8912161614967838395 for Mine.c0 by Mine.e0
name_quick tw3238445694619138142 for Mine.c0 by Mine.e0
name_quick tw13343918040275786880 for Mine.c0 by Mine.e0
name_quick tw9320515035125037321 for Mine.c0 by Mine.e0
name_quick tw7943549864190904611 for Mine.c0 by Mine.e0
name_quick tw7046044490832178742 for Mine.c0 by Mine.e0
name_quick tw13307065042914920193 for Mine.c0 by Mine.e0
name_quick tw7212858340449540239 for Mine.c0 by Mine.e0
name_quick tw4561898282857576226 for Mine.c0 by Mine.e0
name_quick tw4493901809537577575 for Mine.c0 by Mine.e0
name_quick tw938635154573522699 for Mine.c0 by Mine.e0
name_quick tw9495317472360511255 for Mine.c0 by Mine.e0
name_quick tw6575520176995025181 for Mine.c0 by Mine.e0
name_quick tw15539815450414544023 for Mine.c0 by Mine.e0
name_quick tw17013487888433625170 for Mine.c0 by Mine.e0
name_quick tw4189273013823423559 for Mine.c0 by Mine.e0
name_quick tw7774113678449685934 for Mine.c0 by Mine.e0
name_quick tw5362036446546632119 for Mine.c0 by Mine.e0
name_quick tw9197174079833555027 for Mine.c0 by Mine.e0
name_quick tw8285278889055680438 for Mine.c0 by Mine.e0
name_quick tw10879749546641988924 for Mine.c0 by Mine.e0
name_quick tw5537553045615171315 for Mine.c0 by Mine.e0
name_quick tw8422229294311615681 for Mine.c0 by Mine.e0
name_quick tw17952953904234253443 for Mine.c0 by Mine.e0
name_quick tw10551173667578312727 for Mine.c0 by Mine.e0
name_quick tw9399754086935153974 for Mine.c0 by Mine.e0
name_quick tw4096438862311573950 for Mine.c0 by Mine.e0
name_quick tw12960429369202013873 for Mine.c0 by Mine.e0
name_quick tw6229817132586351632 for Mine.c0 by Mine.e0
name_quick tw12903330217458380548 for Mine.c0 by Mine.e0
name_quick tw6216382948874008006 for Mine.c0 by Mine.e0
name_quick tw523537741815420091 for Mine.c0 by Mine.e0
name_quick tw6084841979344569690 for Mine.c0 by Mine.e0
name_quick tw15752536640612570366 for Mine.c0 by Mine.e0
name_quick tw2595585439558603231 for Mine.c0 by Mine.e0
name_quick tw10876078143196172821 for Mine.c0 by Mine.e0
name_quick tw17348111734160510231 for Mine.c0 by Mine.e0
name_quick tw2455152089536381482 for Mine.c0 by Mine.e0
name_quick tw17817366049700826239 for Mine.c0 by Mine.e0
name_quick tw12431713363859531893 for Mine.c0 by Mine.e0
name_quick tw5771433454967703170 for Mine.c0 by Mine.e0
name_quick tw1467881925912835984 for Mine.c0 by Mine.e0
name_quick tw5072417060200589145 for Mine.c0 by Mine.e0
name_quick tw13547939009206843870 for Mine.c0 by Mine.e0
name_quick tw7480016910919988345 for Mine.c0 by Mine.e0
name_quick tw1070438729232803039 for Mine.c0 by Mine.e0
name_quick tw11266997524610791606 for Mine.c0 by Mine.e0
name_quick tw15127105006835628225 for Mine.c0 by Mine.e0
name_quick tw3778530596728393105 for Mine.c0 by Mine.e0
name_quick tw2466311954974566718 for Mine.c0 by Mine.e0
name_quick tw12768989823518198380 for Mine.c0 by Mine.e0
name_quick tw6356304189028158447 for Mine.c0 by Mine.e0
name_quick tw8737599933303070863 for Mine.c0 by Mine.e0
name_quick tw16728255500844073214 for Mine.c0 by Mine.e0
name_quick tw9630203353718772412 for Mine.c0 by Mine.e0
name_quick tw13160504802963445071 for Mine.c0 by Mine.e0
name_quick tw514280064592716601 for Mine.c0 by Mine.e0
name_quick tw2694234056635809718 for Mine.c0 by Mine.e0
name_quick tw4015202173357781934 for Mine.c0 by Mine.e0
name_quick tw1205604411410820431 for Mine.c0 by Mine.e0
name_quick tw5438652380644606353 for Mine.c0 by Mine.e0
name_quick tw4309217394794523951 for Mine.c0 by Mine.e0
name_quick tw11373181179767321252 for Mine.c0 by Mine.e0
name_quick tw6278996535519779258 for Mine.c0 by Mine.e0
name_quick tw8431482922422412695 for Mine.c0 by Mine.e0
name_quick tw12147665669636231765 for Mine.c0 by Mine.e0
name_quick tw15779231459743154856 for Mine.c0 by Mine.e0
name_quick tw819570635367399668 for Mine.c0 by Mine.e0
name_quick tw14847308668706973960 for Mine.c0 by Mine.e0
name_quick tw15402603294489630176 for Mine.c0 by Mine.e0
name_quick tw17659185236578331656 for Mine.c0 by Mine.e0
name_quick tw772564365185477556 for Mine.c0 by Mine.e0
name_quick tw14537775516033599862 for Mine.c0 by Mine.e0
name_quick tw890339118813698166 for Mine.c0 by Mine.e0
name_quick tw10295913840692754127 for Mine.c0 by Mine.e0
name_quick tw14827714588952709054 for Mine.c0 by Mine.e0
name_quick tw1158361714356455011 for Mine.c0 by Mine.e0
name_quick tw539538531456391632 for Mine.c0 by Mine.e0
name_quick tw4849480874435393781 for Mine.c0 by Mine.e0
name_quick tw1840220198017710270 for Mine.c0 by Mine.e0
name_quick tw14903569129155370506 for Mine.c0 by Mine.e0
name_quick tw11662115353561507501 for Mine.c0 by Mine.e0
name_quick tw13055953723892786844 for Mine.c0 by Mine.e0
name_quick tw11481637867367846703 for Mine.c0 by Mine.e0
name_quick tw18146532975450069615 for Mine.c0 by Mine.e0
name_quick tw16493865465440409018 for Mine.c0 by Mine.e0
name_quick tw9456574344343218679 for Mine.c0 by Mine.e0
name_quick tw7424060955962978353 for Mine.c0 by Mine.e0
name_quick tw15227483606004533461 for Mine.c0 by Mine.e0
name_quick tw2692750590507578028 for Mine.c0 by Mine.e0
name_quick tw2492000799826889573 for Mine.c0 by Mine.e0
name_quick tw8949853181751564097 for Mine.c0 by Mine.e0
name_quick tw209982475168477708 for Mine.c0 by Mine.e0
name_quick tw10792498714594961201 for Mine.c0 by Mine.e0
name_quick tw8972062959192195235 for Mine.c0 by Mine.e0
name_quick tw14963028359598502718 for Mine.c0 by Mine.e0
name_quick tw1998347030407657756 for Mine.c0 by Mine.e0
name_quick tw3897268976836264337 for Mine.c0 by Mine.e0
name_quick tw9615563845995560447 for Mine.c0 by Mine.e0
name_quick tw4547051000311932777 for Mine.c0 by Mine.e0
name_quick tw11502921971960690029 for Mine.c0 by Mine.e0
name_quick tw11408881796089955267 for Mine.c0 by Mine.e0
name_quick tw16670775579421159206 for Mine.c0 by Mine.e0
name_quick tw6408400580700104982 for Mine.c0 by Mine.e0
name_quick tw12269216009862288129 for Mine.c0 by Mine.e0
name_quick tw12770481643036789091 for Mine.c0 by Mine.e0
name_quick tw6549852094080907030 for Mine.c0 by Mine.e0
name_quick tw3681537716864247207 for Mine.c0 by Mine.e0
name_quick tw17334828202450815106 for Mine.c0 by Mine.e0
name_quick tw14187406211511212617 for Mine.c0 by Mine.e0
name_quick tw3239113980409921550 for Mine.c0 by Mine.e0
name_quick tw11429584451438056573 for Mine.c0 by Mine.e0
name_quick tw9860861378791804195 for Mine.c0 by Mine.e0
name_quick tw5667099127317398114 for Mine.c0 by Mine.e0
name_quick tw8997383693586321770 for Mine.c0 by Mine.e0
name_quick tw12772213712371865176 for Mine.c0 by Mine.e0
name_quick tw3270257207059953099 for Mine.c0 by Mine.e0
name_quick tw8186657734068701312 for Mine.c0 by Mine.e0
name_quick tw16860917588515726111 for Mine.c0 by Mine.e0
name_quick tw4334401890000744311 for Mine.c0 by Mine.e0
name_quick tw17678831435119133177 for Mine.c0 by Mine.e0
open_top hd for PySem.Challenge.rw_pb0483_01
namespace Mine
theorem fill_all : PySem.Challenge.rw_pb0483_01 = PySem.Challenge.rw_pb0483_01 ∧ hd.heap_39 = hd.heap_39 := by
  k_fill
  exact ⟨rfl, rfl⟩
theorem cj1 {x q : Prop} (h : x ∧ q) : x := h.1
theorem cj2 {p1 x q : Prop} (h : p1 ∧ x ∧ q) : x := h.2.1
theorem cj3 {p1 p2 x q : Prop} (h : p1 ∧ p2 ∧ x ∧ q) : x := h.2.2.1
theorem cj4 {p1 p2 p3 x q : Prop} (h : p1 ∧ p2 ∧ p3 ∧ x ∧ q) : x := h.2.2.2.1
theorem cj5 {p1 p2 p3 p4 x q : Prop} (h : p1 ∧ p2 ∧ p3 ∧ p4 ∧ x ∧ q) : x := h.2.2.2.2.1
theorem cj6 {p1 p2 p3 p4 p5 x q : Prop} (h : p1 ∧ p2 ∧ p3 ∧ p4 ∧ p5 ∧ x ∧ q) : x := h.2.2.2.2.2.1
theorem cj7 {p1 p2 p3 p4 p5 p6 x q : Prop} (h : p1 ∧ p2 ∧ p3 ∧ p4 ∧ p5 ∧ p6 ∧ x ∧ q) : x := h.2.2.2.2.2.2.1
theorem cj8 {p1 p2 p3 p4 p5 p6 p7 x q : Prop} (h : p1 ∧ p2 ∧ p3 ∧ p4 ∧ p5 ∧ p6 ∧ p7 ∧ x ∧ q) : x := h.2.2.2.2.2.2.2.1
theorem cj9 {p1 p2 p3 p4 p5 p6 p7 p8 x q : Prop} (h : p1 ∧ p2 ∧ p3 ∧ p4 ∧ p5 ∧ p6 ∧ p7 ∧ p8 ∧ x ∧ q) : x := h.2.2.2.2.2.2.2.2.1
theorem cj10 {p1 p2 p3 p4 p5 p6 p7 p8 p9 x q : Prop} (h : p1 ∧ p2 ∧ p3 ∧ p4 ∧ p5 ∧ p6 ∧ p7 ∧ p8 ∧ p9 ∧ x ∧ q) : x := h.2.2.2.2.2.2.2.2.2.1
theorem cj11 {p1 p2 p3 p4 p5 p6 p7 p8 p9 p10 x q : Prop} (h : p1 ∧ p2 ∧ p3 ∧ p4 ∧ p5 ∧ p6 ∧ p7 ∧ p8 ∧ p9 ∧ p10 ∧ x ∧ q) : x := h.2.2.2.2.2.2.2.2.2.2.1
theorem cj12 {p1 p2 p3 p4 p5 p6 p7 p8 p9 p10 p11 x q : Prop} (h : p1 ∧ p2 ∧ p3 ∧ p4 ∧ p5 ∧ p6 ∧ p7 ∧ p8 ∧ p9 ∧ p10 ∧ p11 ∧ x ∧ q) : x := h.2.2.2.2.2.2.2.2.2.2.2.1
theorem allNil {d : Addr} : ∀ p ∈ ([] : List (Addr × Obj)), p.1 ≠ d := fun _ h => nomatch h
theorem allCons {d a : Addr} {o : Obj} {l : List (Addr × Obj)} (h : a ≠ d) (t : ∀ p ∈ l, p.1 ≠ d) : ∀ p ∈ (a, o) :: l, p.1 ≠ d := fun p hp => by
  rcases List.mem_cons.mp hp with rfl | hp
  · exact h
  · exact t p hp
theorem psNil {m : Str → Option Value} : ∀ p ∈ ([] : List (Str × Value)), m p.1 = some p.2 := fun _ h => nomatch h
theorem psCons {m : Str → Option Value} {x : Str} {v : Value} {l : List (Str × Value)} (h : m x = some v) (t : ∀ p ∈ l, m p.1 = some p.2) : ∀ p ∈ (x, v) :: l, m p.1 = some p.2 := fun p hp => by
  rcases List.mem_cons.mp hp with rfl | hp
  · exact h
  · exact t p hp
theorem gtNil {d : Addr} : ∀ p ∈ ([] : List (Addr × Obj)), @LT.lt Nat _ d p.1 := fun _ h => nomatch h
theorem gtCons {d a : Addr} {o : Obj} {l : List (Addr × Obj)} (h : @LT.lt Nat _ d a) (t : ∀ p ∈ l, @LT.lt Nat _ d p.1) : ∀ p ∈ (a, o) :: l, @LT.lt Nat _ d p.1 := fun p hp => by
  rcases List.mem_cons.mp hp with rfl | hp
  · exact h
  · exact t p hp
theorem geNil {d : Addr} : ∀ p ∈ ([] : List (Addr × Obj)), @LE.le Nat _ d p.1 := fun _ h => nomatch h
theorem geCons {d a : Addr} {o : Obj} {l : List (Addr × Obj)} (h : @LE.le Nat _ d a) (t : ∀ p ∈ l, @LE.le Nat _ d p.1) : ∀ p ∈ (a, o) :: l, @LE.le Nat _ d p.1 := fun p hp => by
  rcases List.mem_cons.mp hp with rfl | hp
  · exact h
  · exact t p hp
theorem ea0_2  {p1 p2 : Prop} {G : Prop} (h : p1 ∧ p2) (k : p1 → p2 → G) : G := by
  obtain ⟨h1, h2⟩ := h
  exact k h1 h2
theorem ea0_3  {p1 p2 p3 : Prop} {G : Prop} (h : p1 ∧ p2 ∧ p3) (k : p1 → p2 → p3 → G) : G := by
  obtain ⟨h1, h2, h3⟩ := h
  exact k h1 h2 h3
theorem ea0_5  {p1 p2 p3 p4 p5 : Prop} {G : Prop} (h : p1 ∧ p2 ∧ p3 ∧ p4 ∧ p5) (k : p1 → p2 → p3 → p4 → p5 → G) : G := by
  obtain ⟨h1, h2, h3, h4, h5⟩ := h
  exact k h1 h2 h3 h4 h5
theorem ea1_2 {α1 : Sort _} {p1 p2 : α1 → Prop} {G : Prop} (h : ∃ x1, p1 x1 ∧ p2 x1) (k : ∀ x1, p1 x1 → p2 x1 → G) : G := by
  obtain ⟨x1, h1, h2⟩ := h
  exact k x1 h1 h2
theorem ea1_3 {α1 : Sort _} {p1 p2 p3 : α1 → Prop} {G : Prop} (h : ∃ x1, p1 x1 ∧ p2 x1 ∧ p3 x1) (k : ∀ x1, p1 x1 → p2 x1 → p3 x1 → G) : G := by
  obtain ⟨x1, h1, h2, h3⟩ := h
  exact k x1 h1 h2 h3
theorem ea1_4 {α1 : Sort _} {p1 p2 p3 p4 : α1 → Prop} {G : Prop} (h : ∃ x1, p1 x1 ∧ p2 x1 ∧ p3 x1 ∧ p4 x1) (k : ∀ x1, p1 x1 → p2 x1 → p3 x1 → p4 x1 → G) : G := by
  obtain ⟨x1, h1, h2, h3, h4⟩ := h
  exact k x1 h1 h2 h3 h4
theorem ea1_9 {α1 : Sort _} {p1 p2 p3 p4 p5 p6 p7 p8 p9 : α1 → Prop} {G : Prop} (h : ∃ x1, p1 x1 ∧ p2 x1 ∧ p3 x1 ∧ p4 x1 ∧ p5 x1 ∧ p6 x1 ∧ p7 x1 ∧ p8 x1 ∧ p9 x1) (k : ∀ x1, p1 x1 → p2 x1 → p3 x1 → p4 x1 → p5 x1 → p6 x1 → p7 x1 → p8 x1 → p9 x1 → G) : G := by
  obtain ⟨x1, h1, h2, h3, h4, h5, h6, h7, h8, h9⟩ := h
  exact k x1 h1 h2 h3 h4 h5 h6 h7 h8 h9
theorem ea2_2 {α1 : Sort _} {α2 : Sort _} {p1 p2 : α1 → α2 → Prop} {G : Prop} (h : ∃ x1 x2, p1 x1 x2 ∧ p2 x1 x2) (k : ∀ x1 x2, p1 x1 x2 → p2 x1 x2 → G) : G := by
  obtain ⟨x1, x2, h1, h2⟩ := h
  exact k x1 x2 h1 h2
theorem ea2_4 {α1 : Sort _} {α2 : Sort _} {p1 p2 p3 p4 : α1 → α2 → Prop} {G : Prop} (h : ∃ x1 x2, p1 x1 x2 ∧ p2 x1 x2 ∧ p3 x1 x2 ∧ p4 x1 x2) (k : ∀ x1 x2, p1 x1 x2 → p2 x1 x2 → p3 x1 x2 → p4 x1 x2 → G) : G := by
  obtain ⟨x1, x2, h1, h2, h3, h4⟩ := h
  exact k x1 x2 h1 h2 h3 h4
theorem ea2_5 {α1 : Sort _} {α2 : Sort _} {p1 p2 p3 p4 p5 : α1 → α2 → Prop} {G : Prop} (h : ∃ x1 x2, p1 x1 x2 ∧ p2 x1 x2 ∧ p3 x1 x2 ∧ p4 x1 x2 ∧ p5 x1 x2) (k : ∀ x1 x2, p1 x1 x2 → p2 x1 x2 → p3 x1 x2 → p4 x1 x2 → p5 x1 x2 → G) : G := by
  obtain ⟨x1, x2, h1, h2, h3, h4, h5⟩ := h
  exact k x1 x2 h1 h2 h3 h4 h5
theorem ea2_6 {α1 : Sort _} {α2 : Sort _} {p1 p2 p3 p4 p5 p6 : α1 → α2 → Prop} {G : Prop} (h : ∃ x1 x2, p1 x1 x2 ∧ p2 x1 x2 ∧ p3 x1 x2 ∧ p4 x1 x2 ∧ p5 x1 x2 ∧ p6 x1 x2) (k : ∀ x1 x2, p1 x1 x2 → p2 x1 x2 → p3 x1 x2 → p4 x1 x2 → p5 x1 x2 → p6 x1 x2 → G) : G := by
  obtain ⟨x1, x2, h1, h2, h3, h4, h5, h6⟩ := h
  exact k x1 x2 h1 h2 h3 h4 h5 h6
theorem ea3_2 {α1 : Sort _} {α2 : Sort _} {α3 : Sort _} {p1 p2 : α1 → α2 → α3 → Prop} {G : Prop} (h : ∃ x1 x2 x3, p1 x1 x2 x3 ∧ p2 x1 x2 x3) (k : ∀ x1 x2 x3, p1 x1 x2 x3 → p2 x1 x2 x3 → G) : G := by
  obtain ⟨x1, x2, x3, h1, h2⟩ := h
  exact k x1 x2 x3 h1 h2
theorem ea3_9 {α1 : Sort _} {α2 : Sort _} {α3 : Sort _} {p1 p2 p3 p4 p5 p6 p7 p8 p9 : α1 → α2 → α3 → Prop} {G : Prop} (h : ∃ x1 x2 x3, p1 x1 x2 x3 ∧ p2 x1 x2 x3 ∧ p3 x1 x2 x3 ∧ p4 x1 x2 x3 ∧ p5 x1 x2 x3 ∧ p6 x1 x2 x3 ∧ p7 x1 x2 x3 ∧ p8 x1 x2 x3 ∧ p9 x1 x2 x3) (k : ∀ x1 x2 x3, p1 x1 x2 x3 → p2 x1 x2 x3 → p3 x1 x2 x3 → p4 x1 x2 x3 → p5 x1 x2 x3 → p6 x1 x2 x3 → p7 x1 x2 x3 → p8 x1 x2 x3 → p9 x1 x2 x3 → G) : G := by
  obtain ⟨x1, x2, x3, h1, h2, h3, h4, h5, h6, h7, h8, h9⟩ := h
  exact k x1 x2 x3 h1 h2 h3 h4 h5 h6 h7 h8 h9
theorem ea4_5 {α1 : Sort _} {α2 : Sort _} {α3 : Sort _} {α4 : Sort _} {p1 p2 p3 p4 p5 : α1 → α2 → α3 → α4 → Prop} {G : Prop} (h : ∃ x1 x2 x3 x4, p1 x1 x2 x3 x4 ∧ p2 x1 x2 x3 x4 ∧ p3 x1 x2 x3 x4 ∧ p4 x1 x2 x3 x4 ∧ p5 x1 x2 x3 x4) (k : ∀ x1 x2 x3 x4, p1 x1 x2 x3 x4 → p2 x1 x2 x3 x4 → p3 x1 x2 x3 x4 → p4 x1 x2 x3 x4 → p5 x1 x2 x3 x4 → G) : G := by
  obtain ⟨x1, x2, x3, x4, h1, h2, h3, h4, h5⟩ := h
  exact k x1 x2 x3 x4 h1 h2 h3 h4 h5
theorem ea4_7 {α1 : Sort _} {α2 : Sort _} {α3 : Sort _} {α4 : Sort _} {p1 p2 p3 p4 p5 p6 p7 : α1 → α2 → α3 → α4 → Prop} {G : Prop} (h : ∃ x1 x2 x3 x4, p1 x1 x2 x3 x4 ∧ p2 x1 x2 x3 x4 ∧ p3 x1 x2 x3 x4 ∧ p4 x1 x2 x3 x4 ∧ p5 x1 x2 x3 x4 ∧ p6 x1 x2 x3 x4 ∧ p7 x1 x2 x3 x4) (k : ∀ x1 x2 x3 x4, p1 x1 x2 x3 x4 → p2 x1 x2 x3 x4 → p3 x1 x2 x3 x4 → p4 x1 x2 x3 x4 → p5 x1 x2 x3 x4 → p6 x1 x2 x3 x4 → p7 x1 x2 x3 x4 → G) : G := by
  obtain ⟨x1, x2, x3, x4, h1, h2, h3, h4, h5, h6, h7⟩ := h
  exact k x1 x2 x3 x4 h1 h2 h3 h4 h5 h6 h7
theorem ea6_10 {α1 : Sort _} {α2 : Sort _} {α3 : Sort _} {α4 : Sort _} {α5 : Sort _} {α6 : Sort _} {p1 p2 p3 p4 p5 p6 p7 p8 p9 p10 : α1 → α2 → α3 → α4 → α5 → α6 → Prop} {G : Prop} (h : ∃ x1 x2 x3 x4 x5 x6, p1 x1 x2 x3 x4 x5 x6 ∧ p2 x1 x2 x3 x4 x5 x6 ∧ p3 x1 x2 x3 x4 x5 x6 ∧ p4 x1 x2 x3 x4 x5 x6 ∧ p5 x1 x2 x3 x4 x5 x6 ∧ p6 x1 x2 x3 x4 x5 x6 ∧ p7 x1 x2 x3 x4 x5 x6 ∧ p8 x1 x2 x3 x4 x5 x6 ∧ p9 x1 x2 x3 x4 x5 x6 ∧ p10 x1 x2 x3 x4 x5 x6) (k : ∀ x1 x2 x3 x4 x5 x6, p1 x1 x2 x3 x4 x5 x6 → p2 x1 x2 x3 x4 x5 x6 → p3 x1 x2 x3 x4 x5 x6 → p4 x1 x2 x3 x4 x5 x6 → p5 x1 x2 x3 x4 x5 x6 → p6 x1 x2 x3 x4 x5 x6 → p7 x1 x2 x3 x4 x5 x6 → p8 x1 x2 x3 x4 x5 x6 → p9 x1 x2 x3 x4 x5 x6 → p10 x1 x2 x3 x4 x5 x6 → G) : G := by
  obtain ⟨x1, x2, x3, x4, x5, x6, h1, h2, h3, h4, h5, h6, h7, h8, h9, h10⟩ := h
  exact k x1 x2 x3 x4 x5 x6 h1 h2 h3 h4 h5 h6 h7 h8 h9 h10
theorem ea8_2 {α1 : Sort _} {α2 : Sort _} {α3 : Sort _} {α4 : Sort _} {α5 : Sort _} {α6 : Sort _} {α7 : Sort _} {α8 : Sort _} {p1 p2 : α1 → α2 → α3 → α4 → α5 → α6 → α7 → α8 → Prop} {G : Prop} (h : ∃ x1 x2 x3 x4 x5 x6 x7 x8, p1 x1 x2 x3 x4 x5 x6 x7 x8 ∧ p2 x1 x2 x3 x4 x5 x6 x7 x8) (k : ∀ x1 x2 x3 x4 x5 x6 x7 x8, p1 x1 x2 x3 x4 x5 x6 x7 x8 → p2 x1 x2 x3 x4 x5 x6 x7 x8 → G) : G := by
  obtain ⟨x1, x2, x3, x4, x5, x6, x7, x8, h1, h2⟩ := h
  exact k x1 x2 x3 x4 x5 x6 x7 x8 h1 h2
theorem ea10_1 {α1 : Sort _} {α2 : Sort _} {α3 : Sort _} {α4 : Sort _} {α5 : Sort _} {α6 : Sort _} {α7 : Sort _} {α8 : Sort _} {α9 : Sort _} {α10 : Sort _} {p1 : α1 → α2 → α3 → α4 → α5 → α6 → α7 → α8 → α9 → α10 → Prop} {G : Prop} (h : ∃ x1 x2 x3 x4 x5 x6 x7 x8 x9 x10, p1 x1 x2 x3 x4 x5 x6 x7 x8 x9 x10) (k : ∀ x1 x2 x3 x4 x5 x6 x7 x8 x9 x10, p1 x1 x2 x3 x4 x5 x6 x7 x8 x9 x10 → G) : G := by
  obtain ⟨x1, x2, x3, x4, x5, x6, x7, x8, x9, x10, h1⟩ := h
  exact k x1 x2 x3 x4 x5 x6 x7 x8 x9 x10 h1
theorem ea12_4 {α1 : Sort _} {α2 : Sort _} {α3 : Sort _} {α4 : Sort _} {α5 : Sort _} {α6 : Sort _} {α7 : Sort _} {α8 : Sort _} {α9 : Sort _} {α10 : Sort _} {α11 : Sort _} {α12 : Sort _} {p1 p2 p3 p4 : α1 → α2 → α3 → α4 → α5 → α6 → α7 → α8 → α9 → α10 → α11 → α12 → Prop} {G : Prop} (h : ∃ x1 x2 x3 x4 x5 x6 x7 x8 x9 x10 x11 x12, p1 x1 x2 x3 x4 x5 x6 x7 x8 x9 x10 x11 x12 ∧ p2 x1 x2 x3 x4 x5 x6 x7 x8 x9 x10 x11 x12 ∧ p3 x1 x2 x3 x4 x5 x6 x7 x8 x9 x10 x11 x12 ∧ p4 x1 x2 x3 x4 x5 x6 x7 x8 x9 x10 x11 x12) (k : ∀ x1 x2 x3 x4 x5 x6 x7 x8 x9 x10 x11 x12, p1 x1 x2 x3 x4 x5 x6 x7 x8 x9 x10 x11 x12 → p2 x1 x2 x3 x4 x5 x6 x7 x8 x9 x10 x11 x12 → p3 x1 x2 x3 x4 x5 x6 x7 x8 x9 x10 x11 x12 → p4 x1 x2 x3 x4 x5 x6 x7 x8 x9 x10 x11 x12 → G) : G := by
  obtain ⟨x1, x2, x3, x4, x5, x6, x7, x8, x9, x10, x11, x12, h1, h2, h3, h4⟩ := h
  exact k x1 x2 x3 x4 x5 x6 x7 x8 x9 x10 x11 x12 h1 h2 h3 h4
noncomputable def Hold (P : Prop) : Prop := P
theorem hold {P : Prop} (h : Hold P) : P := h
section base
variable {prog : Program} {w : World} {A : Around} {E : Value → Shared → Prop} {s : Shared} {env : Env} {h₀ : Heap} {x : Str} {body : List Stmt} {Q : Flow → Shared → Prop} {σ : Type}

noncomputable def TurnQ (h₀ : Heap) (L : Addr) (x : Str) (mp : σ → Str → Option Value) (led : σ → List (Addr × Obj)) (own : List (Addr × Obj)) (P : σ → Prop) (s₁ : Shared) (Q : Flow → Shared → Prop) (f : Flow) (s₂ : Shared) : Prop :=
  match f with
  | .ret v => Q (.ret v) s₂
  | .brk => Q .next s₂
  | _ => ∃ c h' tk m', s₂ = { s₁ with heap := h', toks := tk } ∧ Fr h₀ L h' m' ∧ (∀ y, y ≠ x → m' y = mp c y) ∧ News h₀ L h' (led c ++ own) ∧ (∀ p ∈ led c, ∀ q ∈ own, p.1 ≠ q.1) ∧ P c

theorem fr_ext {h₀ h : Heap} {L : Addr} {m m' : Str → Option Value} (F : Fr h₀ L h m) (e : ∀ y, m y = m' y) : Fr h₀ L h m' := by
  rw [← funext e]; exact F
theorem news_sub {h₀ h : Heap} {L : Addr} {l l' : List (Addr × Obj)} (N : News h₀ L h l) (hs : ∀ p ∈ l', p ∈ l) : News h₀ L h l' := fun p hp => N p (hs p hp)

theorem loopW {I : Addr} {fp wr : List Addr} {n : Nat} {Pv : Nat → Value → Prop} {St : Nat → Heap → Prop} {m₀ : Str → Option Value} (mp : σ → Str → Option Value) (led : σ → List (Addr × Obj)) (P : Nat → σ → Prop) (c₀ : σ)
    (W : Walks prog w A I fp wr n Pv St) (hLf : env.locals ∉ fp) (hwr : ∀ b ∈ wr, h₀.get? b = none) (hob : ∀ i h, St i h → ∀ b ∈ fp, ∃ o, h.get? b = some o) (hnw : ∀ p ∈ led c₀, ∀ b ∈ fp, p.1 ≠ b) (hst : St 0 s.heap)
    (F : Fr h₀ env.locals s.heap m₀) (hm : ∀ y, y ≠ x → m₀ y = mp c₀ y) (N : News h₀ env.locals s.heap (led c₀)) (hp : P 0 c₀)
    (turn : ∀ i v c h tk own, i < n → Pv i v → P i c → (∀ p ∈ led c, ∀ q ∈ own, p.1 ≠ q.1) → Fr h₀ env.locals h (fun y => if y = x then some v else mp c y) → News h₀ env.locals h (led c ++ own) →
      wpAny (model prog w) A (execs body env) (TurnQ h₀ env.locals x mp led own (P (i + 1)) { s with heap := h, toks := tk } Q) E { s with heap := h, toks := tk })
    (done : ∀ c u h tk, P n c → Fr h₀ env.locals h (fun y => if y = x then u else mp c y) → News h₀ env.locals h (led c) → Q .next { s with heap := h, toks := tk }) :
    LoopAtV prog w A h₀ env x body Q E (.ref I) s := by
  refine ⟨I, fp, wr, n, Pv, St, m₀, led c₀, fun i m nx => ∃ c, nx = led c ∧ (∀ y, y ≠ x → m y = mp c y) ∧ P i c ∧ (∀ p ∈ led c, ∀ b ∈ fp, p.1 ≠ b), rfl, W, hLf, hwr, fun p hp hb => hnw p hp _ (W.sub _ hb) rfl, hst, F, N, ⟨c₀, rfl, hm, hp, hnw⟩, ?_, ?_⟩
  · rintro i v m₁ news₁ s₁ own ⟨hh', tk', rfl⟩ hin hP ⟨c, rfl, hm₁, hp₁, hoff⟩ _ hown hget hall hst₁ F₁ N₁
    have sep : ∀ p ∈ led c, ∀ q ∈ own, p.1 ≠ q.1 := fun p hp q hq => hoff p hp _ (hown q hq)
    have F₂ : Fr h₀ env.locals hh' (fun y => if y = x then some v else mp c y) := fr_ext F₁ fun y => by
      by_cases e : y = x
      · simp [e]
      · simp [e, hm₁ y e]
    have N₂ : News h₀ env.locals hh' (led c ++ own) := news_sub N₁ fun p hp => (List.mem_append.mp hp).elim (fun h => List.mem_append.mpr (.inr h)) fun h => List.mem_append.mpr (.inl h)
    refine wpAny_mono (turn i v c hh' tk' own hin hP hp₁ sep F₂ N₂) (fun f s₂ p => ?_) fun _ _ e => e
    have fin : (∃ c h' tk m', s₂ = { s with heap := h', toks := tk } ∧ Fr h₀ env.locals h' m' ∧ (∀ y, y ≠ x → m' y = mp c y) ∧ News h₀ env.locals h' (led c ++ own) ∧ (∀ p ∈ led c, ∀ q ∈ own, p.1 ≠ q.1) ∧ P (i + 1) c) →
        LoopStepU h₀ env.locals wr own (fun m nx => ∃ c, nx = led c ∧ (∀ y, y ≠ x → m y = mp c y) ∧ P (i + 1) c ∧ (∀ p ∈ led c, ∀ b ∈ fp, p.1 ≠ b)) { s with heap := hh', toks := tk' } .next s₂ := by
      rintro ⟨c', h', tk, m', e, F', hm', N', sep', hp'⟩
      have off' : ∀ p ∈ led c', ∀ b ∈ fp, p.1 ≠ b := fun p hp b hb e => by
        obtain ⟨o, ho⟩ := hob _ _ hst₁ b hb
        cases q : h₀.get? b with
        | none => exact sep' p hp (b, o) (hall b hb q o ho) e
        | some o' =>
          have z := (N' p (List.mem_append.mpr (.inl hp))).2.2
          rw [e, q] at z
          cases z
      exact ⟨rfl, h', tk, m', led c', e, F', news_sub N' fun p hp => (List.mem_append.mp hp).elim (fun h => List.mem_append.mpr (.inr h)) fun h => List.mem_append.mpr (.inl h), fun p hp hb => off' p hp _ (W.sub _ hb) rfl, c', rfl, hm', hp', off'⟩
    cases f with
    | ret v => exact .ret p
    | brk => exact .brk p
    | next => exact .next (fin p)
    | cont => exact .cont (fin p)
  · rintro h' tk m' news' F' N' _ ⟨c, rfl, hm', hp', _⟩
    exact done c (m' x) h' tk hp' (fr_ext F' fun y => by
      by_cases e : y = x
      · simp [e]
      · simp [e, hm' y e]) N'

theorem kstB_congr {x : Str} {r r' : Str → Option Value} (e : ∀ z, z ≠ x → r z = r' z) : ∀ {ps : List (Str × Value)} (y : Str), y ≠ x → kstB r ps y = kstB r' ps y
  | [], y, hy => e y hy
  | p :: ps, y, hy => by
    show (if y = p.1 then some p.2 else kstB r ps y) = if y = p.1 then some p.2 else kstB r' ps y
    rw [kstB_congr e y hy]
theorem size_next {h₀ h : Heap} {L : Addr} {m : Str → Option Value} (F : Fr h₀ L h m) : h₀.get? h.objs.size = none := by
  cases e : h₀.get? h.objs.size with
  | none => rfl
  | some o => exact absurd (Heap.lt_size (F.keep _ _ e)) (Nat.lt_irrefl _)


noncomputable def TurnP (h₀ : Heap) (L : Addr) (x : Str) (ps : σ → List (Str × Value)) (stored : List Str) (m₀ : Str → Option Value) (led : σ → List (Addr × Obj)) (own : List (Addr × Obj)) (P : σ → Prop) (s₁ : Shared) (Q : Flow → Shared → Prop) (f : Flow) (s₂ : Shared) : Prop :=
  match f with
  | .ret v => Q (.ret v) s₂
  | .brk => Q .next s₂
  | _ => ∃ c h' tk m', s₂ = { s₁ with heap := h', toks := tk } ∧ Fr h₀ L h' m' ∧ (∀ p ∈ ps c, m' p.1 = some p.2) ∧ (∀ z, z ≠ x → (∀ p ∈ ps c, z ≠ p.1) → stored.contains z = false → m' z = m₀ z) ∧ News h₀ L h' (led c ++ own) ∧ (∀ p ∈ led c, ∀ q ∈ own, p.1 ≠ q.1) ∧ P c

theorem turnP_ret {L : Addr} {ps : σ → List (Str × Value)} {stored : List Str} {m₀ : Str → Option Value} {led : σ → List (Addr × Obj)} {own : List (Addr × Obj)} {P : σ → Prop} {s₁ s₂ : Shared} {v : Value} (h : Q (.ret v) s₂) : TurnP h₀ L x ps stored m₀ led own P s₁ Q (.ret v) s₂ := h

theorem turnP_next {L : Addr} {ps : σ → List (Str × Value)} {stored : List Str} {m₀ : Str → Option Value} {led : σ → List (Addr × Obj)} {own : List (Addr × Obj)} {P : σ → Prop} {s₁ : Shared} {h' : Heap} {tk : Nat} {m' : Str → Option Value} (c : σ) (F : Fr h₀ L h' m') (e1 : ∀ p ∈ ps c, m' p.1 = some p.2) (e2 : ∀ z, z ≠ x → (∀ p ∈ ps c, z ≠ p.1) → stored.contains z = false → m' z = m₀ z) (N : News h₀ L h' (led c ++ own)) (sep : ∀ p ∈ led c, ∀ q ∈ own, p.1 ≠ q.1) (hP : P c) : TurnP h₀ L x ps stored m₀ led own P s₁ Q .next { s₁ with heap := h', toks := tk } :=
  ⟨c, h', tk, m', rfl, F, e1, e2, N, sep, hP⟩
theorem loopP {I : Addr} {fp wr : List Addr} {n : Nat} {Pv : Nat → Value → Prop} {St : Nat → Heap → Prop} {m₀ : Str → Option Value} (ps : σ → List (Str × Value)) (stored : List Str) (led : σ → List (Addr × Obj)) (P : Nat → σ → Prop) (c₀ : σ)
    (W : Walks prog w A I fp wr n Pv St) (hLf : env.locals ∉ fp) (hwr : ∀ b ∈ wr, h₀.get? b = none) (hob : ∀ i h, St i h → ∀ b ∈ fp, ∃ o, h.get? b = some o) (hnw : ∀ p ∈ led c₀, ∀ b ∈ fp, p.1 ≠ b) (hst : St 0 s.heap)
    (F : Fr h₀ env.locals s.heap m₀) (hk : ∀ p ∈ ps c₀, m₀ p.1 = some p.2) (N : News h₀ env.locals s.heap (led c₀)) (hp : P 0 c₀)
    (turn : ∀ i v c (u : Str → Option Value) h tk own, i < n → Pv i v → P i c → (∀ p ∈ led c, ∀ q ∈ own, p.1 ≠ q.1) → Fr h₀ env.locals h (fun y => if y = x then some v else kstB (fun z => if stored.contains z then u z else m₀ z) (ps c) y) → News h₀ env.locals h (led c ++ own) →
      wpAny (model prog w) A (execs body env) (TurnP h₀ env.locals x ps stored m₀ led own (P (i + 1)) { s with heap := h, toks := tk } Q) E { s with heap := h, toks := tk })
    (done : ∀ c (u : Str → Option Value) h tk, P n c → Fr h₀ env.locals h (fun y => if y = x then u y else kstB (fun z => if stored.contains z then u z else m₀ z) (ps c) y) → News h₀ env.locals h (led c) → Q .next { s with heap := h, toks := tk }) :
    LoopAtV prog w A h₀ env x body Q E (.ref I) s := by
  have off : ∀ (c : σ) (m : Str → Option Value), (∀ p ∈ ps c, m p.1 = some p.2) → (∀ z, z ≠ x → (∀ p ∈ ps c, z ≠ p.1) → stored.contains z = false → m z = m₀ z) → ∀ y, y ≠ x → m y = kstB (fun z => if stored.contains z then m z else m₀ z) (ps c) y := fun c m h1 h2 y hy => (kst_off h1 h2 hy).symm
  refine loopW (σ := σ × (Str → Option Value)) (fun c => kstB (fun z => if stored.contains z then c.2 z else m₀ z) (ps c.1)) (fun c => led c.1) (fun i c => P i c.1) (c₀, m₀) W hLf hwr hob hnw hst F (off _ _ hk fun _ _ _ _ => rfl) N hp ?_ ?_
  · rintro i v ⟨c, u⟩ h tk own hi hv hc sep F' N'
    refine wpAny_mono (turn i v c u h tk own hi hv hc sep F' N') (fun f s₂ q => ?_) fun _ _ e => e
    have fin : (∃ c h' tk' m', s₂ = { s with heap := h', toks := tk' } ∧ Fr h₀ env.locals h' m' ∧ (∀ p ∈ ps c, m' p.1 = some p.2) ∧ (∀ z, z ≠ x → (∀ p ∈ ps c, z ≠ p.1) → stored.contains z = false → m' z = m₀ z) ∧ News h₀ env.locals h' (led c ++ own) ∧ (∀ p ∈ led c, ∀ q ∈ own, p.1 ≠ q.1) ∧ P (i + 1) c) →
        ∃ (c : σ × (Str → Option Value)) (h' : Heap) (tk' : Nat) (m' : Str → Option Value), s₂ = { s with heap := h', toks := tk' } ∧ Fr h₀ env.locals h' m' ∧ (∀ y, y ≠ x → m' y = kstB (fun z => if stored.contains z then c.2 z else m₀ z) (ps c.1) y) ∧ News h₀ env.locals h' (led c.1 ++ own) ∧ (∀ p ∈ led c.1, ∀ q ∈ own, p.1 ≠ q.1) ∧ P (i + 1) c.1 := by
      rintro ⟨c', h', tk', m', e, F'', h1, h2, N'', sep', hp'⟩
      exact ⟨(c', m'), h', tk', m', e, F'', off _ _ h1 h2, N'', sep', hp'⟩
    cases f with
    | ret v => exact q
    | brk => exact q
    | next => exact fin q
    | cont => exact fin q
  · rintro ⟨c, u⟩ v h tk hc F' N'
    refine done c (fun y => if y = x then v else u y) h tk hc (fr_ext F' fun y => ?_) N'
    by_cases e : y = x
    · simp [e]
    · simp only [if_neg e]
      refine kstB_congr (fun z hz => ?_) y e
      simp [hz]

theorem loopL {l : Addr} {vs : List Value} {k : Nat} {m₀ : Str → Option Value} (ps : σ → List (Str × Value)) (stored : List Str) (led : σ → List (Addr × Obj)) (P : Nat → σ → Prop) (c₀ : σ)
    (hh : A.handled = none) {news : List (Addr × Obj)} (hl : (l, listOf vs.toArray k) ∈ news) (hn : ∀ p ∈ led c₀, p ∈ news) (hne : ∀ p ∈ led c₀, p.1 ≠ l)
    (F : Fr h₀ env.locals s.heap m₀) (hk : ∀ p ∈ ps c₀, m₀ p.1 = some p.2) (N : News h₀ env.locals s.heap news) (hp : P 0 c₀)
    (turn : ∀ i v c (u : Str → Option Value) h tk own, vs[i]? = some v → P i c → (∀ p ∈ led c, ∀ q ∈ own, p.1 ≠ q.1) → Fr h₀ env.locals h (fun y => if y = x then some v else kstB (fun z => if stored.contains z then u z else m₀ z) (ps c) y) → News h₀ env.locals h (led c ++ own) →
      wpAny (model prog w) A (execs body env) (TurnP h₀ env.locals x ps stored m₀ led own (P (i + 1)) { s with heap := h, toks := tk } Q) E { s with heap := h, toks := tk })
    (done : ∀ c (u : Str → Option Value) h tk, P vs.length c → Fr h₀ env.locals h (fun y => if y = x then u y else kstB (fun z => if stored.contains z then u z else m₀ z) (ps c) y) → News h₀ env.locals h (led c) → Q .next { s with heap := h, toks := tk }) :
    wpAny (model prog w) A (pyIter (.ref l)) (fun it s₂ => LoopAtV prog w A h₀ env x body Q E it s₂) E s := by
  have hls : s.heap.IsList l vs.toArray := ⟨_, (N _ hl).1, rfl, k, rfl⟩
  have hlt : l < s.heap.objs.size := Heap.lt_size (N _ hl).1
  refine wpAny_pyIter_list hls ?_
  have W := Walks.list (prog := prog) (w := w) hh s.heap.objs.size l (Nat.ne_of_lt hlt) vs.toArray
  rw [List.size_toArray] at W
  refine loopP (s := { s with heap := _ }) ps stored led P c₀ W ?_ ?_ ?_ ?_ ⟨⟨_, Heap.get?_push_size _ rfl, rfl, rfl⟩, hls.at fun o e => Heap.get?_push_of_some _ e⟩ (F.push _) hk (fun p hp => ⟨Heap.get?_push_of_some _ (N p (hn p hp)).1, (N p (hn p hp)).2⟩) hp ?_ done
  · intro hq
    rcases List.mem_cons.mp hq with e | hq
    · exact absurd F.ns.lt (e ▸ Nat.lt_irrefl _)
    · exact (N _ hl).2.1 (List.mem_singleton.mp hq).symm
  · intro b hb
    rw [List.mem_singleton.mp hb]
    exact size_next F
  · rintro i h ⟨⟨o, e, _⟩, ⟨o', e', _⟩⟩ b hb
    rcases List.mem_cons.mp hb with rfl | hb
    · exact ⟨o, e⟩
    · rw [List.mem_singleton.mp hb]; exact ⟨o', e'⟩
  · intro p hp b hb
    rcases List.mem_cons.mp hb with rfl | hb
    · exact Nat.ne_of_lt (Heap.lt_size (N p (hn p hp)).1)
    · rw [List.mem_singleton.mp hb]; exact hne p hp
  · intro i v c u h tk own _ hv hc sep F' N'
    exact turn i v c u h tk own (by simpa using hv) hc sep F' N'

theorem loopR {r : Addr} {a₀ b₀ : Int} {t₀ u₀ v₀ : Tok} {n : Nat} {m₀ : Str → Option Value} (ps : σ → List (Str × Value)) (stored : List Str) (led : σ → List (Addr × Obj)) (P : Nat → σ → Prop) (c₀ : σ)
    (hh : A.handled = none) (hr : IsRange s.heap r a₀ b₀ 1 t₀ u₀ v₀) (hsmall : Builtin.Range.small a₀ b₀ 1 = true) (hsz : Builtin.Range.rangeSize a₀ b₀ 1 = (n : Int))
    {news : List (Addr × Obj)} (hn : ∀ p ∈ led c₀, p ∈ news)
    (F : Fr h₀ env.locals s.heap m₀) (hk : ∀ p ∈ ps c₀, m₀ p.1 = some p.2) (N : News h₀ env.locals s.heap news) (hp : P 0 c₀)
    (turn : ∀ i t c (u : Str → Option Value) h tk own, i < n → P i c → (∀ p ∈ led c, ∀ q ∈ own, p.1 ≠ q.1) → Fr h₀ env.locals h (fun y => if y = x then some (.int (a₀ + (i : Nat)) t) else kstB (fun z => if stored.contains z then u z else m₀ z) (ps c) y) → News h₀ env.locals h (led c ++ own) →
      wpAny (model prog w) A (execs body env) (TurnP h₀ env.locals x ps stored m₀ led own (P (i + 1)) { s with heap := h, toks := tk } Q) E { s with heap := h, toks := tk })
    (done : ∀ c (u : Str → Option Value) h tk, P n c → Fr h₀ env.locals h (fun y => if y = x then u y else kstB (fun z => if stored.contains z then u z else m₀ z) (ps c) y) → News h₀ env.locals h (led c) → Q .next { s with heap := h, toks := tk }) :
    wpAny (model prog w) A (pyIter (.ref r)) (fun it s₂ => LoopAtV prog w A h₀ env x body Q E it s₂) E s := by
  refine wpAny_pyIter_range hr hsmall ?_
  have W : Walks prog w A s.heap.objs.size [s.heap.objs.size] [s.heap.objs.size] n (fun i v => i < n ∧ ∃ t, v = .int (a₀ + i * 1) t)
      (fun i h => IsRangeIter h s.heap.objs.size (a₀ + (i : Nat) * 1) ((n : Int) - (i : Nat)) 1) := (Walks.range hh _ a₀ 1 n).bound
  refine loopP (s := { s with heap := _ }) ps stored led P c₀ W ?_ ?_ ?_ ?_ (by show IsRangeIter _ _ _ _ _; rw [hsz]; simpa using Heap.get?_push_size _ rfl) (F.push _) hk (fun p hp => ⟨Heap.get?_push_of_some _ (N p (hn p hp)).1, (N p (hn p hp)).2⟩) hp ?_ done
  · intro hq
    exact absurd F.ns.lt ((List.mem_singleton.mp hq) ▸ Nat.lt_irrefl _)
  · intro b hb
    rw [List.mem_singleton.mp hb]
    exact size_next F
  · intro i h hi b hb
    rw [List.mem_singleton.mp hb]
    exact ⟨_, hi⟩
  · intro p hp b hb
    rw [List.mem_singleton.mp hb]
    exact Nat.ne_of_lt (Heap.lt_size (N p (hn p hp)).1)
  · rintro i v c u h tk own hin ⟨_, t, rfl⟩ hc sep F' N'
    exact turn i t c u h tk own hin hc sep (fr_ext F' fun y => by simp [Int.mul_one]) N'
end base
theorem kitAt_od {prog : Program} {w : World} {K : Type} [DecidableEq K] {knd : KeyKind prog w K} {h₀ h : Heap} {L a : Addr} {o : Obj} {news : List (Addr × Obj)} {kvs : List (K × Value)} (N : News h₀ L h news) (hm : (a, o) ∈ news) (hd : o.IsDictOf knd kvs) : KitAt a "dict" h := by
  obtain ⟨es, ep, hx, _⟩ := hd
  exact ⟨o, (N _ hm).1, hx.1⟩
theorem listAt {h₀ h : Heap} {L l : Addr} {vs : List Value} {n : Nat} {news : List (Addr × Obj)} (N : News h₀ L h news) (hm : (l, listOf vs.toArray n) ∈ news) : h.IsList l vs.toArray := ⟨_, (N _ hm).1, rfl, n, rfl⟩
theorem size8 {vs : List Value} (h : vs.length ≤ 8) : vs.toArray.size ≤ sizeLine := by rw [List.size_toArray, sizeLine_eq]; omega
theorem itemL {prog : Program} {w : World} {A : Around} {E : Value → Shared → Prop} {s : Shared} {value slice : PySem.Expr} {h₀ : Heap} {L l : Addr} {vs : List Value} {n : Nat} {news : List (Addr × Obj)} {k : Int} {u : Tok} {v : Value} {Q : Value → Shared → Prop}
    (N : News h₀ L s.heap news) (hm : (l, listOf vs.toArray n) ∈ news) (h0 : 0 ≤ k) (hhi : k < 2 ^ 63) (hx : vs[k.toNat]? = some v) (h : Q v s)
    (hs : subscripted slice false (.ref l) (.int k u) = operate [.ref l, .int k u] (getItem (.ref l) (.int k u)) := by with_unfolding_all rfl) :
    wpAny (model prog w) A (subscriptTail value slice (.ref l) (.int k u)) Q E s :=
  tail_any (listAt N hm).typeIs slot_list_getitem.lookup (wpAny_getItem_list (listAt N hm) h0 hhi (by simpa using hx) h) hs
theorem topNotIn_K {prog : Program} {w : World} {A : Around} {E : Value → Shared → Prop} {s : Shared} {K : Frag} {h₀ : Heap} {L a : Addr} {m : Str → Option Value} {es : Array DictEntry} {n : Nat} {x : Str} {t : Tok} {r : Option Value} {Q : Value → Shared → Prop}
    (F : Fr h₀ L s.heap m) (X₀ : K.In h₀) (hl : K.lookup a = some ⟨.type "dict", none, .dict es n, #[]⟩) (hk : KeysLit w.params es.toList) (e : nsIn K a x = some r) (lo : (a == sysModules) = false)
    (h : Q (.bool (!r.isSome)) { s with toks := s.toks + 1 }) : wpAny (model prog w) A (compareOp .NotIn (.str x t) (.ref a)) Q E s :=
  wpAny_notIn_of (strKind_is prog w x t) lo (mapOf_K (prog := prog) (X₀.keeps F.keep) hl hk) (by rw [find_K hl e]; exact h)
inductive PD where
  | int (i : Int)
  | name (s : Str)
  | ref (n g : Int)
  | arr (l : List PD)
  | dict (a : Addr) (l : List (Str × PD))

noncomputable abbrev prg : Program := PySem.Challenge.pw_pb0483_01

mutual
inductive ValIn (w : World) (R : List (Addr × Obj)) : Value → PD → Prop
  | int (i : Int) (t : Tok) : ValIn w R (.int i t) (.int i)
  | name {x dx : Addr} {h : Int} {k t : Tok} {n : Nat} (s : Str) : (x, instObj 183 dx) ∈ R → (dx, dictOf [⟨h, .str "text" k, .str s t⟩] n) ∈ R → ValIn w R (.ref x) (.name s)
  | ref {x dx : Addr} {h1 h2 : Int} {k1 k2 t1 t2 : Tok} {n : Nat} (i g : Int) : (x, instObj 254 dx) ∈ R → (dx, dictOf [⟨h1, .str "number" k1, .int i t1⟩, ⟨h2, .str "generation" k2, .int g t2⟩] n) ∈ R → ValIn w R (.ref x) (.ref i g)
  | arr {a : Addr} {vs : List Value} {n : Nat} {ds : List PD} : (a, listOf vs.toArray n) ∈ R → ValAll w R vs ds → ValIn w R (.ref a) (.arr ds)
  | dict {a : Addr} {o : Obj} {kvs : List (Str × Value)} {eds : List (Str × PD)} : (a, o) ∈ R → o.IsDictOf (PySem.strKind prg w) kvs → (a == sysModules) = false → EntAll w R kvs eds → ValIn w R (.ref a) (.dict a eds)
inductive ValAll (w : World) (R : List (Addr × Obj)) : List Value → List PD → Prop
  | nil : ValAll w R [] []
  | cons {v : Value} {vs : List Value} {d : PD} {ds : List PD} : ValIn w R v d → ValAll w R vs ds → ValAll w R (v :: vs) (d :: ds)
inductive EntAll (w : World) (R : List (Addr × Obj)) : List (Str × Value) → List (Str × PD) → Prop
  | nil : EntAll w R [] []
  | cons {k : Str} {v : Value} {kvs : List (Str × Value)} {d : PD} {eds : List (Str × PD)} : ValIn w R v d → EntAll w R kvs eds → EntAll w R ((k, v) :: kvs) ((k, d) :: eds)
end
theorem ValIn.mono {w : World} {R R' : List (Addr × Obj)} (hs : ∀ p ∈ R, p ∈ R') {v : Value} {d : PD} (h : ValIn w R v d) : ValIn w R' v d :=
  ValIn.rec (motive_1 := fun v d _ => ValIn w R' v d) (motive_2 := fun vs ds _ => ValAll w R' vs ds) (motive_3 := fun vs ds _ => EntAll w R' vs ds)
    (fun i t => .int i t) (fun s a b => .name s (hs _ a) (hs _ b)) (fun i g a b => .ref i g (hs _ a) (hs _ b)) (fun a _ r => .arr (hs _ a) r) (fun a b c _ r => .dict (hs _ a) b c r)
    .nil (fun _ _ a b => .cons a b) .nil (fun _ _ a b => .cons a b) h
noncomputable def kindS : PD → Str
  | .int _ => "int"
  | .name _ => "name"
  | .ref _ _ => "ref"
  | .arr _ => "array"
  | .dict _ _ => "dict"
noncomputable abbrev tupOf (its : Array Value) (n : Nat) : Obj := { cls := .type "tuple", data := .seq its n }
inductive ShelfAt (w : World) (R : List (Addr × Obj)) (sh : Addr) (kvs : List (Int × Value)) : Prop
  | mk (dsh tb tr : Addr) (otb otr : Obj) (h1 h2 : Int) (k1 k2 : Tok) (n : Nat) (r1 dr1 : Addr) (h3 h4 : Int) (k3 k4 t3 t4 : Tok) (n1 : Nat)
    (_ : (sh, instObj 363 dsh) ∈ R) (_ : (dsh, dictOf [⟨h1, .str "table" k1, .ref tb⟩, ⟨h2, .str "trailer" k2, .ref tr⟩] n) ∈ R)
    (_ : (tb, otb) ∈ R) (_ : otb.IsDictOf (PySem.intKind prg w) kvs) (_ : (tb == sysModules) = false)
    (_ : (tr, otr) ∈ R) (_ : otr.IsDictOf (PySem.strKind prg w) [("Root", .ref r1)]) (_ : (tr == sysModules) = false)
    (_ : (r1, instObj 254 dr1) ∈ R) (_ : (dr1, dictOf [⟨h3, .str "number" k3, .int 1 t3⟩, ⟨h4, .str "generation" k4, .int 0 t4⟩] n1) ∈ R)
    (d1 t1 : Addr) (od1 : Obj) (v1 : Value) (u1 : Tok) (n2 : Nat) (_ : valueAt kvs 1 = some (.ref t1)) (_ : (t1, tupOf #[.int 0 u1, .ref d1] n2) ∈ R) (_ : (d1, od1) ∈ R) (_ : od1.IsDictOf (PySem.strKind prg w) [("Pages", v1)]) (_ : (d1 == sysModules) = false)
theorem ShelfAt.mono {w : World} {R R' : List (Addr × Obj)} (hs : ∀ p ∈ R, p ∈ R') {sh : Addr} {kvs : List (Int × Value)} (h : ShelfAt w R sh kvs) : ShelfAt w R' sh kvs := by
  obtain ⟨dsh, tb, tr, otb, otr, h1, h2, k1, k2, n, r1, dr1, h3, h4, k3, k4, t3, t4, n1, a, b, c, d, e, f, g, i, j, k, d1, t1, od1, v1, u1, n2, l1, l2, l3, l4, l5⟩ := h
  exact ⟨dsh, tb, tr, otb, otr, h1, h2, k1, k2, n, r1, dr1, h3, h4, k3, k4, t3, t4, n1, hs _ a, hs _ b, hs _ c, d, e, hs _ f, g, i, hs _ j, hs _ k, d1, t1, od1, v1, u1, n2, l1, hs _ l2, hs _ l3, l4, l5⟩
theorem ShelfAt.inst {w : World} {R : List (Addr × Obj)} {sh : Addr} {kvs : List (Int × Value)} (h : ShelfAt w R sh kvs) :
    ∃ (dsh tb tr : Addr) (h1 h2 : Int) (k1 k2 : Tok) (n : Nat), (sh, instObj 363 dsh) ∈ R ∧ (dsh, dictOf [⟨h1, .str "table" k1, .ref tb⟩, ⟨h2, .str "trailer" k2, .ref tr⟩] n) ∈ R := by
  obtain ⟨dsh, tb, tr, otb, otr, h1, h2, k1, k2, n, r1, dr1, h3, h4, k3, k4, t3, t4, n1, a, b, _⟩ := h
  exact ⟨dsh, tb, tr, h1, h2, k1, k2, n, a, b⟩
theorem walks_keepAt {prog : Program} {w : World} {A : Around} {I : Addr} {fp wr : List Addr} {n : Nat} {P : Nat → Value → Prop} {St : Nat → Heap → Prop} (W : Walks prog w A I fp wr n P St) {l : Addr} {o : Obj} (hl : l ∈ fp) (hw : l ∉ wr) : Walks prog w A I fp wr n P (fun i h => St i h ∧ h.get? l = some o) where
  sub := W.sub
  frame := fun i h h' st hk => ⟨W.frame i h h' st.1 hk, hk l hl o st.2⟩
  item := fun i s Q E hi st hQ => W.item i s Q E hi st.1 fun v h' tk hp st' hk => hQ v h' tk hp ⟨st', hk l o hw st.2⟩ hk
  done := fun s Q E st hQ => W.done s Q E st.1 hQ
  self := fun i s Q E st hQ => W.self i s Q E st.1 hQ
section base2
variable {prog : Program} {w : World} {A : Around} {E : Value → Shared → Prop} {s : Shared} {env : Env} {h₀ : Heap} {x : Str} {body : List Stmt} {Q : Flow → Shared → Prop} {σ : Type}
theorem loopW2 {I : Addr} {fp wr : List Addr} {n : Nat} {Pv : Nat → Value → Prop} {St : Nat → Heap → Prop} {m₀ : Str → Option Value} (mp : σ → Str → Option Value) (led : σ → List (Addr × Obj)) (P : Nat → σ → Prop) (c₀ : σ)
    (W : Walks prog w A I fp wr n Pv St) (keep : List (Addr × Obj)) (hkp : ∀ i h, St i h → ∀ p ∈ keep, h.get? p.1 = some p.2) (hkf : ∀ p ∈ keep, p.1 ∈ fp ∧ h₀.get? p.1 = none) (hkw : ∀ p ∈ keep, p.1 ∉ wr) (hkN : News h₀ env.locals s.heap keep) (hLf : env.locals ∉ fp) (hwr : ∀ b ∈ wr, h₀.get? b = none) (hob : ∀ i h, St i h → ∀ b ∈ fp, ∃ o, h.get? b = some o) (hnw : ∀ p ∈ led c₀, ∀ b ∈ fp, p.1 ≠ b) (hst : St 0 s.heap)
    (F : Fr h₀ env.locals s.heap m₀) (hm : ∀ y, y ≠ x → m₀ y = mp c₀ y) (N : News h₀ env.locals s.heap (led c₀)) (hp : P 0 c₀)
    (turn : ∀ i v c h tk own, i < n → Pv i v → P i c → (∀ p ∈ keep, p ∈ own) → (∀ p ∈ led c, ∀ q ∈ own, p.1 ≠ q.1) → Fr h₀ env.locals h (fun y => if y = x then some v else mp c y) → News h₀ env.locals h (led c ++ own) →
      wpAny (model prog w) A (execs body env) (TurnQ h₀ env.locals x mp led own (P (i + 1)) { s with heap := h, toks := tk } Q) E { s with heap := h, toks := tk })
    (done : ∀ c u h tk, P n c → Fr h₀ env.locals h (fun y => if y = x then u else mp c y) → News h₀ env.locals h (led c ++ keep) → Q .next { s with heap := h, toks := tk }) :
    LoopAtV prog w A h₀ env x body Q E (.ref I) s := by
  have hJw : ∀ c, (∀ p ∈ led c, ∀ b ∈ fp, p.1 ≠ b) → ∀ p ∈ led c ++ keep, p.1 ∉ wr := fun c h p hp hb => (List.mem_append.mp hp).elim (fun hp => h p hp _ (W.sub _ hb) rfl) fun hp => hkw p hp hb
  refine ⟨I, fp, wr, n, Pv, St, m₀, led c₀ ++ keep, fun i m nx => ∃ c, nx = led c ++ keep ∧ (∀ y, y ≠ x → m y = mp c y) ∧ P i c ∧ (∀ p ∈ led c, ∀ b ∈ fp, p.1 ≠ b), rfl, W, hLf, hwr, hJw _ hnw, hst, F, fun p hp => (List.mem_append.mp hp).elim (N p) (hkN p), ⟨c₀, rfl, hm, hp, hnw⟩, ?_, ?_⟩
  · rintro i v m₁ news₁ s₁ own ⟨hh', tk', rfl⟩ hin hP ⟨c, rfl, hm₁, hp₁, hoff⟩ _ hown hget hall hst₁ F₁ N₁
    have sep : ∀ p ∈ led c, ∀ q ∈ own, p.1 ≠ q.1 := fun p hp q hq => hoff p hp _ (hown q hq)
    have F₂ : Fr h₀ env.locals hh' (fun y => if y = x then some v else mp c y) := fr_ext F₁ fun y => by
      by_cases e : y = x
      · simp [e]
      · simp [e, hm₁ y e]
    have N₂ : News h₀ env.locals hh' (led c ++ own) := news_sub N₁ fun p hp => (List.mem_append.mp hp).elim (fun h => List.mem_append.mpr (.inr (List.mem_append.mpr (.inl h)))) fun h => List.mem_append.mpr (.inl h)
    have kpo : ∀ p ∈ keep, p ∈ own := fun p hp => hall _ (hkf p hp).1 (hkf p hp).2 _ (hkp _ _ hst₁ p hp)
    refine wpAny_mono (turn i v c hh' tk' own hin hP hp₁ kpo sep F₂ N₂) (fun f s₂ p => ?_) fun _ _ e => e
    have fin : (∃ c h' tk m', s₂ = { s with heap := h', toks := tk } ∧ Fr h₀ env.locals h' m' ∧ (∀ y, y ≠ x → m' y = mp c y) ∧ News h₀ env.locals h' (led c ++ own) ∧ (∀ p ∈ led c, ∀ q ∈ own, p.1 ≠ q.1) ∧ P (i + 1) c) →
        LoopStepU h₀ env.locals wr own (fun m nx => ∃ c, nx = led c ++ keep ∧ (∀ y, y ≠ x → m y = mp c y) ∧ P (i + 1) c ∧ (∀ p ∈ led c, ∀ b ∈ fp, p.1 ≠ b)) { s with heap := hh', toks := tk' } .next s₂ := by
      rintro ⟨c', h', tk, m', e, F', hm', N', sep', hp'⟩
      have off' : ∀ p ∈ led c', ∀ b ∈ fp, p.1 ≠ b := fun p hp b hb e => by
        obtain ⟨o, ho⟩ := hob _ _ hst₁ b hb
        cases q : h₀.get? b with
        | none => exact sep' p hp (b, o) (hall b hb q o ho) e
        | some o' =>
          have z := (N' p (List.mem_append.mpr (.inl hp))).2.2
          rw [e, q] at z
          cases z
      exact ⟨rfl, h', tk, m', led c' ++ keep, e, F', news_sub N' fun p hp => (List.mem_append.mp hp).elim (fun h => List.mem_append.mpr (.inr h)) fun h => (List.mem_append.mp h).elim (fun h => List.mem_append.mpr (.inl h)) fun h => List.mem_append.mpr (.inr (kpo p h)), hJw _ off', c', rfl, hm', hp', off'⟩
    cases f with
    | ret v => exact .ret p
    | brk => exact .brk p
    | next => exact .next (fin p)
    | cont => exact .cont (fin p)
  · rintro h' tk m' news' F' N' _ ⟨c, rfl, hm', hp', _⟩
    exact done c (m' x) h' tk hp' (fr_ext F' fun y => by
      by_cases e : y = x
      · simp [e]
      · simp [e, hm' y e]) N'

theorem loopP2 {I : Addr} {fp wr : List Addr} {n : Nat} {Pv : Nat → Value → Prop} {St : Nat → Heap → Prop} {m₀ : Str → Option Value} (ps : σ → List (Str × Value)) (stored : List Str) (led : σ → List (Addr × Obj)) (P : Nat → σ → Prop) (c₀ : σ)
    (W : Walks prog w A I fp wr n Pv St) (keep : List (Addr × Obj)) (hkp : ∀ i h, St i h → ∀ p ∈ keep, h.get? p.1 = some p.2) (hkf : ∀ p ∈ keep, p.1 ∈ fp ∧ h₀.get? p.1 = none) (hkw : ∀ p ∈ keep, p.1 ∉ wr) (hkN : News h₀ env.locals s.heap keep) (hLf : env.locals ∉ fp) (hwr : ∀ b ∈ wr, h₀.get? b = none) (hob : ∀ i h, St i h → ∀ b ∈ fp, ∃ o, h.get? b = some o) (hnw : ∀ p ∈ led c₀, ∀ b ∈ fp, p.1 ≠ b) (hst : St 0 s.heap)
    (F : Fr h₀ env.locals s.heap m₀) (hk : ∀ p ∈ ps c₀, m₀ p.1 = some p.2) (N : News h₀ env.locals s.heap (led c₀)) (hp : P 0 c₀)
    (turn : ∀ i v c (u : Str → Option Value) h tk own, i < n → Pv i v → P i c → (∀ p ∈ keep, p ∈ own) → (∀ p ∈ led c, ∀ q ∈ own, p.1 ≠ q.1) → Fr h₀ env.locals h (fun y => if y = x then some v else kstB (fun z => if stored.contains z then u z else m₀ z) (ps c) y) → News h₀ env.locals h (led c ++ own) →
      wpAny (model prog w) A (execs body env) (TurnP h₀ env.locals x ps stored m₀ led own (P (i + 1)) { s with heap := h, toks := tk } Q) E { s with heap := h, toks := tk })
    (done : ∀ c (u : Str → Option Value) h tk, P n c → Fr h₀ env.locals h (fun y => if y = x then u y else kstB (fun z => if stored.contains z then u z else m₀ z) (ps c) y) → News h₀ env.locals h (led c ++ keep) → Q .next { s with heap := h, toks := tk }) :
    LoopAtV prog w A h₀ env x body Q E (.ref I) s := by
  have off : ∀ (c : σ) (m : Str → Option Value), (∀ p ∈ ps c, m p.1 = some p.2) → (∀ z, z ≠ x → (∀ p ∈ ps c, z ≠ p.1) → stored.contains z = false → m z = m₀ z) → ∀ y, y ≠ x → m y = kstB (fun z => if stored.contains z then m z else m₀ z) (ps c) y := fun c m h1 h2 y hy => (kst_off h1 h2 hy).symm
  refine loopW2 (σ := σ × (Str → Option Value)) (fun c => kstB (fun z => if stored.contains z then c.2 z else m₀ z) (ps c.1)) (fun c => led c.1) (fun i c => P i c.1) (c₀, m₀) W keep hkp hkf hkw hkN hLf hwr hob hnw hst F (off _ _ hk fun _ _ _ _ => rfl) N hp ?_ ?_
  · rintro i v ⟨c, u⟩ h tk own hi hv hc kp sep F' N'
    refine wpAny_mono (turn i v c u h tk own hi hv hc kp sep F' N') (fun f s₂ q => ?_) fun _ _ e => e
    have fin : (∃ c h' tk' m', s₂ = { s with heap := h', toks := tk' } ∧ Fr h₀ env.locals h' m' ∧ (∀ p ∈ ps c, m' p.1 = some p.2) ∧ (∀ z, z ≠ x → (∀ p ∈ ps c, z ≠ p.1) → stored.contains z = false → m' z = m₀ z) ∧ News h₀ env.locals h' (led c ++ own) ∧ (∀ p ∈ led c, ∀ q ∈ own, p.1 ≠ q.1) ∧ P (i + 1) c) →
        ∃ (c : σ × (Str → Option Value)) (h' : Heap) (tk' : Nat) (m' : Str → Option Value), s₂ = { s with heap := h', toks := tk' } ∧ Fr h₀ env.locals h' m' ∧ (∀ y, y ≠ x → m' y = kstB (fun z => if stored.contains z then c.2 z else m₀ z) (ps c.1) y) ∧ News h₀ env.locals h' (led c.1 ++ own) ∧ (∀ p ∈ led c.1, ∀ q ∈ own, p.1 ≠ q.1) ∧ P (i + 1) c.1 := by
      rintro ⟨c', h', tk', m', e, F'', h1, h2, N'', sep', hp'⟩
      exact ⟨(c', m'), h', tk', m', e, F'', off _ _ h1 h2, N'', sep', hp'⟩
    cases f with
    | ret v => exact q
    | brk => exact q
    | next => exact fin q
    | cont => exact fin q
  · rintro ⟨c, u⟩ v h tk hc F' N'
    refine done c (fun y => if y = x then v else u y) h tk hc (fr_ext F' fun y => ?_) N'
    by_cases e : y = x
    · simp [e]
    · simp only [if_neg e]
      refine kstB_congr (fun z hz => ?_) y e
      simp [hz]

theorem loopL2 {l : Addr} {vs : List Value} {k : Nat} {m₀ : Str → Option Value} (ps : σ → List (Str × Value)) (stored : List Str) (led : σ → List (Addr × Obj)) (P : Nat → σ → Prop) (c₀ : σ)
    (hh : A.handled = none) {news : List (Addr × Obj)} (hl : (l, listOf vs.toArray k) ∈ news) (hn : ∀ p ∈ led c₀, p ∈ news) (hne : ∀ p ∈ led c₀, p.1 ≠ l)
    (F : Fr h₀ env.locals s.heap m₀) (hk : ∀ p ∈ ps c₀, m₀ p.1 = some p.2) (N : News h₀ env.locals s.heap news) (hp : P 0 c₀)
    (turn : ∀ i v c (u : Str → Option Value) h tk own, vs[i]? = some v → P i c → (l, listOf vs.toArray k) ∈ own → (∀ p ∈ led c, ∀ q ∈ own, p.1 ≠ q.1) → Fr h₀ env.locals h (fun y => if y = x then some v else kstB (fun z => if stored.contains z then u z else m₀ z) (ps c) y) → News h₀ env.locals h (led c ++ own) →
      wpAny (model prog w) A (execs body env) (TurnP h₀ env.locals x ps stored m₀ led own (P (i + 1)) { s with heap := h, toks := tk } Q) E { s with heap := h, toks := tk })
    (done : ∀ c (u : Str → Option Value) h tk, P vs.length c → Fr h₀ env.locals h (fun y => if y = x then u y else kstB (fun z => if stored.contains z then u z else m₀ z) (ps c) y) → News h₀ env.locals h (led c ++ [(l, listOf vs.toArray k)]) → Q .next { s with heap := h, toks := tk }) :
    wpAny (model prog w) A (pyIter (.ref l)) (fun it s₂ => LoopAtV prog w A h₀ env x body Q E it s₂) E s := by
  have hls : s.heap.IsList l vs.toArray := ⟨_, (N _ hl).1, rfl, k, rfl⟩
  have hlt : l < s.heap.objs.size := Heap.lt_size (N _ hl).1
  refine wpAny_pyIter_list hls ?_
  have W := walks_keepAt (Walks.list (prog := prog) (w := w) hh s.heap.objs.size l (Nat.ne_of_lt hlt) vs.toArray) (l := l) (o := listOf vs.toArray k) (by simp) (by simpa using Nat.ne_of_lt hlt)
  rw [List.size_toArray] at W
  refine loopP2 (s := { s with heap := _ }) ps stored led P c₀ W [(l, listOf vs.toArray k)] (fun i h st p hp => by rw [List.mem_singleton.mp hp]; exact st.2) (fun p hp => by rw [List.mem_singleton.mp hp]; exact ⟨by simp, (N _ hl).2.2⟩) (fun p hp => by rw [List.mem_singleton.mp hp]; simpa using Nat.ne_of_lt hlt) (fun p hp => by rw [List.mem_singleton.mp hp]; exact ⟨Heap.get?_push_of_some _ (N _ hl).1, (N _ hl).2⟩) ?_ ?_ ?_ ?_ ⟨⟨⟨_, Heap.get?_push_size _ rfl, rfl, rfl⟩, hls.at fun o e => Heap.get?_push_of_some _ e⟩, Heap.get?_push_of_some _ (N _ hl).1⟩ (F.push _) hk (fun p hp => ⟨Heap.get?_push_of_some _ (N p (hn p hp)).1, (N p (hn p hp)).2⟩) hp ?_ done
  · intro hq
    rcases List.mem_cons.mp hq with e | hq
    · exact absurd F.ns.lt (e ▸ Nat.lt_irrefl _)
    · exact (N _ hl).2.1 (List.mem_singleton.mp hq).symm
  · intro b hb
    rw [List.mem_singleton.mp hb]
    exact size_next F
  · rintro i h ⟨⟨⟨o, e, _⟩, ⟨o', e', _⟩⟩, _⟩ b hb
    rcases List.mem_cons.mp hb with rfl | hb
    · exact ⟨o, e⟩
    · rw [List.mem_singleton.mp hb]; exact ⟨o', e'⟩
  · intro p hp b hb
    rcases List.mem_cons.mp hb with rfl | hb
    · exact Nat.ne_of_lt (Heap.lt_size (N p (hn p hp)).1)
    · rw [List.mem_singleton.mp hb]; exact hne p hp
  · intro i v c u h tk own _ hv hc kp sep F' N'
    exact turn i v c u h tk own (by simpa using hv) hc (kp _ (.head _)) sep F' N'

end base2
section gets
variable {prog : Program} {w : World} {K : Type} [DecidableEq K] {knd : KeyKind prog w K} {A : Around} {E : Value → Shared → Prop} {s : Shared} {h₀ : Heap} {L d : Addr} {news : List (Addr × Obj)} {o : Obj} {kvs : List (K × Value)} {k : K} {key v dflt : Value} {Q : Value → Shared → Prop}
   (N : News h₀ L s.heap news) (hp : (d, o) ∈ news) (hd : o.IsDictOf knd kvs) (lo : (d == sysModules) = false) (hkey : knd.is k key = true)
include N hp hd lo hkey
theorem get1S (hl : valueAt kvs k = some v) (h : Q v { s with toks := s.toks + 1 }) : wpAny (model prog w) A (call (.builtin "dict.get") [.ref d, key]) Q E s := kdg_get1 N hp hd lo hkey (some v) hl h
theorem get1N (hl : valueAt kvs k = none) (h : Q .none { s with toks := s.toks + 1 }) : wpAny (model prog w) A (call (.builtin "dict.get") [.ref d, key]) Q E s := kdg_get1 N hp hd lo hkey none hl h
theorem get2S (hl : valueAt kvs k = some v) (h : Q v { s with toks := s.toks + 1 }) : wpAny (model prog w) A (call (.builtin "dict.get") [.ref d, key, dflt]) Q E s := kdg_get2 N hp hd lo hkey (some v) hl h
theorem get2N (hl : valueAt kvs k = none) (h : Q dflt { s with toks := s.toks + 1 }) : wpAny (model prog w) A (call (.builtin "dict.get") [.ref d, key, dflt]) Q E s := kdg_get2 N hp hd lo hkey none hl h
end gets
section small
variable {prog : Program} {w : World} {A : Around} {E : Value → Shared → Prop} {s : Shared} {env : Env} {h₀ : Heap} {x : Str} {body : List Stmt} {Q : Flow → Shared → Prop} {σ : Type}
theorem absQ {α : Type} {M : Model} {y : Sem α} {Q : α → Shared → Prop} (h : ∀ (K : α → Shared → Prop), (∀ a s, Q a s → K a s) → wpAny M A y K E s) : wpAny M A y Q E s :=
  h Q fun _ _ h => h
theorem loopRK {r : Addr} {a₀ b₀ : Int} {t₀ u₀ v₀ : Tok} {n : Nat} {m₀ : Str → Option Value} (ps : σ → List (Str × Value)) (stored : List Str) (led : σ → List (Addr × Obj)) (P : Nat → σ → Prop) (c₀ : σ)
    (hh : A.handled = none) (hr : IsRange s.heap r a₀ b₀ 1 t₀ u₀ v₀) (hsmall : Builtin.Range.small a₀ b₀ 1 = true) (hsz : Builtin.Range.rangeSize a₀ b₀ 1 = (n : Int))
    {news : List (Addr × Obj)} (hn : ∀ p ∈ led c₀, p ∈ news)
    (F : Fr h₀ env.locals s.heap m₀) (hk : ∀ p ∈ ps c₀, m₀ p.1 = some p.2) (N : News h₀ env.locals s.heap news) (hp : P 0 c₀)
    (turn : ∀ i t c (u' : Str → Option Value) h tk own (K : Flow → Shared → Prop), (∀ z, stored.contains z = false → u' z = m₀ z) → (∀ f s₂, TurnP h₀ env.locals x ps stored m₀ led own (P (i + 1)) { s with heap := h, toks := tk } Q f s₂ → K f s₂) → i < n → P i c → (∀ p ∈ led c, ∀ q ∈ own, p.1 ≠ q.1) → Fr h₀ env.locals h (fun y => if y = x then some (.int (a₀ + (i : Nat)) t) else kstB u' (ps c) y) → News h₀ env.locals h (led c ++ own) →
      wpAny (model prog w) A (execs body env) K E { s with heap := h, toks := tk })
    (done : ∀ c (u' : Str → Option Value) h tk, (∀ z, z ≠ x → stored.contains z = false → u' z = m₀ z) → P n c → Fr h₀ env.locals h (kstB u' (ps c)) → News h₀ env.locals h (led c) → Q .next { s with heap := h, toks := tk }) (hx : ∀ c, ∀ p ∈ ps c, p.1 ≠ x) :
    wpAny (model prog w) A (pyIter (.ref r)) (fun it s₂ => LoopAtV prog w A h₀ env x body Q E it s₂) E s :=
  loopR ps stored led P c₀ hh hr hsmall hsz hn F hk N hp
    (fun i t c u h tk own hi hP hsep F' N' => turn i t c (fun z => if stored.contains z then u z else m₀ z) h tk own _ (fun z hz => by rw [hz]; rfl) (fun _ _ h => h) hi hP hsep F' N')
    fun c u h tk hP F' N' => done c (fun z => if z = x then u z else if stored.contains z then u z else m₀ z) h tk (fun z hz hs => by rw [if_neg hz, hs]; rfl) hP (fr_ext F' fun y => by
      by_cases e : y = x
      · subst e
        rw [if_pos rfl]
        have : ∀ (l : List (Str × Value)), (∀ p ∈ l, p.1 ≠ y) → kstB (fun z => if z = y then u z else if stored.contains z then u z else m₀ z) l y = u y := by
          intro l
          induction l with
          | nil => intro _; simp [kstB]
          | cons p l ih =>
            intro hl
            have h1 : ¬ (y = p.1) := fun e => hl p (.head _) e.symm
            show (if y = p.1 then some p.2 else _) = _
            rw [if_neg h1]
            exact ih fun q hq => hl q (.tail _ hq)
        exact (this _ (hx c)).symm
      · rw [if_neg e]
        exact kstB_congr (x := x) (fun z hz => by simp [hz]) y e) N'
end small
local macro_rules | `(tactic| dl_mem) => `(tactic| with_reducible first | assumption | (apply cj1; assumption) | (apply cj2; assumption) | (apply cj3; assumption) | (apply cj4; assumption) | (apply cj5; assumption) | (apply cj6; assumption) | (apply cj7; assumption) | (apply cj8; assumption) | (apply cj9; assumption) | (apply cj10; assumption) | (apply cj11; assumption) | (apply cj12; assumption) | fail "no such order")
local macro_rules | `(tactic| dl_open) => `(tactic| (k_asm; k_asm; k_asm; k_asm; k_asm; first | exact rfl | assumption))
local macro_rules | `(tactic| kp_kind $k) => do let n := Lean.Syntax.mkNumLit k.getString; `(tactic| (k_here; (with_reducible show wpAny _ _ (call (Value.ref $n) _) _ _ _)))
local macro_rules | `(tactic| tbn_below) => `(tactic| with_reducible first | exact Nat.le_refl _ | (refine Nat.lt_trans ?_ (by with_reducible assumption); dl_mem) | (refine Nat.le_of_lt ?_; dl_mem) | (refine Nat.le_of_lt (Nat.lt_trans ?_ (by with_reducible assumption)); dl_mem) | fail "no such order")
local macro_rules | `(tactic| tbn_below) => `(tactic| with_reducible dl_mem)
local macro_rules | `(tactic| k_ne) => `(tactic| with_reducible first | (refine Nat.ne_of_gt ?_; dl_mem) | (refine Nat.ne_of_lt ?_; dl_mem) | (refine Nat.ne_of_gt (Nat.lt_trans ?_ (by with_reducible assumption)); dl_mem) | (refine Nat.ne_of_lt (Nat.lt_trans ?_ (by with_reducible assumption)); dl_mem) | fail "no such order")
local macro_rules | `(tactic| k_all) => `(tactic| first | exact allNil | (refine' allCons ?a ?b; (case a => k_ne); (case b => k_all)))
local macro_rules | `(tactic| k_all) => `(tactic| assumption)
local macro_rules | `(tactic| walk_at "exec For Name Subscript cons nil") => `(tactic| (k_here; (rename Fr _ _ _ _ => lF'mz); (with_unfolding_all refine' For_invVF lF'mz ?k1 ?k2 ?_; (case k1 => exact rfl); (case k2 => exact rfl); k_whole)))
local macro_rules | `(tactic| walk_at "execs nil") => `(tactic| (dsimp only))
local macro_rules | `(tactic| walk_at "execs cons") => `(tactic| (dsimp only))
local macro_rules | `(tactic| kit_dict) => `(tactic| exact kitAt_od (by k_asm) (by k_mem) (by k_asm))
local macro_rules | `(tactic| walk_at "getMethod ref") => `(tactic| (k_here; (with_reducible show wpAny _ _ (getMethod (Value.ref _) (Str.ofString "get") _) _ _ _); k_dflt (apply kdg_method (knd := PySem.strKind _ _); k_asm; k_mem; k_asm)))
local macro_rules | `(tactic| dl_puts) => `(tactic| (k_asm; k_mem; k_asm; k_asm; first | exact strKind_is _ _ _ _ | exact intKind_is _ _ _ _))
local macro_rules | `(tactic| walk_at "call builtin:dict.get") => `(tactic| (k_here; k_dflt (first | (apply kdg_get1 (knd := PySem.strKind _ _); dl_puts; assumption) | (apply get1S (knd := PySem.strKind _ _); dl_puts; rfl) | (apply get1N (knd := PySem.strKind _ _); dl_puts; rfl) | (apply kdg_get2 (knd := PySem.strKind _ _); dl_puts; assumption) | (apply get2S (knd := PySem.strKind _ _); dl_puts; rfl) | (apply get2N (knd := PySem.strKind _ _); dl_puts; rfl)); (try dsimp only [Option.getD])))
local macro_rules | `(tactic| walk_at "subscriptTail") => `(tactic| (k_here; (with_reducible show wpAny _ _ (subscriptTail _ _ (Value.ref _) (Value.str _ _)) _ _ _); k_dflt (refine kda_item (knd := PySem.strKind _ _) (by k_asm) (by k_mem) (by k_asm) (strKind_is _ _ _ _) (by rfl) ?_)))
local macro_rules | `(tactic| walk_at "exec For Name Call cons nil") => `(tactic| (k_here; (rename Fr _ _ _ _ => lF'mz); (with_unfolding_all refine' For_invVF lF'mz ?k1 ?k2 ?_; (case k1 => exact rfl); (case k2 => exact rfl); k_whole)))
local macro_rules | `(tactic| walk_at "TurnP") => `(tactic| (refine turnP_ret ?_; try dsimp only))
local macro_rules | `(tactic| kwd_less) => `(tactic| first | exact fun _ h => h | exact fun _ h => List.mem_append.mpr (.inl h) | exact fun _ h => .tail _ h | exact fun _ h => .tail _ (.tail _ h) | (intro p9mz h9mz; simp only [List.mem_append, List.mem_cons, List.not_mem_nil, or_false, false_or] at h9mz ⊢; first | (simp only [h9mz, true_or, or_true]; done) | ((repeat' (with_reducible refine Or.elim h9mz (fun h9mz => ?_) (fun h9mz => ?_))) <;> simp only [h9mz, true_or, or_true] <;> done)))
local macro_rules | `(tactic| kwd_rel) => `(tactic| first | assumption | exact news_sub (by assumption) (by kwd_less))
local macro_rules | `(tactic| walk_at "getMethod ref") => `(tactic| (k_here; (with_reducible show wpAny _ _ (getMethod (Value.ref _) (Str.ofString "get") _) _ _ _); k_dflt (apply kdg_method (knd := PySem.intKind _ _); k_asm; k_mem; k_asm)))
local macro_rules | `(tactic| walk_at "call builtin:dict.get") => `(tactic| (k_here; k_dflt (first | (apply get2S (knd := PySem.intKind _ _); dl_puts; assumption) | (apply get2N (knd := PySem.intKind _ _); dl_puts; assumption)); (try dsimp only [Option.getD])))
local macro_rules | `(tactic| k_mem) => `(tactic| first | (refine List.mem_append.mpr (Or.inl ?_); k_mem) | (refine List.mem_append.mpr (Or.inr ?_); k_mem))
local macro_rules | `(tactic| kwd_inv) => `(tactic| (intro zmz h1mz h2mz h3mz; (try simp only [List.contains_cons, List.contains_nil, Bool.or_false, Bool.or_eq_false_iff, beq_eq_false_iff_ne, ne_eq] at h3mz); (try simp only [List.mem_cons, List.not_mem_nil, or_false, forall_eq_or_imp, forall_eq, ne_eq] at h2mz); first | rfl | (simp [h1mz, h2mz, h3mz, kstB]; done)))
local macro_rules | `(tactic| ktr_room) => `(tactic| ((try simp only [depth_under_make, depth_under_kw, depth_in1, depth_deeper, depth_caller]); (try dsimp only [ktrTop]); (first | (refine Nat.lt_of_le_of_lt ?_ (by assumption : _ < recursionLimit); (try simp only [Nat.add_assoc, Nat.reduceAdd]); first | exact Nat.add_le_add_left (by decide) _ | exact Nat.le_add_right _ _) | omega)))
local macro_rules | `(tactic| k_room) => `(tactic| ktr_room)
local macro_rules | `(tactic| ktr_units) => `(tactic| ((try simp only [units_in1, units_deeper, Around.mark_units, units_caller]); (try dsimp only [ktrTop]); (first | (refine Nat.lt_of_le_of_lt ?_ (by assumption : _ < cLine); (try simp only [Nat.add_assoc, Nat.reduceAdd]); first | exact Nat.add_le_add_left (by decide) _ | exact Nat.le_add_right _ _) | omega)))
local macro_rules | `(tactic| walk_at "call type:list") => `(tactic| (k_here; (with_reducible show wpAny _ _ (call (Value.type _) [Value.ref _]) _ _ _); k_dflt (refine list_copyK (by k_asm) (by k_asm) (listAt (by k_asm) (by k_mem)) ?_ (size8 (by assumption))); intro D'mz c'mz h'mz F'mz N'mz l1mz))
local macro_rules | `(tactic| k_mem) => `(tactic| ((show _ ∈ (_ : List (Addr × Obj))); ktr_member))
local macro_rules | `(tactic| walk_at "subscriptTail") => `(tactic| (k_here; (with_reducible show wpAny _ _ (subscriptTail _ _ (Value.ref _) (Value.int _ _)) _ _ _); k_dflt (refine itemL (by k_asm) (by k_mem) (by decide) (by decide) (by rfl) ?_ (by with_unfolding_all rfl))))
local macro_rules | `(tactic| walk_at "eval ListComp") => `(tactic| (k_here; first
  | ((with_reducible show wpAny _ _ (PySem.eval (PySem.Expr.ListComp _ [⟨_, _, [], _⟩] _ _) _) _ _ _); k_dflt (refine LCg.ListComp_U (F₀ := by k_asm) (by with_unfolding_all rfl) (by decide) (by rfl) (by decide) (by rfl) ?_))
  | ((with_reducible show wpAny _ _ (PySem.eval (PySem.Expr.ListComp _ [⟨_, _, [_], _⟩] _ _) _) _ _ _); k_dflt (refine LCt.ListComp_T (F₀ := by k_asm) (by with_unfolding_all rfl) (by decide) (by rfl) (by decide) (by rfl) ?_))))
local macro_rules | `(tactic| walk_at "exec Assign cons ListComp") => `(tactic| (k_here; first
  | ((with_reducible show wpAny _ _ (PySem.exec (PySem.Stmt.Assign _ (PySem.Expr.ListComp _ [⟨_, _, [], _⟩] _ _) _) _) _ _ _); k_dflt (refine LCg.Assign_ListComp_U (F₀ := by k_asm) (by rfl) (by with_unfolding_all rfl) (by with_unfolding_all rfl) (by decide) (by rfl) (by decide) (by rfl) (by rfl) (by rfl) ?_))
  | ((with_reducible show wpAny _ _ (PySem.exec (PySem.Stmt.Assign _ (PySem.Expr.ListComp _ [⟨_, _, [_], _⟩] _ _) _) _) _ _ _); k_dflt (refine LCt.Assign_ListComp_T (F₀ := by k_asm) (by rfl) (by with_unfolding_all rfl) (by with_unfolding_all rfl) (by decide) (by rfl) (by decide) (by rfl) (by rfl) (by rfl) ?_))))
local macro_rules | `(tactic| walk_at "CompSrc") => `(tactic| (k_here; k_dflt (refine LCg.CompSrc.ledger (by rfl) (by k_asm) (by k_asm) (by k_mem) (by first | size_fits | exact Nat.le_of_ble_eq_true rfl) ?_; intro g'mz; lcg_lit)))
local macro_rules | `(tactic| walk_at "CompSrcT") => `(tactic| (k_here; k_dflt (refine LCt.CompSrcT.ledger (by rfl) (by k_asm) (by k_asm) (by k_mem) (by first | size_fits | exact Nat.le_of_ble_eq_true rfl) ?_; intro g'mz; lct_lit)))
local macro_rules | `(tactic| walk_at "compareOp NotIn str ref") => `(tactic| (k_here; k_dflt (refine' topNotIn_K ?F ?X ?l ?k ?e ?o ?_; (case F => k_asm); (case X => k_asm); (case l => k_is); (case k => k_keys); (case e => k_is); (case o => decide))))
local macro_rules | `(tactic| walk_at "binaryOp Mult ref int") => `(tactic| (k_here; (with_reducible show wpAny _ _ (binaryOp Operator.Mult (Value.ref _) (Value.int _ _)) _ _ _); k_dflt (apply KMa.mul; k_asm; k_asm; exact listAt (by k_asm) (by k_mem); decide; decide; decide; rfl); intro D'mz h'mz F'mz N'mz l1mz; (try k_lt l1mz)))
section draw
local macro_rules | `(tactic| walk_at "binaryOp Mult int int") => `(tactic| (refine PyProof.Rows.mul_int ?_ (IntMulOk.of_left (intBits_le_64 (by simp; omega) (by simp; omega)))))
theorem draw_spec {w : World} {p : Program} {loose : List Str} {mean : ExcName → Option Value} {mg mb : Str → Option Value}
   (dp un : Nat) (gd : Option (List Code)) (cn : Str) (cs : Scope) (a : Addr) (ccd : Value) (cl : List (Str × Addr)) (outer : List Env) (A₀ : Around) (base h₀ : Heap) (L : Addr) (m : Str → Option Value) (news : List (Addr × Obj)) (s : Shared)
   (Q E : Value → Shared → Prop) (pen : Addr) (n k many : Int) (t1 t2 t3 : Tok) (c : Nat)
   (B : Below A₀ base outer h₀) (F : Fr h₀ L s.heap m) (X : (hd.heap_39 w.params).In h₀) (N : News h₀ L s.heap ((pen, listOf #[.int n t1, .int k t2] c) :: news))
   (T : Top p loose mean mg mb h₀) (hk : cs.kind = .function) (hoff : ∀ q ∈ news, q.1 ≠ pen) (hk0 : 0 ≤ k) (hk1 : k < 1000) (hm0 : 0 < many) (hm1 : many < 100)
   (hd : dp + 5 < recursionLimit) (hu : un + 40 < cLine)
   (ret : ∀ d n' t t1' t2' h' tk', Fr h₀ L h' m → News h₀ L h' ((pen, listOf #[.int n' t1', .int (k + 1) t2'] c) :: news) → 0 ≤ d → d < many → Q (.int d t) { s with heap := h', toks := tk' }) :
   wpAny (model PySem.Challenge.pw_pb0483_01 w) (ktrTop dp un gd cn cs L a ccd cl outer) (call (.ref 520) [.ref pen, .int many t3]) Q E s := by
  refine wpAny_call ?_
  k_dflt ktr_enter
  k_steps
  · refine ret _ _ _ _ _ _ _ (by assumption) (by assumption) ?_ ?_
    · simp; exact Int.fmod_nonneg_of_pos _ hm0
    · simp; exact Int.fmod_lt_of_pos _ hm0
  · refine ret _ _ _ _ _ _ _ (by assumption) (by assumption) ?_ ?_
    · simp; exact Int.fmod_nonneg_of_pos _ hm0
    · simp; exact Int.fmod_lt_of_pos _ hm0

theorem updF_split {d : Addr} {o : Obj} {l : List (Addr × Obj)} {g : Obj → List (Addr × Obj)} (U : UpdF d o l g) : ∃ r, (∀ p ∈ r, p.1 ≠ d) ∧ (∀ p, p ∈ (d, o) :: r → p ∈ l) ∧ ∀ o', ∀ p ∈ g o', p ∈ (d, o') :: r := by
  obtain ⟨pre, post, rfl, hg, a, b⟩ := U.split
  refine ⟨pre ++ post, fun p hp => (List.mem_append.mp hp).elim (a p) (b p), fun p hp => ?_, fun o' p hp => ?_⟩
  · rcases List.mem_cons.mp hp with rfl | hp
    · exact List.mem_append.mpr (.inr (.head _))
    · exact (List.mem_append.mp hp).elim (fun h => List.mem_append.mpr (.inl h)) fun h => List.mem_append.mpr (.inr (.tail _ h))
  · rw [hg] at hp
    rcases List.mem_append.mp hp with hp | hp
    · exact .tail _ (List.mem_append.mpr (.inl hp))
    · rcases List.mem_cons.mp hp with rfl | hp
      · exact .head _
      · exact .tail _ (List.mem_append.mpr (.inr hp))

theorem draw_use {w : World} {p : Program} {loose : List Str} {mean : ExcName → Option Value} {mg mb : Str → Option Value}
   {dp un : Nat} {gd : Option (List Code)} {cn : Str} {cs : Scope} {a : Addr} {ccd : Value} {cl : List (Str × Addr)} {outer : List Env} {A₀ : Around} {base h₀ : Heap} {L : Addr} {m : Str → Option Value} {news : List (Addr × Obj)} {g : Obj → List (Addr × Obj)} {s : Shared}
   {Q E : Value → Shared → Prop} {pen : Addr} {n k many : Int} {t1 t2 t3 : Tok} {c : Nat}
   (B : Below A₀ base outer h₀) (F : Fr h₀ L s.heap m) (X : (hd.heap_39 w.params).In h₀) (N : News h₀ L s.heap news)
   (T : Top p loose mean mg mb h₀) (hk : cs.kind = .function) (U : UpdF pen (listOf #[.int n t1, .int k t2] c) news g) (hk0 : 0 ≤ k) (hk1 : k < 1000) (hm0 : 0 < many) (hm1 : many < 100)
   (hd : dp + 5 < recursionLimit) (hu : un + 40 < cLine)
   (ret : ∀ d n' t t1' t2' h' tk', Fr h₀ L h' m → News h₀ L h' (g (listOf #[.int n' t1', .int (k + 1) t2'] c)) → 0 ≤ d → d < many → Q (.int d t) { s with heap := h', toks := tk' }) :
   wpAny (model PySem.Challenge.pw_pb0483_01 w) (ktrTop dp un gd cn cs L a ccd cl outer) (call (.ref 520) [.ref pen, .int many t3]) Q E s := by
  obtain ⟨r, h1, h2, h3⟩ := updF_split U
  exact draw_spec dp un gd cn cs a ccd cl outer A₀ base h₀ L m r s Q E pen n k many t1 t2 t3 c B F X (news_sub N h2) T hk h1 hk0 hk1 hm0 hm1 hd hu
    fun d n' t t1' t2' h' tk' F' N' a b => ret d n' t t1' t2' h' tk' F' (news_sub N' (h3 _)) a b
end draw
section pen
local macro_rules | `(tactic| walk_at "pyIter ref") => `(tactic| ((with_reducible show wpAny _ _ (pyIter _) (fun it s₂ => LoopAtV _ _ _ _ _ _ _ _ _ it s₂) _ _); refine hold ?_))
local macro_rules | `(tactic| walk_at "unused") => `(tactic| skip)
theorem pen_spec {w : World} {p : Program} {loose : List Str} {mean : ExcName → Option Value} {mg mb : Str → Option Value}
   (dp un : Nat) (gd : Option (List Code)) (cn : Str) (cs : Scope) (a : Addr) (ccd : Value) (cl : List (Str × Addr)) (outer : List Env) (A₀ : Around) (base h₀ : Heap) (L : Addr) (m : Str → Option Value) (news : List (Addr × Obj)) (s : Shared)
   (Q E : Value → Shared → Prop) (l : Addr) (vs : List Value) (ns : List Int)
   (B : Below A₀ base outer h₀) (F : Fr h₀ L s.heap m) (X : (hd.heap_39 w.params).In h₀) (N : News h₀ L s.heap news)
   (T : Top p loose mean mg mb h₀) (hk : cs.kind = .function) (hl : base.IsList l vs.toArray) (hi : IntsAre vs ns) (hz : vs.length ≤ 63)
   (hd : dp + 5 < recursionLimit) (hu : un + 40 < cLine)
   (ret : ∀ pen n t1 t2 c h' tk', Fr h₀ L h' m → News h₀ L h' ((pen, listOf #[.int n t1, .int 0 t2] c) :: news) → (∀ q ∈ news, q.1 < pen) → Q (.ref pen) { s with heap := h', toks := tk' }) :
   wpAny (model PySem.Challenge.pw_pb0483_01 w) (ktrTop dp un gd cn cs L a ccd cl outer) (call (.ref 513) [.ref l]) Q E s := by
  refine wpAny_call ?_
  k_dflt ktr_enter
  rename Below _ _ _ _ => B9
  k_lift B9
  k_steps
  unfold Hold
  rename News _ _ _ _ => N9
  refine loopL (σ := Int × Tok) (fun c => [(Str.ofString "number", .int c.1 c.2)]) [] (fun _ => news) (fun _ _ => True) (_, _) (by rfl) (by k_mem) (fun _ h => .tail _ h) (fun p hp => Nat.ne_of_lt ((by assumption : ∀ q ∈ news, q.1 < _) p hp)) (by assumption) (List.forall_mem_cons.mpr ⟨rfl, List.forall_mem_nil _⟩) (by assumption) trivial ?_ ?_
  all_goals (try clear N9)
  · intro i v c u h tk own hv _ hsep F' N'
    obtain ⟨n', t', rfl, hn'⟩ := IntsAre.at (by assumption) i v hv
    obtain ⟨c1, c2⟩ := c
    (try k_fold)
    k_steps
    all_goals exact ⟨(_, _), _, _, _, rfl, by assumption, List.forall_mem_cons.mpr ⟨rfl, List.forall_mem_nil _⟩, (by intro z h1 h2 h3; have h4 := h2 _ (.head _); simp [h1, h4, kstB]), by assumption, by assumption, trivial⟩
  · intro c u h tk _ F' N'
    (try k_fold)
    k_steps
    exact ret _ _ _ _ _ _ _ (by assumption) (by assumption) (by assumption)
end pen
section make
variable {w : World} {p : Program} {loose : List Str} {mean : ExcName → Option Value} {mg mb : Str → Option Value}
   {dp un : Nat} {gd : Option (List Code)} {cn : Str} {cs : Scope} {a : Addr} {ccd : Value} {cl : List (Str × Addr)} {outer : List Env} {A₀ : Around} {base h₀ : Heap} {L : Addr} {m : Str → Option Value} {news : List (Addr × Obj)} {s : Shared}
   {Q E : Value → Shared → Prop}
theorem name_make {x : Str} {t : Tok}
   (B : Below A₀ base outer h₀) (F : Fr h₀ L s.heap m) (X : (hd.heap_39 w.params).In h₀) (N : News h₀ L s.heap news)
   (T : Top p loose mean mg mb h₀) (hk : cs.kind = .function)
   (hd : dp + 20 < recursionLimit)
   (ret : ∀ x' dx h' tk' k, Fr h₀ L h' m → News h₀ L h' ((x', instObj 183 dx) :: (dx, dictOf [⟨PyData.keyHash w.params "text", .str "text" k, .str x t⟩] 1) :: news) → (∀ q ∈ news, q.1 < dx) → dx < x' → Q (.ref x') { s with heap := h', toks := tk' }) :
   wpAny (model prg w) (ktrTop dp un gd cn cs L a ccd cl outer) (call (.ref 183) [.str x t]) Q E s := by
  k_dflt (refine' call_cls ?k1 ?k2 ?k3 ?k4 ?k5 ?k6 ?_; (case k1 => k_asm); (case k2 => k_asm); (case k3 => k_asm); (case k4 => k_is); (case k5 => k_is); (case k6 => k_is); k_whole; intro x' d' h' F' N' l1' l2'; ktr_enter)
  k_steps
  exact ret _ _ _ _ _ (by assumption) (by assumption) l1' l2'
theorem ref_make {i j : Int} {t u : Tok}
   (B : Below A₀ base outer h₀) (F : Fr h₀ L s.heap m) (X : (hd.heap_39 w.params).In h₀) (N : News h₀ L s.heap news)
   (T : Top p loose mean mg mb h₀) (hk : cs.kind = .function)
   (hd : dp + 20 < recursionLimit)
   (ret : ∀ x' dx h' tk' k1 k2, Fr h₀ L h' m → News h₀ L h' ((x', instObj 254 dx) :: (dx, dictOf [⟨PyData.keyHash w.params "number", .str "number" k1, .int i t⟩, ⟨PyData.keyHash w.params "generation", .str "generation" k2, .int j u⟩] 2) :: news) → (∀ q ∈ news, q.1 < dx) → dx < x' → Q (.ref x') { s with heap := h', toks := tk' }) :
   wpAny (model prg w) (ktrTop dp un gd cn cs L a ccd cl outer) (call (.ref 254) [.int i t, .int j u]) Q E s := by
  k_dflt (refine' call_cls ?k1 ?k2 ?k3 ?k4 ?k5 ?k6 ?_; (case k1 => k_asm); (case k2 => k_asm); (case k3 => k_asm); (case k4 => k_is); (case k5 => k_is); (case k6 => k_is); k_whole; intro x' d' h' F' N' l1' l2'; ktr_enter)
  k_steps
  exact ret _ _ _ _ _ _ (by assumption) (by assumption) l1' l2'
theorem pair_spec {x dx : Addr} {h1 h2 i j : Int} {k1 k2 t u : Tok} {n : Nat}
   (B : Below A₀ base outer h₀) (F : Fr h₀ L s.heap m) (X : (hd.heap_39 w.params).In h₀) (N : News h₀ L s.heap news)
   (T : Top p loose mean mg mb h₀) (hk : cs.kind = .function)
   (hx : (x, instObj 254 dx) ∈ news) (hdx : (dx, dictOf [⟨h1, .str "number" k1, .int i t⟩, ⟨h2, .str "generation" k2, .int j u⟩] n) ∈ news)
   (hd : dp + 5 < recursionLimit)
   (ret : ∀ D h' tk', Fr h₀ L h' m → News h₀ L h' ((D, { cls := .type "tuple", data := .seq #[.int i t, .int j u] }) :: news) → (∀ q ∈ news, q.1 < D) → Q (.ref D) { s with heap := h', toks := tk' }) :
   wpAny (model prg w) (ktrTop dp un gd cn cs L a ccd cl outer) (call (.ref 251) [.ref x]) Q E s := by
  refine wpAny_call ?_
  k_dflt ktr_enter
  k_steps
  exact ret _ _ _ (by assumption) (by assumption) (by first | assumption | exact ktn_ltOf (by tbn_find))
end make
local macro_rules | `(tactic| walk_at "call ref") => `(tactic| (kp_kind "183"; k_dflt (apply name_make; dl_open; ktr_room); intro x'mz d'mz h'mz tk'mz k'mz F'mz N'mz l1mz l2mz; (try k_lt l1mz); (try k_lt2 l2mz)))
local macro_rules | `(tactic| walk_at "call ref") => `(tactic| (kp_kind "254"; k_dflt (apply ref_make; dl_open; ktr_room); intro x'mz d'mz h'mz tk'mz k1'mz k2'mz F'mz N'mz l1mz l2mz; (try k_lt l1mz); (try k_lt2 l2mz)))
local macro_rules | `(tactic| walk_at "call ref") => `(tactic| (kp_kind "251"; k_dflt (apply pair_spec; dl_open; k_mem; k_mem; ktr_room); intro D'mz h'mz tk'mz F'mz N'mz l1mz; (try k_lt l1mz)))
section kind
theorem kind_spec {w : World} {p : Program} {loose : List Str} {mean : ExcName → Option Value} {mg mb : Str → Option Value}
   (dp un : Nat) (gd : Option (List Code)) (cn : Str) (cs : Scope) (a : Addr) (ccd : Value) (cl : List (Str × Addr)) (outer : List Env) (A₀ : Around) (base h₀ : Heap) (L : Addr) (m : Str → Option Value) (news : List (Addr × Obj)) (s : Shared)
   (Q E : Value → Shared → Prop) (v : Value) (d : PD)
   (B : Below A₀ base outer h₀) (F : Fr h₀ L s.heap m) (X : (hd.heap_39 w.params).In h₀) (N : News h₀ L s.heap news)
   (T : Top p loose mean mg mb h₀) (hk : cs.kind = .function) (hV : ValIn w news v d)
   (hd : dp + 5 < recursionLimit) (hu : un + 40 < cLine)
   (ret : ∀ t h' tk', Fr h₀ L h' m → News h₀ L h' news → Q (.str (kindS d) t) { s with heap := h', toks := tk' }) :
   wpAny (model prg w) (ktrTop dp un gd cn cs L a ccd cl outer) (call (.ref 265) [v]) Q E s := by
  cases hV
  all_goals
    refine wpAny_call ?_
    k_dflt ktr_enter
    k_steps
  all_goals exact ret _ _ _ (by assumption) (by assumption)
theorem kind_none {w : World} {p : Program} {loose : List Str} {mean : ExcName → Option Value} {mg mb : Str → Option Value}
   (dp un : Nat) (gd : Option (List Code)) (cn : Str) (cs : Scope) (a : Addr) (ccd : Value) (cl : List (Str × Addr)) (outer : List Env) (A₀ : Around) (base h₀ : Heap) (L : Addr) (m : Str → Option Value) (news : List (Addr × Obj)) (s : Shared)
   (Q E : Value → Shared → Prop)
   (B : Below A₀ base outer h₀) (F : Fr h₀ L s.heap m) (X : (hd.heap_39 w.params).In h₀) (N : News h₀ L s.heap news)
   (T : Top p loose mean mg mb h₀) (hk : cs.kind = .function)
   (hd : dp + 5 < recursionLimit) (hu : un + 40 < cLine)
   (ret : ∀ t h' tk', Fr h₀ L h' m → News h₀ L h' news → Q (.str (Str.ofString "null") t) { s with heap := h', toks := tk' }) :
   wpAny (model prg w) (ktrTop dp un gd cn cs L a ccd cl outer) (call (.ref 265) [.none]) Q E s := by
  all_goals
    refine wpAny_call ?_
    k_dflt ktr_enter
    k_steps
  all_goals exact ret _ _ _ (by assumption) (by assumption)
end kind
local macro_rules | `(tactic| walk_at "call ref") => `(tactic| (kp_kind "265"; k_dflt (first | (apply kind_none; dl_open; ktr_room; ktr_units) | (apply kind_spec; dl_open; ktd_rel; ktr_room; ktr_units)); intro t'mz h'mz tk'mz F'mz N'mz; (try dsimp only [kindS])))
section fetch
local macro_rules | `(tactic| walk_at "pyIter ref") => `(tactic| ((with_reducible show wpAny _ _ (pyIter _) (fun it s₂ => LoopAtV _ _ _ _ _ _ _ _ _ it s₂) _ _); refine hold ?_))
variable {w : World} {p : Program} {loose : List Str} {mean : ExcName → Option Value} {mg mb : Str → Option Value}
   {dp un : Nat} {gd : Option (List Code)} {cn : Str} {cs : Scope} {a : Addr} {ccd : Value} {cl : List (Str × Addr)} {outer : List Env} {A₀ : Around} {base h₀ : Heap} {L : Addr} {m : Str → Option Value} {news : List (Addr × Obj)} {s : Shared}
   {Q E : Value → Shared → Prop} {sh : Addr} {kvs : List (Int × Value)} {v : Value}
inductive Plain (w : World) (R : List (Addr × Obj)) : Value → Prop
  | none : Plain w R .none
  | val {v : Value} {d : PD} : ValIn w R v d → (∀ i g, d ≠ .ref i g) → Plain w R v
theorem notRef_is {A : Around} {R : List (Addr × Obj)} (X : (hd.heap_39 w.params).In h₀) (F : Fr h₀ L s.heap m) (N : News h₀ L s.heap news) (h : Plain w R v) (hR : ∀ p ∈ R, p ∈ news) (q : ∀ tk, Q (.bool false) { s with toks := tk }) : wpAny (model prg w) A (call (.builtin "isinstance") [v, .ref 254]) Q E s := by
  cases h with
  | none =>
    k_steps
    exact q _
  | val hV hn =>
    replace hV := hV.mono hR
    cases hV
    case ref i g _ _ => exact absurd rfl (hn i g)
    all_goals
      k_steps
      exact q _
section
local macro_rules | `(tactic| walk_at "call builtin:isinstance") => `(tactic| (k_here; k_dflt (apply notRef_is; k_asm; k_asm; k_asm; assumption; kwd_less); intro tk'mz))
theorem fetch_plain
   (B : Below A₀ base outer h₀) (F : Fr h₀ L s.heap m) (X : (hd.heap_39 w.params).In h₀) (N : News h₀ L s.heap news)
   (T : Top p loose mean mg mb h₀) (hk : cs.kind = .function) (hS : ShelfAt w news sh kvs) (hV : Plain w news v)
   (hd : dp + 5 < recursionLimit) (hu : un + 40 < cLine)
   (ret : ∀ h' tk', Fr h₀ L h' m → News h₀ L h' news → Q v { s with heap := h', toks := tk' }) :
   wpAny (model prg w) (ktrTop dp un gd cn cs L a ccd cl outer) (call (.ref 299) [.ref sh, v]) Q E s := by
  obtain ⟨dsh, tb, tr, otb, otr, h1, h2, k1, k2, n, r1, dr1, h3, h4, k3, k4, t3, t4, n1, hs1, hs2, hs3, hs4, hs5, hs6, hs7, hs8, hs9, hs10⟩ := hS
  refine wpAny_call ?_
  k_dflt ktr_enter
  k_steps
  unfold Hold
  refine loopR (σ := Value) (fun c => [(Str.ofString "here", c)]) [Str.ofString "generation", Str.ofString "found"] (fun _ => news) (fun i c => i = 0 ∧ c = v) v (by rfl) (by assumption) (by rfl) (by rfl) (fun _ h => h) (by assumption) (psCons rfl psNil) (by assumption) ⟨rfl, rfl⟩ ?_ ?_
  · intro i t c u h tk own hi hP hsep F' N'
    obtain ⟨rfl, rfl⟩ := hP
    (try k_fold)
    k_steps
    exact ret _ _ (by assumption) (by kwd_rel)
  · intro c u h tk hP _ _
    exact absurd hP.1 (by decide)
end
theorem fetch_miss {x dx : Addr} {h1 h2 i : Int} {k1 k2 t1 t2 : Tok} {n : Nat}
   (B : Below A₀ base outer h₀) (F : Fr h₀ L s.heap m) (X : (hd.heap_39 w.params).In h₀) (N : News h₀ L s.heap news)
   (T : Top p loose mean mg mb h₀) (hk : cs.kind = .function) (hS : ShelfAt w news sh kvs)
   (hx : (x, instObj 254 dx) ∈ news) (hdx : (dx, dictOf [⟨h1, .str "number" k1, .int i t1⟩, ⟨h2, .str "generation" k2, .int 0 t2⟩] n) ∈ news) (hq : valueAt kvs i = none)
   (hd : dp + 5 < recursionLimit) (hu : un + 40 < cLine)
   (ret : ∀ h' tk', Fr h₀ L h' m → News h₀ L h' news → Q .none { s with heap := h', toks := tk' }) :
   wpAny (model prg w) (ktrTop dp un gd cn cs L a ccd cl outer) (call (.ref 299) [.ref sh, .ref x]) Q E s := by
  obtain ⟨dsh, tb, tr, otb, otr, h1, h2, k1, k2, n, r1, dr1, h3, h4, k3, k4, t3, t4, n1, hs1, hs2, hs3, hs4, hs5, hs6, hs7, hs8, hs9, hs10⟩ := hS
  refine wpAny_call ?_
  k_dflt ktr_enter
  k_steps
  unfold Hold
  refine loopR (σ := Value) (fun c => [(Str.ofString "here", c)]) [Str.ofString "generation", Str.ofString "found"] (fun _ => news) (fun i c => i = 0 ∧ c = _) _ (by rfl) (by assumption) (by rfl) (by rfl) (fun _ h => h) (by assumption) (List.forall_mem_cons.mpr ⟨rfl, List.forall_mem_nil _⟩) (by assumption) ⟨rfl, rfl⟩ ?_ ?_
  · intro i t c u h tk own hi hP hsep F' N'
    obtain ⟨rfl, rfl⟩ := hP
    (try k_fold)
    k_steps
    exact ret _ _ (by assumption) (by kwd_rel)
  · intro c u h tk hP _ _
    exact absurd hP.1 (by decide)

theorem fetch_hit {x dx b tup : Addr} {h1 h2 i : Int} {k1 k2 t1 t2 t5 : Tok} {n n' : Nat} {o : Obj} {es : List (Str × Value)}
   (B : Below A₀ base outer h₀) (F : Fr h₀ L s.heap m) (X : (hd.heap_39 w.params).In h₀) (N : News h₀ L s.heap news)
   (T : Top p loose mean mg mb h₀) (hk : cs.kind = .function) (hS : ShelfAt w news sh kvs)
   (hx : (x, instObj 254 dx) ∈ news) (hdx : (dx, dictOf [⟨h1, .str "number" k1, .int i t1⟩, ⟨h2, .str "generation" k2, .int 0 t2⟩] n) ∈ news) (hq : valueAt kvs i = some (.ref tup))
   (ht : (tup, tupOf #[.int 0 t5, .ref b] n') ∈ news) (hb : (b, o) ∈ news) (ho : o.IsDictOf (PySem.strKind prg w) es)
   (hd : dp + 5 < recursionLimit) (hu : un + 40 < cLine)
   (ret : ∀ h' tk', Fr h₀ L h' m → News h₀ L h' news → Q (.ref b) { s with heap := h', toks := tk' }) :
   wpAny (model prg w) (ktrTop dp un gd cn cs L a ccd cl outer) (call (.ref 299) [.ref sh, .ref x]) Q E s := by
  obtain ⟨dsh, tb, tr, otb, otr, h1, h2, k1, k2, n, r1, dr1, h3, h4, k3, k4, t3, t4, n1, hs1, hs2, hs3, hs4, hs5, hs6, hs7, hs8, hs9, hs10⟩ := hS
  refine wpAny_call ?_
  k_dflt ktr_enter
  k_steps
  unfold Hold
  refine loopR (σ := Value) (fun c => [(Str.ofString "here", c)]) [Str.ofString "generation", Str.ofString "found"] (fun _ => news) (fun i c => (i = 0 ∧ c = .ref x) ∨ (i = 1 ∧ c = .ref b)) _ (by rfl) (by assumption) (by rfl) (by rfl) (fun _ h => h) (by assumption) (List.forall_mem_cons.mpr ⟨rfl, List.forall_mem_nil _⟩) (by assumption) (.inl ⟨rfl, rfl⟩) ?_ ?_
  · intro i t c u h tk own hi hP hsep F' N'
    rcases hP with hP | hP
    · obtain ⟨rfl, rfl⟩ := hP
      (try k_fold)
      k_steps
      exact turnP_next _ (by assumption) (psCons rfl psNil) (by kwd_inv) (by kwd_rel) (by assumption) (.inr ⟨rfl, rfl⟩)
    · obtain ⟨rfl, rfl⟩ := hP
      (try k_fold)
      k_steps
      exact ret _ _ (by assumption) (by kwd_rel)
  · intro c u h tk hP _ _
    rcases hP with hP | hP
    · exact absurd hP.1 (by decide)
    · exact absurd hP.1 (by decide)
end fetch
inductive Fetches (w : World) (R : List (Addr × Obj)) (kvs : List (Int × Value)) : Value → Value → Prop
  | none : Fetches w R kvs .none .none
  | plain {v : Value} {d : PD} : ValIn w R v d → (∀ i g, d ≠ .ref i g) → Fetches w R kvs v v
  | miss {x dx : Addr} {h1 h2 i : Int} {k1 k2 t1 t2 : Tok} {n : Nat} : (x, instObj 254 dx) ∈ R → (dx, dictOf [⟨h1, .str "number" k1, .int i t1⟩, ⟨h2, .str "generation" k2, .int 0 t2⟩] n) ∈ R → valueAt kvs i = none → Fetches w R kvs (.ref x) .none
  | hit {x dx b tup : Addr} {h1 h2 i : Int} {k1 k2 t1 t2 t5 : Tok} {n n' : Nat} {o : Obj} {es : List (Str × Value)} : (x, instObj 254 dx) ∈ R → (dx, dictOf [⟨h1, .str "number" k1, .int i t1⟩, ⟨h2, .str "generation" k2, .int 0 t2⟩] n) ∈ R → valueAt kvs i = some (.ref tup) →
      (tup, tupOf #[.int 0 t5, .ref b] n') ∈ R → (b, o) ∈ R → o.IsDictOf (PySem.strKind prg w) es → Fetches w R kvs (.ref x) (.ref b)
theorem Fetches.mono {w : World} {R R' : List (Addr × Obj)} {kvs : List (Int × Value)} (hs : ∀ p ∈ R, p ∈ R') {v r : Value} (h : Fetches w R kvs v r) : Fetches w R' kvs v r := by
  cases h with
  | none => exact .none
  | plain h1 h2 => exact .plain (h1.mono hs) h2
  | miss h1 h2 h3 => exact .miss (hs _ h1) (hs _ h2) h3
  | hit h1 h2 h3 h4 h5 h6 => exact .hit (hs _ h1) (hs _ h2) h3 (hs _ h4) (hs _ h5) h6
section fetchS
variable {w : World} {p : Program} {loose : List Str} {mean : ExcName → Option Value} {mg mb : Str → Option Value}
   {dp un : Nat} {gd : Option (List Code)} {cn : Str} {cs : Scope} {a : Addr} {ccd : Value} {cl : List (Str × Addr)} {outer : List Env} {A₀ : Around} {base h₀ : Heap} {L : Addr} {m : Str → Option Value} {news R : List (Addr × Obj)} {s : Shared}
   {Q E : Value → Shared → Prop} {sh : Addr} {kvs : List (Int × Value)} {v r : Value}
theorem fetch_spec (B : Below A₀ base outer h₀) (F : Fr h₀ L s.heap m) (X : (hd.heap_39 w.params).In h₀) (N : News h₀ L s.heap news)
   (T : Top p loose mean mg mb h₀) (hk : cs.kind = .function) (hS : ShelfAt w R sh kvs) (hV : Fetches w R kvs v r) (hR : ∀ p ∈ R, p ∈ news)
   (hd : dp + 5 < recursionLimit) (hu : un + 40 < cLine)
   (ret : ∀ h' tk', Fr h₀ L h' m → News h₀ L h' news → Q r { s with heap := h', toks := tk' }) :
   wpAny (model prg w) (ktrTop dp un gd cn cs L a ccd cl outer) (call (.ref 299) [.ref sh, v]) Q E s := by
  have hS' := hS.mono hR
  cases hV with
  | none => exact fetch_plain B F X N T hk hS' .none hd hu ret
  | plain h1 h2 => exact fetch_plain B F X N T hk hS' (.val (h1.mono hR) h2) hd hu ret
  | miss h1 h2 h3 => exact fetch_miss B F X N T hk hS' (hR _ h1) (hR _ h2) h3 hd hu ret
  | hit h1 h2 h3 h4 h5 h6 => exact fetch_hit B F X N T hk hS' (hR _ h1) (hR _ h2) h3 (hR _ h4) (hR _ h5) h6 hd hu ret
end fetchS
local macro_rules | `(tactic| ktr_rel) => `(tactic| first | assumption | exact Fetches.none | exact Fetches.plain (by assumption) (by exact fun _ _ h => nomatch h))
local macro_rules | `(tactic| walk_at "call ref") => `(tactic| (kp_kind "299"; k_dflt (apply fetch_spec; dl_open; assumption; ktr_rel; kwd_less; ktr_room; ktr_units); intro h'mz tk'mz F'mz N'mz))
section get
variable {w : World} {p : Program} {loose : List Str} {mean : ExcName → Option Value} {mg mb : Str → Option Value}
   {dp un : Nat} {gd : Option (List Code)} {cn : Str} {cs : Scope} {a : Addr} {ccd : Value} {cl : List (Str × Addr)} {outer : List Env} {A₀ : Around} {base h₀ : Heap} {L : Addr} {m : Str → Option Value} {news R : List (Addr × Obj)} {s : Shared}
   {Q E : Value → Shared → Prop} {sh : Addr} {kvs : List (Int × Value)} {v r : Value}
local macro_rules | `(tactic| walk_at "unused") => `(tactic| skip)
local macro_rules | `(tactic| walk_at "unused") => `(tactic| skip)
theorem get_spec {b : Addr} {o : Obj} {es : List (Str × Value)} {key : Str} {t : Tok} {x : Option Value}
   (B : Below A₀ base outer h₀) (F : Fr h₀ L s.heap m) (X : (hd.heap_39 w.params).In h₀) (N : News h₀ L s.heap news)
   (T : Top p loose mean mg mb h₀) (hk : cs.kind = .function) (hS : ShelfAt w R sh kvs)
   (hb : (b, o) ∈ news) (ho : o.IsDictOf (PySem.strKind prg w) es) (hbs : (b == sysModules) = false) (hx : valueAt es key = x) (hV : Fetches w R kvs (x.getD .none) r) (hR : ∀ p ∈ R, p ∈ news)
   (hd : dp + 10 < recursionLimit) (hu : un + 80 < cLine)
   (ret : ∀ h' tk', Fr h₀ L h' m → News h₀ L h' news → Q r { s with heap := h', toks := tk' }) :
   wpAny (model prg w) (ktrTop dp un gd cn cs L a ccd cl outer) (call (.ref 306) [.ref sh, .ref b, .str key t]) Q E s := by
  obtain ⟨dsh, tb, tr, otb, otr, h1, h2, k1, k2, n, r1, dr1, h3, h4, k3, k4, t3, t4, n1, hs1, hs2, hs3, hs4, hs5, hs6, hs7, hs8, hs9, hs10⟩ := hS.mono hR
  refine wpAny_call ?_
  k_dflt ktr_enter
  k_steps
  exact ret _ _ (by assumption) (by kwd_rel)
end get
local macro_rules | `(tactic| walk_at "call ref") => `(tactic| (kp_kind "306"; k_dflt (first | (apply get_spec; dl_open; assumption; k_mem; assumption; assumption; assumption; ktr_rel; kwd_less; ktr_room; ktr_units) | (apply get_spec (x := some _); dl_open; assumption; k_mem; assumption; assumption; rfl; ktr_rel; kwd_less; ktr_room; ktr_units) | (apply get_spec (x := none); dl_open; assumption; k_mem; assumption; assumption; rfl; ktr_rel; kwd_less; ktr_room; ktr_units)); intro h'mz tk'mz F'mz N'mz; (try dsimp only [Option.getD])))
inductive Follows (w : World) (R : List (Addr × Obj)) (kvs : List (Int × Value)) : Option Value → List Value → Prop
  | none : Follows w R kvs none []
  | miss {v : Value} : Fetches w R kvs v .none → Follows w R kvs (some v) []
  | one {v : Value} {b : Addr} {o : Obj} {es : List (Str × Value)} : Fetches w R kvs v (.ref b) → (b, o) ∈ R → o.IsDictOf (PySem.strKind prg w) es → handedIn v = true → Follows w R kvs (some v) [v]
  | row {a : Addr} {vs : List Value} {n : Nat} : (a, listOf vs.toArray n) ∈ R → Fetches w R kvs (.ref a) (.ref a) → vs.length ≤ 8 → Follows w R kvs (some (.ref a)) vs
local macro_rules | `(tactic| walk_at "unused") => `(tactic| skip)
local macro_rules | `(tactic| walk_at "unused") => `(tactic| skip)
theorem Follows.mono {w : World} {R R' : List (Addr × Obj)} {kvs : List (Int × Value)} (hs : ∀ p ∈ R, p ∈ R') {x : Option Value} {ks : List Value} (h : Follows w R kvs x ks) : Follows w R' kvs x ks := by
  cases h with
  | none => exact .none
  | miss h => exact .miss (h.mono hs)
  | one h1 h2 h3 h4 => exact .one (h1.mono hs) (hs _ h2) h3 h4
  | row h1 h2 h3 => exact .row (hs _ h1) (h2.mono hs) h3
section follow
variable {w : World} {p : Program} {loose : List Str} {mean : ExcName → Option Value} {mg mb : Str → Option Value}
   {dp un : Nat} {gd : Option (List Code)} {cn : Str} {cs : Scope} {a : Addr} {ccd : Value} {cl : List (Str × Addr)} {outer : List Env} {A₀ : Around} {base h₀ : Heap} {L : Addr} {m : Str → Option Value} {news R : List (Addr × Obj)} {s : Shared}
   {Q E : Value → Shared → Prop} {sh : Addr} {kvs : List (Int × Value)}
theorem following_spec {b : Addr} {o : Obj} {es : List (Str × Value)} {x : Option Value} {ks : List Value}
   (B : Below A₀ base outer h₀) (F : Fr h₀ L s.heap m) (X : (hd.heap_39 w.params).In h₀) (N : News h₀ L s.heap news)
   (T : Top p loose mean mg mb h₀) (hk : cs.kind = .function) (hS : ShelfAt w R sh kvs)
   (hb : (b, o) ∈ news) (ho : o.IsDictOf (PySem.strKind prg w) es) (hbs : (b == sysModules) = false) (hx : valueAt es "Next" = x) (hV : Follows w R kvs x ks) (hR : ∀ p ∈ R, p ∈ news)
   (hd : dp + 20 < recursionLimit) (hu : un + 120 < cLine)
   (ret : ∀ l h' tk' n, Fr h₀ L h' m → News h₀ L h' ((l, listOf ks.toArray n) :: news) → (∀ p ∈ news, p.1 < l) → Q (.ref l) { s with heap := h', toks := tk' }) :
   wpAny (model prg w) (ktrTop dp un gd cn cs L a ccd cl outer) (call (.ref 494) [.ref sh, .ref b]) Q E s := by
  obtain ⟨dsh, tb, tr, otb, otr, h1, h2, k1, k2, n, r1, dr1, h3, h4, k3, k4, t3, t4, n1, hs1, hs2, hs3, hs4, hs5, hs6, hs7, hs8, hs9, hs10⟩ := hS.mono hR
  replace hV := hV.mono hR
  replace hS := hS.mono hR
  clear hR
  cases hV
  all_goals
    refine wpAny_call ?_
    k_dflt ktr_enter
    k_steps
  all_goals first | exact ret _ _ _ _ (by assumption) (by kwd_rel) (by assumption) | skip
end follow
local macro_rules | `(tactic| walk_at "call ref") => `(tactic| (kp_kind "494"; k_dflt (apply following_spec; dl_open; assumption; k_mem; assumption; assumption; (first | assumption | rfl); assumption; kwd_less; ktr_room; ktr_units); intro l'mz h'mz tk'mz n'mz F'mz N'mz l1'mz))
section word
variable {w : World} {p : Program} {loose : List Str} {mean : ExcName → Option Value} {mg mb : Str → Option Value}
   {dp un : Nat} {gd : Option (List Code)} {cn : Str} {cs : Scope} {a : Addr} {ccd : Value} {cl : List (Str × Addr)} {outer : List Env} {A₀ : Around} {base h₀ : Heap} {L : Addr} {m : Str → Option Value} {news R : List (Addr × Obj)} {s : Shared}
   {Q E : Value → Shared → Prop} {sh : Addr} {kvs : List (Int × Value)}
theorem word_spec {b : Addr} {o : Obj} {es : List (Str × Value)} {v : Value} {x : Str}
   (B : Below A₀ base outer h₀) (F : Fr h₀ L s.heap m) (X : (hd.heap_39 w.params).In h₀) (N : News h₀ L s.heap news)
   (T : Top p loose mean mg mb h₀) (hk : cs.kind = .function) (hS : ShelfAt w R sh kvs)
   (hb : (b, o) ∈ news) (ho : o.IsDictOf (PySem.strKind prg w) es) (hbs : (b == sysModules) = false) (hx : valueAt es "S" = some v) (hV : ValIn w R v (.name x)) (hR : ∀ p ∈ R, p ∈ news)
   (hd : dp + 20 < recursionLimit) (hu : un + 120 < cLine)
   (ret : ∀ h' tk' t, Fr h₀ L h' m → News h₀ L h' news → Q (.str x t) { s with heap := h', toks := tk' }) :
   wpAny (model prg w) (ktrTop dp un gd cn cs L a ccd cl outer) (call (.ref 487) [.ref sh, .ref b]) Q E s := by
  obtain ⟨dsh, tb, tr, otb, otr, h1, h2, k1, k2, n, r1, dr1, h3, h4, k3, k4, t3, t4, n1, hs1, hs2, hs3, hs4, hs5, hs6, hs7, hs8, hs9, hs10⟩ := hS.mono hR
  replace hV := hV.mono hR
  replace hS := hS.mono hR
  clear hR
  have hV' := hV
  cases hV
  refine wpAny_call ?_
  k_dflt ktr_enter
  k_steps
  exact ret _ _ _ (by assumption) (by kwd_rel)
end word
local macro_rules | `(tactic| walk_at "call ref") => `(tactic| (kp_kind "487"; k_dflt (apply word_spec; dl_open; assumption; k_mem; assumption; assumption; (first | assumption | rfl); assumption; kwd_less; ktr_room; ktr_units); intro h'mz tk'mz t'mz F'mz N'mz))
section word
variable {w : World} {p : Program} {loose : List Str} {mean : ExcName → Option Value} {mg mb : Str → Option Value}
   {dp un : Nat} {gd : Option (List Code)} {cn : Str} {cs : Scope} {a : Addr} {ccd : Value} {cl : List (Str × Addr)} {outer : List Env} {A₀ : Around} {base h₀ : Heap} {L : Addr} {m : Str → Option Value} {news R : List (Addr × Obj)} {s : Shared}
   {Q E : Value → Shared → Prop} {sh : Addr} {kvs : List (Int × Value)}
theorem root_spec 
   (B : Below A₀ base outer h₀) (F : Fr h₀ L s.heap m) (X : (hd.heap_39 w.params).In h₀) (N : News h₀ L s.heap news)
   (T : Top p loose mean mg mb h₀) (hk : cs.kind = .function) (hS : ShelfAt w R sh kvs) (hR : ∀ p ∈ R, p ∈ news)
   (hd : dp + 20 < recursionLimit) (hu : un + 120 < cLine)
   (ret : ∀ h' tk' d1 od1 v1, Fr h₀ L h' m → News h₀ L h' news → (d1, od1) ∈ news → od1.IsDictOf (PySem.strKind prg w) [("Pages", v1)] → (d1 == sysModules) = false → Q (.ref d1) { s with heap := h', toks := tk' }) :
   wpAny (model prg w) (ktrTop dp un gd cn cs L a ccd cl outer) (call (.ref 355) [.ref sh]) Q E s := by
  obtain ⟨dsh, tb, tr, otb, otr, h1, h2, k1, k2, n, r1, dr1, h3, h4, k3, k4, t3, t4, n1, hs1, hs2, hs3, hs4, hs5, hs6, hs7, hs8, hs9, hs10, d1, t1, od1, v1, u1, n2, l1, l2, l3, l4, l5⟩ := hS.mono hR
  replace hS := hS.mono hR
  clear hR
  have hF : Fetches w news kvs (.ref r1) (.ref d1) := .hit hs9 hs10 l1 l2 l3 l4
  refine wpAny_call ?_
  k_dflt ktr_enter
  k_steps
  exact ret _ _ _ _ _ (by assumption) (by kwd_rel) l3 l4 l5
end word
local macro_rules | `(tactic| walk_at "call ref") => `(tactic| (kp_kind "355"; k_dflt (apply root_spec; dl_open; assumption; kwd_less; ktr_room; ktr_units); intro h'mz tk'mz d1mz od1mz v1mz F'mz N'mz hm1mz hd1mz lo1mz))
section word
variable {w : World} {p : Program} {loose : List Str} {mean : ExcName → Option Value} {mg mb : Str → Option Value}
   {dp un : Nat} {gd : Option (List Code)} {cn : Str} {cs : Scope} {a : Addr} {ccd : Value} {cl : List (Str × Addr)} {outer : List Env} {A₀ : Around} {base h₀ : Heap} {L : Addr} {m : Str → Option Value} {news R : List (Addr × Obj)} {s : Shared}
   {Q E : Value → Shared → Prop} {sh : Addr} {kvs : List (Int × Value)}
theorem old_spec 
   (B : Below A₀ base outer h₀) (F : Fr h₀ L s.heap m) (X : (hd.heap_39 w.params).In h₀) (N : News h₀ L s.heap news)
   (T : Top p loose mean mg mb h₀) (hk : cs.kind = .function) (hS : ShelfAt w R sh kvs) (hR : ∀ p ∈ R, p ∈ news)
   (hd : dp + 40 < recursionLimit) (hu : un + 220 < cLine)
   (ret : ∀ h' tk' d o, Fr h₀ L h' m → News h₀ L h' ((d, o) :: news) → o.IsDictOf (PySem.strKind prg w) [] → (d == sysModules) = false → (∀ p ∈ news, p.1 < d) → Q (.ref d) { s with heap := h', toks := tk' }) :
   wpAny (model prg w) (ktrTop dp un gd cn cs L a ccd cl outer) (call (.ref 466) [.ref sh]) Q E s := by
  obtain ⟨dsh, tb, tr, otb, otr, h1, h2, k1, k2, n, r1, dr1, h3, h4, k3, k4, t3, t4, n1, hs1, hs2, hs3, hs4, hs5, hs6, hs7, hs8, hs9, hs10, d1, t1, od1, v1, u1, n2, l1, l2, l3, l4, l5⟩ := hS.mono hR
  replace hS := hS.mono hR
  clear hR l1 l2 l3 l4 l5
  refine wpAny_call ?_
  k_dflt ktr_enter
  k_steps
  exact ret _ _ _ _ (by assumption) (by kwd_rel) (by assumption) (by assumption) (by assumption)
end word
local macro_rules | `(tactic| walk_at "call ref") => `(tactic| (kp_kind "466"; k_dflt (apply old_spec; dl_open; assumption; kwd_less; ktr_room; ktr_units); intro h'mz tk'mz d1mz od1mz F'mz N'mz hd1mz lo1mz l1'mz))
noncomputable def TargetAt (w : World) (R : List (Addr × Obj)) (v : Value) : Prop :=
  ∃ (tg dt rx : Addr) (h1 h2 h3 : Int) (k1 k2 k3 t : Tok) (nl : Value) (n : Nat), v = .ref tg ∧ (tg, instObj 436 dt) ∈ R ∧ (dt, dictOf [⟨h1, .str "page" k1, .ref rx⟩, ⟨h2, .str "view" k2, .str "Fit" t⟩, ⟨h3, .str "numbers" k3, nl⟩] n) ∈ R ∧ ValIn w R (.ref rx) (.ref 3 0)
section dest
variable {w : World} {p : Program} {loose : List Str} {mean : ExcName → Option Value} {mg mb : Str → Option Value}
   {dp un : Nat} {gd : Option (List Code)} {cn : Str} {cs : Scope} {a : Addr} {ccd : Value} {cl : List (Str × Addr)} {outer : List Env} {A₀ : Around} {base h₀ : Heap} {L : Addr} {m : Str → Option Value} {news R : List (Addr × Obj)} {s : Shared}
   {Q E : Value → Shared → Prop} {sh : Addr} {kvs : List (Int × Value)}
theorem dest_none
   (B : Below A₀ base outer h₀) (F : Fr h₀ L s.heap m) (X : (hd.heap_39 w.params).In h₀) (N : News h₀ L s.heap news)
   (T : Top p loose mean mg mb h₀) (hk : cs.kind = .function) (hS : ShelfAt w R sh kvs) (hR : ∀ p ∈ R, p ∈ news)
   (hd : dp + 60 < recursionLimit) (hu : un + 320 < cLine)
   (ret : ∀ h' tk', Fr h₀ L h' m → News h₀ L h' news → Q .none { s with heap := h', toks := tk' }) :
   wpAny (model prg w) (ktrTop dp un gd cn cs L a ccd cl outer) (call (.ref 480) [.ref sh, .none]) Q E s := by
  replace hS := hS.mono hR
  clear hR
  obtain ⟨dsh, tb, tr, h1, h2, k1, k2, n, hs1, hs2⟩ := hS.inst
  refine wpAny_call ?_
  k_dflt ktr_enter
  k_steps
  exact ret _ _ (by assumption) (by kwd_rel)
theorem dest_name {v : Value} {x : Str}
   (B : Below A₀ base outer h₀) (F : Fr h₀ L s.heap m) (X : (hd.heap_39 w.params).In h₀) (N : News h₀ L s.heap news)
   (T : Top p loose mean mg mb h₀) (hk : cs.kind = .function) (hS : ShelfAt w R sh kvs) (hV : ValIn w R v (.name x)) (hR : ∀ p ∈ R, p ∈ news)
   (hd : dp + 60 < recursionLimit) (hu : un + 320 < cLine)
   (ret : ∀ h' tk', Fr h₀ L h' m → News h₀ L h' news → Q .none { s with heap := h', toks := tk' }) :
   wpAny (model prg w) (ktrTop dp un gd cn cs L a ccd cl outer) (call (.ref 480) [.ref sh, v]) Q E s := by
  replace hV := hV.mono hR
  replace hS := hS.mono hR
  clear hR
  obtain ⟨dsh, tb, tr, h1, h2, k1, k2, n, hs1, hs2⟩ := hS.inst
  have hV' := hV
  cases hV
  refine wpAny_call ?_
  k_dflt ktr_enter
  k_steps

  exact ret _ _ (by assumption) (by kwd_rel)
end dest
theorem target_end {w : World} {h₀ h : Heap} {L x d rx : Addr} {h1 h2 h3 : Int} {k1 k2 k3 t : Tok} {nl : Value} {n : Nat} {l news R : List (Addr × Obj)}
    (N : News h₀ L h ((x, instObj 436 d) :: (d, dictOf [⟨h1, .str "page" k1, .ref rx⟩, ⟨h2, .str "view" k2, .str "Fit" t⟩, ⟨h3, .str "numbers" k3, nl⟩] n) :: l)) (hs : ∀ p ∈ news, p ∈ l) (hlt : ∀ q ∈ news, q.1 < d) (hdx : @LT.lt Nat _ d x) (hV : ValIn w R (.ref rx) (.ref 3 0)) :
    ∃ tl, News h₀ L h (tl ++ news) ∧ (∀ p ∈ tl, ∀ q ∈ news, q.1 < p.1) ∧ TargetAt w (tl ++ R) (.ref x) := by
  refine ⟨[(x, instObj 436 d), (d, dictOf [⟨h1, .str "page" k1, .ref rx⟩, ⟨h2, .str "view" k2, .str "Fit" t⟩, ⟨h3, .str "numbers" k3, nl⟩] n)], news_sub N fun p hp => ?_, fun p hp q hq => ?_, x, d, rx, h1, h2, h3, k1, k2, k3, t, nl, n, rfl, .head _, .tail _ (.head _), hV.mono fun _ h => .tail _ (.tail _ h)⟩
  · rcases List.mem_cons.mp hp with rfl | hp
    · exact .head _
    · rcases List.mem_cons.mp hp with rfl | hp
      · exact .tail _ (.head _)
      · exact .tail _ (.tail _ (hs _ hp))
  · rcases List.mem_cons.mp hp with rfl | hp
    · exact Nat.lt_trans (hlt q hq) hdx
    · obtain rfl := List.mem_singleton.mp hp
      exact hlt q hq
section dest
variable {w : World} {p : Program} {loose : List Str} {mean : ExcName → Option Value} {mg mb : Str → Option Value}
   {dp un : Nat} {gd : Option (List Code)} {cn : Str} {cs : Scope} {a : Addr} {ccd : Value} {cl : List (Str × Addr)} {outer : List Env} {A₀ : Around} {base h₀ : Heap} {L : Addr} {m : Str → Option Value} {news R : List (Addr × Obj)} {s : Shared}
   {Q E : Value → Shared → Prop} {sh : Addr} {kvs : List (Int × Value)}
theorem dest_arr {v : Value}
   (B : Below A₀ base outer h₀) (F : Fr h₀ L s.heap m) (X : (hd.heap_39 w.params).In h₀) (N : News h₀ L s.heap news)
   (T : Top p loose mean mg mb h₀) (hk : cs.kind = .function) (hS : ShelfAt w R sh kvs) (hV : ValIn w R v (.arr [.ref 3 0, .name "Fit"])) (hR : ∀ p ∈ R, p ∈ news)
   (hd : dp + 60 < recursionLimit) (hu : un + 320 < cLine)
   (ret : ∀ v h' tk' tl, Fr h₀ L h' m → News h₀ L h' (tl ++ news) → (∀ p ∈ tl, ∀ q ∈ news, q.1 < p.1) → TargetAt w (tl ++ R) v → Q v { s with heap := h', toks := tk' }) :
   wpAny (model prg w) (ktrTop dp un gd cn cs L a ccd cl outer) (call (.ref 480) [.ref sh, v]) Q E s := by
  replace hS := hS.mono hR
  refine ea8_2 (hS.inst) ?_
  intro dsh tb tr h1 h2 k1 k2 n hs1 hs2
  have hV' := hV.mono hR
  cases hV
  rename_i hm hr
  replace hm := hR _ hm
  cases hr
  rename_i hr1 hr
  cases hr
  rename_i hr2 hr
  cases hr
  have hrR := hr1
  replace hr1 := hr1.mono hR
  replace hr2 := hr2.mono hR
  clear hR
  have hr1' := hr1
  have hr2' := hr2
  cases hr1
  cases hr2
  refine wpAny_call ?_
  k_dflt ktr_enter
  k_steps
  rename News _ _ _ _ => N9
  refine ea1_3 (target_end (news := news) N9 (by kwd_less) (ktn_ltOf (by tbn_find)) (by assumption) hrR) ?_
  intro tl a1 a2 a3
  exact ret _ _ _ tl (by assumption) a1 a2 a3
end dest
local macro_rules | `(tactic| walk_at "call ref") => `(tactic| (kp_kind "480"; first | (k_dflt (apply dest_none; dl_open; assumption; kwd_less; ktr_room; ktr_units); intro h'mz tk'mz F'mz N'mz) | (k_dflt (apply dest_name; dl_open; assumption; assumption; kwd_less; ktr_room; ktr_units); intro h'mz tk'mz F'mz N'mz) | (k_dflt (apply dest_arr; dl_open; assumption; assumption; kwd_less; ktr_room; ktr_units); intro v'mz h'mz tk'mz tl'mz F'mz N'mz l1'mz hT'mz)))
mutual
noncomputable def toldD : PD → Dat
  | .int i => .tuple [.str "int", .int i]
  | .name s => .tuple [.str "name", .str s]
  | .ref n g => .tuple [.str "ref", .int n, .int g]
  | .arr l => .tuple (.str "array" :: toldDs l)
  | .dict _ l => .tuple (.str "dict" :: ((["D", "M", "Next", "S"] : List Str).filterMap fun k => ((toldEs l).lookup k).map fun d => Dat.tuple [.str k, d]))
noncomputable def toldDs : List PD → List Dat
  | [] => []
  | d :: l => toldD d :: toldDs l
noncomputable def toldEs : List (Str × PD) → List (Str × Dat)
  | [] => []
  | (k, d) :: l => (k, toldD d) :: toldEs l
end
inductive Small : PD → Prop
  | int (i : Int) : Small (.int i)
  | name (s : Str) : Small (.name s)
  | ref (n g : Int) : Small (.ref n g)
  | arr1 {d : PD} : Small d → Small (.arr [d])
  | arr2 {d e : PD} : Small d → Small e → Small (.arr [d, e])
  | sm {a : Addr} {s m : PD} : Small s → Small m → Small (.dict a [("S", s), ("M", m)])
  | smd {a : Addr} {s m d : PD} : Small s → Small m → Small d → Small (.dict a [("S", s), ("M", m), ("D", d)])
  | smn {a : Addr} {s m n : PD} : Small s → Small m → Small n → Small (.dict a [("S", s), ("M", m), ("Next", n)])
  | smdn {a : Addr} {s m d n : PD} : Small s → Small m → Small d → Small n → Small (.dict a [("S", s), ("M", m), ("D", d), ("Next", n)])
mutual
noncomputable def szD : PD → Nat
  | .int _ => 1
  | .name _ => 1
  | .ref _ _ => 1
  | .arr l => szDs l + 1
  | .dict _ l => szEs l + 1
noncomputable def szDs : List PD → Nat
  | [] => 0
  | d :: l => szD d + szDs l
noncomputable def szEs : List (Str × PD) → Nat
  | [] => 0
  | (_, d) :: l => szD d + szEs l
end
noncomputable def Above (tl l : List (Addr × Obj)) : Prop := ∀ p ∈ tl, ∀ q ∈ l, q.1 < p.1
theorem Above.nil {l : List (Addr × Obj)} : Above [] l := fun _ h => nomatch h
theorem Above.sub {tl l l' : List (Addr × Obj)} (h : Above tl l) (hs : ∀ q ∈ l', q ∈ l) : Above tl l' := fun p hp q hq => h p hp q (hs q hq)
theorem Above.app {tl tl' l : List (Addr × Obj)} (h : Above tl l) (h' : Above tl' l) : Above (tl ++ tl') l := fun p hp q hq => (List.mem_append.mp hp).elim (fun x => h p x q hq) fun x => h' p x q hq
theorem Above.cons {a : Addr} {o : Obj} {tl l l1 : List (Addr × Obj)} (h : AllLt a l1) (hs : ∀ q ∈ l, q ∈ l1) (h' : Above tl l) : Above ((a, o) :: tl) l := fun p hp q hq => by
  rcases List.mem_cons.mp hp with rfl | hp
  · exact ktn_ltOf h q (hs q hq)
  · exact h' p hp q hq
theorem told_close {h₀ h : Heap} {L D : Addr} {m : Str → Option Value} {vs : List Value} {n tk : Nat} {ds : List Dat} {l l1 news tl : List (Addr × Obj)} {s : Shared} {Q : Value → Shared → Prop} {d : PD}
    (ret : ∀ r h' tk' tl, Fr h₀ L h' m → News h₀ L h' (tl ++ news) → Above tl news → DatIn tl r (toldD d) → Q r { s with heap := h', toks := tk' })
    (F : Fr h₀ L h m) (N : News h₀ L h ((D, tupOf vs.toArray n) :: l)) (htl : Above tl news) (hs : ∀ p ∈ tl ++ news, p ∈ l) (hl : AllLt D l1) (hs1 : ∀ p ∈ news, p ∈ l1)
    (e : toldD d = .tuple ds) (hD : DatAll tl vs ds) : Q (.ref D) { s with heap := h, toks := tk } := by
  refine ret _ _ _ ((D, tupOf vs.toArray n) :: tl) F (news_sub N fun p hp => ?_) (Above.cons hl hs1 htl) (by rw [e]; exact .tuple (.head _) (hD.mono fun _ h => .tail _ h))
  rcases List.mem_cons.mp hp with rfl | hp
  · exact .head _
  · exact .tail _ (hs _ hp)
section told
variable {w : World} {p : Program} {loose : List Str} {mean : ExcName → Option Value} {mg mb : Str → Option Value}
   {dp un : Nat} {gd : Option (List Code)} {cn : Str} {cs : Scope} {a : Addr} {ccd : Value} {cl : List (Str × Addr)} {outer : List Env} {A₀ : Around} {base h₀ : Heap} {L : Addr} {m : Str → Option Value} {news R : List (Addr × Obj)} {s : Shared}
   {Q E : Value → Shared → Prop} {sh : Addr} {kvs : List (Int × Value)}
theorem eqStr {A : Around} {x y : Str} {t u : Tok} {b : Bool} (e : (x == y) = b) (h : Q (.bool b) s) : wpAny (model prg w) A (compareOp .Eq (.str x t) (.str y u)) Q E s :=
  PyProof.Rows.eq_str (by rw [e]; exact h)
theorem plain_spec {v : Value} {d : PD} {t : Tok} (hf : (∃ i, d = .int i) ∨ (∃ x, d = .name x) ∨ (∃ i g, d = .ref i g))
   (B : Below A₀ base outer h₀) (F : Fr h₀ L s.heap m) (X : (hd.heap_39 w.params).In h₀) (N : News h₀ L s.heap news)
   (T : Top p loose mean mg mb h₀) (hk : cs.kind = .function) (hV : ValIn w R v d) (hR : ∀ p ∈ R, p ∈ news)
   (hd : dp + 10 < recursionLimit) (hu : un + 60 < cLine)
   (ret : ∀ r h' tk' tl, Fr h₀ L h' m → News h₀ L h' (tl ++ news) → Above tl news → DatIn tl r (toldD d) → Q r { s with heap := h', toks := tk' }) :
   wpAny (model prg w) (ktrTop dp un gd cn cs L a ccd cl outer) (call (.ref 272) [.str (kindS d) t, v]) Q E s := by
  replace hV := hV.mono hR
  have hV' := hV
  cases hV
  case arr => exfalso; rcases hf with ⟨_, h⟩ | ⟨_, h⟩ | ⟨_, _, h⟩ <;> cases h
  case dict => exfalso; rcases hf with ⟨_, h⟩ | ⟨_, h⟩ | ⟨_, _, h⟩ <;> cases h
  all_goals
    clear hf
    dsimp only [kindS]
    refine wpAny_call ?_
    k_dflt ktr_enter
    k_steps
    exact told_close ret (by assumption) (by assumption) Above.nil (by kwd_less) (by first | tbn_find | exact allLt_of (by assumption)) (by kwd_less) (by rfl) (by repeat (first | exact DatAll.nil | refine DatAll.cons (DatIn.str _ _) ?_ | refine DatAll.cons (DatIn.int _ _) ?_))
local macro_rules | `(tactic| walk_at "compareOp Eq str str") => `(tactic| (k_here; k_dflt (refine eqStr (by assumption) ?_)))
local macro_rules | `(tactic| walk_at "call ref") => `(tactic| (kp_kind "272"; refine hold ?_))
local macro_rules | `(tactic| ktd_rel) => `(tactic| exact (by assumption : ValIn _ _ _ _).mono (by kwd_less))
theorem told_leaf {v : Value} {d : PD} (hf : (∃ i, d = .int i) ∨ (∃ x, d = .name x) ∨ (∃ i g, d = .ref i g))
   (B : Below A₀ base outer h₀) (F : Fr h₀ L s.heap m) (X : (hd.heap_39 w.params).In h₀) (N : News h₀ L s.heap news)
   (T : Top p loose mean mg mb h₀) (hk : cs.kind = .function) (hV : ValIn w news v d)
   (hd : dp + 20 < recursionLimit) (hu : un + 120 < cLine)
   (ret : ∀ r h' tk' tl, Fr h₀ L h' m → News h₀ L h' (tl ++ news) → Above tl news → DatIn tl r (toldD d) → Q r { s with heap := h', toks := tk' }) :
   wpAny (model prg w) (ktrTop dp un gd cn cs L a ccd cl outer) (call (.ref 277) [v]) Q E s := by
  have e1 : (kindS d == Str.ofString "array") = false := by rcases hf with ⟨_, rfl⟩ | ⟨_, rfl⟩ | ⟨_, _, rfl⟩ <;> rfl
  have e2 : (kindS d == Str.ofString "dict") = false := by rcases hf with ⟨_, rfl⟩ | ⟨_, rfl⟩ | ⟨_, _, rfl⟩ <;> rfl
  have e3 : (kindS d == Str.ofString "stream") = false := by rcases hf with ⟨_, rfl⟩ | ⟨_, rfl⟩ | ⟨_, _, rfl⟩ <;> rfl
  refine wpAny_call ?_
  k_dflt (refine' code_defC ?k1 ?k2 ?k3 ?k4 ?k5 ?kA ?kF ?kK ?k6 ?k7 ?k8 ?k9 ?kB ?kD ?_ ?c2 ?c3 ?c4; (case kA => exact rfl); (case kF => exact rfl); (case kK => assumption); (case k1 => k_asm); (case k2 => k_asm); (case k3 => k_asm); (case k4 => k_asm); (case k5 => k_asm); (case k6 => k_is); (case k7 => k_is); (case k8 => k_room); (case k9 => exact BindsTo.of_eq rfl); (case kB => exact rfl); (case kD => decide +kernel); (case c2 => exact rfl); (case c3 => exact rfl); (case c4 => exact rfl); k_whole; intro g' L' h' tk' cells' FG' F' N' Y' B' X' T' l1; (try k_lt l1); k_cells Y'; (try simp only [List.cons_append, List.nil_append] at N'); (try dsimp only); (try k_fold))
  k_steps
  unfold Hold
  refine plain_spec hf (by k_asm) (by k_asm) (by k_asm) (by k_asm) (by k_asm) (by first | exact rfl | assumption) hV (by kwd_less) (by ktr_room) (by ktr_units) ?_
  intro r9 h9 tk9 tl9 F9 N9 a9 d9
  k_steps
  rename News _ _ _ _ => N8
  exact ret _ _ _ tl9 (by assumption) (news_sub N8 fun p hp => (List.mem_append.mp hp).elim (fun h => List.mem_append.mpr (.inl h)) fun h => List.mem_append.mpr (.inr (.tail _ h))) (a9.sub fun _ h => .tail _ h) d9
end told
theorem sub_app {a b l : List (Addr × Obj)} (h : ∀ p ∈ a, p ∈ l) (h' : ∀ p ∈ b, p ∈ l) : ∀ p ∈ a ++ b, p ∈ l := fun p hp => (List.mem_append.mp hp).elim (h p) (h' p)
theorem sub_cons {x : Addr × Obj} {b l : List (Addr × Obj)} (h : x ∈ l) (h' : ∀ p ∈ b, p ∈ l) : ∀ p ∈ x :: b, p ∈ l := fun p hp => by
  rcases List.mem_cons.mp hp with rfl | hp
  · exact h
  · exact h' p hp
theorem sub_nil {l : List (Addr × Obj)} : ∀ p ∈ ([] : List (Addr × Obj)), p ∈ l := fun _ hp => nomatch hp
local macro_rules | `(tactic| kwd_less) => `(tactic| first
  | exact fun _ h => h | exact fun _ h => List.mem_append.mpr (.inl h) | exact fun _ h => .tail _ h | exact fun _ h => .tail _ (.tail _ h)
  | exact sub_nil
  | (with_reducible refine sub_app ?sA ?sB; (case sA => kwd_less); (case sB => kwd_less))
  | (with_reducible refine sub_cons ?sA ?sB; (case sA => (simp only [List.mem_append, List.mem_cons, true_or, or_true]; done)); (case sB => kwd_less))
  | (intro p9mz h9mz; (try simp only [List.mem_append, List.mem_cons, List.not_mem_nil, or_false, false_or]); simp only [h9mz, true_or, or_true]; done))
noncomputable def TellsP (w : World) (d : PD) : Prop :=
  ∀ {p : Program} {loose : List Str} {mean : ExcName → Option Value} {mg mb : Str → Option Value} {dp un : Nat} {gd : Option (List Code)} {cn : Str} {cs : Scope} {a : Addr} {ccd : Value} {cl : List (Str × Addr)} {outer : List Env} {A₀ : Around} {base h₀ : Heap} {L : Addr} {m : Str → Option Value} {news : List (Addr × Obj)} {s : Shared} {Q E : Value → Shared → Prop} {v : Value},
   Below A₀ base outer h₀ → Fr h₀ L s.heap m → (hd.heap_39 w.params).In h₀ → News h₀ L s.heap news → Top p loose mean mg mb h₀ → cs.kind = .function → ValIn w news v d → dp + 20 * szD d < recursionLimit → un + 120 * szD d < cLine →
   (∀ r h' tk' tl, Fr h₀ L h' m → News h₀ L h' (tl ++ news) → Above tl news → DatIn tl r (toldD d) → Q r { s with heap := h', toks := tk' }) →
   wpAny (model prg w) (ktrTop dp un gd cn cs L a ccd cl outer) (call (.ref 277) [v]) Q E s
theorem tellsP_use {w : World} {p : Program} {loose : List Str} {mean : ExcName → Option Value} {mg mb : Str → Option Value}
   {dp un : Nat} {gd : Option (List Code)} {cn : Str} {cs : Scope} {a : Addr} {ccd : Value} {cl : List (Str × Addr)} {outer : List Env} {A₀ : Around} {base h₀ : Heap} {L : Addr} {m : Str → Option Value} {news R : List (Addr × Obj)} {s : Shared}
   {Q E : Value → Shared → Prop} {v : Value} {d : PD}
   (B : Below A₀ base outer h₀) (F : Fr h₀ L s.heap m) (X : (hd.heap_39 w.params).In h₀) (N : News h₀ L s.heap news)
   (T : Top p loose mean mg mb h₀) (hk : cs.kind = .function) (hV : ValIn w R v d) (C : TellsP w d) (hR : ∀ p ∈ R, p ∈ news)
   (hd : dp + 20 * szD d < recursionLimit) (hu : un + 120 * szD d < cLine)
   (ret : ∀ r h' tk' tl, Fr h₀ L h' m → News h₀ L h' (tl ++ news) → Above tl news → DatIn tl r (toldD d) → Q r { s with heap := h', toks := tk' }) :
   wpAny (model prg w) (ktrTop dp un gd cn cs L a ccd cl outer) (call (.ref 277) [v]) Q E s := C B F X N T hk (hV.mono hR) hd hu ret
noncomputable def TJ (base : List (Addr × Obj)) (ds : List Dat) (i : Nat) (ys : List Value) (tl : List (Addr × Obj)) : Prop := Above tl base ∧ DatAll tl ys (ds.take i)
theorem tj_zero {base : List (Addr × Obj)} {ds : List Dat} : TJ base ds 0 [] [] := ⟨Above.nil, .nil⟩
theorem tj_step {base tl tl9 : List (Addr × Obj)} {p1 p2 p3 : Addr × Obj} {ds : List Dat} {i : Nat} {ys : List Value} {y : Value} {d : Dat} (hJ : TJ base ds i ys tl) (hd : ds[i]? = some d) (ab : Above tl9 (p1 :: p2 :: p3 :: (tl ++ base))) (hT : DatIn tl9 y d) : TJ base ds (i + 1) (ys ++ [y]) (tl9 ++ tl) := by
  refine ⟨Above.app (ab.sub fun q hq => .tail _ (.tail _ (.tail _ (List.mem_append.mpr (.inr hq))))) hJ.1, ?_⟩
  rw [List.take_add_one, hd]
  exact (hJ.2.mono fun p hp => List.mem_append.mpr (.inr hp)).append (.one (hT.mono fun p hp => List.mem_append.mpr (.inl hp)))
theorem tj_end {base tl : List (Addr × Obj)} {ds : List Dat} {n : Nat} {ys : List Value} (h : TJ base ds n ys tl) (hn : n = ds.length) : Above tl base ∧ DatAll tl ys ds := by
  subst hn
  have := h.2
  rw [List.take_length] at this
  exact ⟨h.1, this⟩
section compinv
variable {prog : Program} {w : World} {A : Around} {h₀ : Heap} {L : Addr} {m : Str → Option Value} {env : Env} {ct elt : PySem.Expr} {x : Str} {scope : Scope} {cl : List (Str × Addr)} {s : Shared} {S : List (Addr × Obj) → Prop} {P : Nat → Value → Prop} {Fin : List Value → List (Addr × Obj) → Prop}
theorem compRest_inv {n : Nat} (J : Nat → List Value → List (Addr × Obj) → Prop)
    (turn : ∀ i v ys news I oI C oC D m₂ h tk (E' : Value → Shared → Prop), i < n → P i v → J i ys news → LCg.NsObj oC m₂ → m₂ x = some v → Fr h₀ L h m → News h₀ L h ((I, oI) :: (C, oC) :: (D, LCg.lst ys) :: news) → LCg.Off3 I C D news → ((@Ne Nat I C) ∧ (@Ne Nat I D) ∧ (@Ne Nat C D)) →
      wpAny (model prog w) A (PySem.eval elt (compEnvC scope cl C env)) (LCg.CompEnd h₀ L m { s with heap := h, toks := tk } I oI C oC D (LCg.lst ys) S (fun y news' => J (i + 1) (ys ++ [y]) news')) E' { s with heap := h, toks := tk })
    (fin : ∀ ys news, J n ys news → Fin ys news) {ys : List Value} {news : List (Addr × Obj)} (h0 : J 0 ys news) : LCg.CompRest prog w A h₀ L m env elt x scope cl s S P Fin n 0 ys news := by
  have key : ∀ (j i : Nat) (ys : List Value) (news : List (Addr × Obj)), i + j = n → J i ys news → LCg.CompRest prog w A h₀ L m env elt x scope cl s S P Fin j i ys news := by
    intro j
    induction j with
    | zero =>
      intro i ys news hi hJ
      rw [Nat.add_zero] at hi
      subst hi
      exact fin _ _ hJ
    | succ j ih =>
      intro i ys news hi hJ v I oI C oC D m₂ h tk E' hP hC hx F N off ne
      refine wpAny_mono (turn i v ys news I oI C oC D m₂ h tk E' (by omega) hP hJ hC hx F N off ne) (fun y s₃ hr => ?_) fun _ _ e => e
      obtain ⟨h', tk', nw, e, F', N', off', hS, hr'⟩ := hr
      exact ⟨h', tk', nw, e, F', N', off', hS, ih (i + 1) _ _ (by omega) hr'⟩
  exact key n 0 ys news (Nat.zero_add _) h0
theorem compRestT_inv {n : Nat} (J : Nat → List Value → List (Addr × Obj) → Prop)
    (turn : ∀ i v ys news I oI C oC D m₂ h tk (E' : Value → Shared → Prop), i < n → P i v → J i ys news → LCg.NsObj oC m₂ → m₂ x = some v → Fr h₀ L h m → News h₀ L h ((I, oI) :: (C, oC) :: (D, LCg.lst ys) :: news) → LCg.Off3 I C D news → ((@Ne Nat I C) ∧ (@Ne Nat I D) ∧ (@Ne Nat C D)) →
      wpAny (model prog w) A (PySem.isTrue ct (compEnvC scope cl C env) (PySem.eval ct (compEnvC scope cl C env))) (fun ok s' => if ok = true then
        wpAny (model prog w) A (PySem.eval elt (compEnvC scope cl C env)) (LCg.CompEnd h₀ L m { s with heap := h, toks := tk } I oI C oC D (LCg.lst ys) S (fun y news' => J (i + 1) (ys ++ [y]) news')) E' s'
        else LCg.CompEnd h₀ L m { s with heap := h, toks := tk } I oI C oC D (LCg.lst ys) S (fun _ news' => J (i + 1) ys news') Value.none s') E' { s with heap := h, toks := tk })
    (fin : ∀ ys news, J n ys news → Fin ys news) {ys : List Value} {news : List (Addr × Obj)} (h0 : J 0 ys news) : LCt.CompRestT prog w A h₀ L m env ct elt x scope cl s S P Fin n 0 ys news := by
  have key : ∀ (j i : Nat) (ys : List Value) (news : List (Addr × Obj)), i + j = n → J i ys news → LCt.CompRestT prog w A h₀ L m env ct elt x scope cl s S P Fin j i ys news := by
    intro j
    induction j with
    | zero =>
      intro i ys news hi hJ
      rw [Nat.add_zero] at hi
      subst hi
      exact fin _ _ hJ
    | succ j ih =>
      intro i ys news hi hJ v I oI C oC D m₂ h tk E' hP hC hx F N off ne
      refine wpAny_mono (turn i v ys news I oI C oC D m₂ h tk E' (by omega) hP hJ hC hx F N off ne) (fun ok s₂ hq => ?_) fun _ _ e => e
      cases ok with
      | true =>
        simp only [if_true] at hq ⊢
        refine wpAny_mono hq (fun y s₃ hr => ?_) fun _ _ e => e
        obtain ⟨h', tk', nw, e, F', N', off', hS, hr'⟩ := hr
        exact ⟨h', tk', nw, e, F', N', off', hS, ih (i + 1) _ _ (by omega) hr'⟩
      | false =>
        simp only [Bool.false_eq_true, if_false] at hq ⊢
        obtain ⟨h', tk', nw, e, F', N', off', hS, hr'⟩ := hq
        exact ⟨h', tk', nw, e, F', N', off', hS, ih (i + 1) _ _ (by omega) hr'⟩
  exact key n 0 ys news (Nat.zero_add _) h0
theorem compRestT_same {n : Nat} {news : List (Addr × Obj)} (J : Nat → List Value → Prop)
    (turn : ∀ i v ys I oI C oC D m₂ h tk (E' : Value → Shared → Prop), i < n → P i v → J i ys → LCg.NsObj oC m₂ → m₂ x = some v → Fr h₀ L h m → News h₀ L h ((I, oI) :: (C, oC) :: (D, LCg.lst ys) :: news) → LCg.Off3 I C D news → ((@Ne Nat I C) ∧ (@Ne Nat I D) ∧ (@Ne Nat C D)) →
      wpAny (model prog w) A (PySem.isTrue ct (compEnvC scope cl C env) (PySem.eval ct (compEnvC scope cl C env))) (fun ok s' => if ok = true then
        wpAny (model prog w) A (PySem.eval elt (compEnvC scope cl C env)) (LCg.CompEnd h₀ L m { s with heap := h, toks := tk } I oI C oC D (LCg.lst ys) S (fun y news' => news' = news ∧ J (i + 1) (ys ++ [y]))) E' s'
        else LCg.CompEnd h₀ L m { s with heap := h, toks := tk } I oI C oC D (LCg.lst ys) S (fun _ news' => news' = news ∧ J (i + 1) ys) Value.none s') E' { s with heap := h, toks := tk })
    (fin : ∀ ys, J n ys → Fin ys news) (h0 : J 0 []) : LCt.CompRestT prog w A h₀ L m env ct elt x scope cl s S P Fin n 0 [] news := by
  refine compRestT_inv (fun i ys nw => nw = news ∧ J i ys) ?_ (fun ys nw h => h.1 ▸ fin ys h.2) ⟨rfl, h0⟩
  rintro i v ys _ I oI C oC D m₂ h tk E' hi hP ⟨rfl, hJ⟩ hC hx F N off ne
  exact turn i v ys I oI C oC D m₂ h tk E' hi hP hJ hC hx F N off ne
theorem compRest_grow {n : Nat} {news : List (Addr × Obj)} (J : Nat → List Value → List (Addr × Obj) → Prop)
    (turn : ∀ i v ys tl I oI C oC D m₂ h tk (E' : Value → Shared → Prop), i < n → P i v → J i ys tl → LCg.NsObj oC m₂ → m₂ x = some v → Fr h₀ L h m → News h₀ L h ((I, oI) :: (C, oC) :: (D, LCg.lst ys) :: (tl ++ news)) → LCg.Off3 I C D (tl ++ news) → ((@Ne Nat I C) ∧ (@Ne Nat I D) ∧ (@Ne Nat C D)) →
      wpAny (model prog w) A (PySem.eval elt (compEnvC scope cl C env)) (LCg.CompEnd h₀ L m { s with heap := h, toks := tk } I oI C oC D (LCg.lst ys) S (fun y news' => ∃ tl', news' = tl' ++ news ∧ J (i + 1) (ys ++ [y]) tl')) E' { s with heap := h, toks := tk })
    (fin : ∀ ys tl, J n ys tl → Fin ys (tl ++ news)) (h0 : J 0 [] []) : LCg.CompRest prog w A h₀ L m env elt x scope cl s S P Fin n 0 [] news := by
  refine compRest_inv (fun i ys nw => ∃ tl, nw = tl ++ news ∧ J i ys tl) ?_ (fun ys nw h => ?_) ⟨[], rfl, h0⟩
  · rintro i v ys _ I oI C oC D m₂ h tk E' hi hP ⟨tl, rfl, hJ⟩ hC hx F N off ne
    exact turn i v ys tl I oI C oC D m₂ h tk E' hi hP hJ hC hx F N off ne
  · obtain ⟨tl, rfl, hJ⟩ := h
    exact fin ys tl hJ
theorem compEnd_tl {I C D : Addr} {s₁ : Shared} {oI oC oD : Obj} {news tl : List (Addr × Obj)} {J : Value → List (Addr × Obj) → Prop} {y : Value} {h' : Heap} {tk : Nat} {add : List (Addr × Obj)} (F : Fr h₀ L h' m) (N : News h₀ L h' (add ++ ((I, oI) :: (C, oC) :: (D, oD) :: (tl ++ news))))
    (ha : Above add ((I, oI) :: (C, oC) :: (D, oD) :: (tl ++ news))) (off : LCg.Off3 I C D (tl ++ news)) (hS : S ((add ++ tl) ++ news)) (r : J y (add ++ tl)) :
    LCg.CompEnd h₀ L m s₁ I oI C oC D oD S (fun y news' => ∃ tl', news' = tl' ++ news ∧ J y tl') y { s₁ with heap := h', toks := tk } := by
  refine LCg.CompEnd.intro F N ((add ++ tl) ++ news) (fun p hp => ?_) (LCg.Off3.of fun p hp => ?_) hS ⟨add ++ tl, rfl, r⟩
  · rcases List.mem_cons.mp hp with rfl | hp
    · exact List.mem_append.mpr (.inr (.head _))
    · rcases List.mem_cons.mp hp with rfl | hp
      · exact List.mem_append.mpr (.inr (.tail _ (.head _)))
      · rcases List.mem_cons.mp hp with rfl | hp
        · exact List.mem_append.mpr (.inr (.tail _ (.tail _ (.head _))))
        · rw [List.append_assoc] at hp
          exact (List.mem_append.mp hp).elim (fun h => List.mem_append.mpr (.inl h)) fun h => List.mem_append.mpr (.inr (.tail _ (.tail _ (.tail _ h))))
  · rw [List.append_assoc] at hp
    rcases List.mem_append.mp hp with h | h
    · exact ⟨Nat.ne_of_gt (ha p h _ (.head _)), Nat.ne_of_gt (ha p h _ (.tail _ (.head _))), Nat.ne_of_gt (ha p h _ (.tail _ (.tail _ (.head _))))⟩
    · exact off.mem p h
theorem compRestT_grow {n : Nat} {news : List (Addr × Obj)} (J : Nat → List Value → List (Addr × Obj) → Prop)
    (turn : ∀ i v ys tl I oI C oC D m₂ h tk (E' : Value → Shared → Prop), i < n → P i v → J i ys tl → LCg.NsObj oC m₂ → m₂ x = some v → Fr h₀ L h m → News h₀ L h ((I, oI) :: (C, oC) :: (D, LCg.lst ys) :: (tl ++ news)) → LCg.Off3 I C D (tl ++ news) → ((@Ne Nat I C) ∧ (@Ne Nat I D) ∧ (@Ne Nat C D)) →
      wpAny (model prog w) A (PySem.isTrue ct (compEnvC scope cl C env) (PySem.eval ct (compEnvC scope cl C env))) (fun ok s' => if ok = true then
        wpAny (model prog w) A (PySem.eval elt (compEnvC scope cl C env)) (LCg.CompEnd h₀ L m { s with heap := h, toks := tk } I oI C oC D (LCg.lst ys) S (fun y news' => ∃ tl', news' = tl' ++ news ∧ J (i + 1) (ys ++ [y]) tl')) E' s'
        else LCg.CompEnd h₀ L m { s with heap := h, toks := tk } I oI C oC D (LCg.lst ys) S (fun _ news' => ∃ tl', news' = tl' ++ news ∧ J (i + 1) ys tl') Value.none s') E' { s with heap := h, toks := tk })
    (fin : ∀ ys tl, J n ys tl → Fin ys (tl ++ news)) (h0 : J 0 [] []) : LCt.CompRestT prog w A h₀ L m env ct elt x scope cl s S P Fin n 0 [] news := by
  refine compRestT_inv (fun i ys nw => ∃ tl, nw = tl ++ news ∧ J i ys tl) ?_ (fun ys nw h => ?_) ⟨[], rfl, h0⟩
  · rintro i v ys _ I oI C oC D m₂ h tk E' hi hP ⟨tl, rfl, hJ⟩ hC hx F N off ne
    exact turn i v ys tl I oI C oC D m₂ h tk E' hi hP hJ hC hx F N off ne
  · obtain ⟨tl, rfl, hJ⟩ := h
    exact fin ys tl hJ
theorem compRest_told {n : Nat} {news : List (Addr × Obj)} (ds : List Dat)
    (turn : ∀ i v ys tl I oI C oC D m₂ h tk (E' : Value → Shared → Prop), i < n → P i v → TJ news ds i ys tl → LCg.NsObj oC m₂ → m₂ x = some v → Fr h₀ L h m → News h₀ L h ((I, oI) :: (C, oC) :: (D, LCg.lst ys) :: (tl ++ news)) → LCg.Off3 I C D (tl ++ news) → ((@Ne Nat I C) ∧ (@Ne Nat I D) ∧ (@Ne Nat C D)) →
      wpAny (model prog w) A (PySem.eval elt (compEnvC scope cl C env)) (LCg.CompEnd h₀ L m { s with heap := h, toks := tk } I oI C oC D (LCg.lst ys) S (fun y news' => ∃ tl', news' = tl' ++ news ∧ TJ news ds (i + 1) (ys ++ [y]) tl')) E' { s with heap := h, toks := tk })
    (fin : ∀ ys tl, TJ news ds n ys tl → Fin ys (tl ++ news)) : LCg.CompRest prog w A h₀ L m env elt x scope cl s S P Fin n 0 [] news :=
  compRest_grow (TJ news ds) turn fin tj_zero
theorem compRestT_told {n : Nat} {news : List (Addr × Obj)} (ds : List Dat)
    (turn : ∀ i v ys tl I oI C oC D m₂ h tk (E' : Value → Shared → Prop), i < n → P i v → TJ news ds i ys tl → LCg.NsObj oC m₂ → m₂ x = some v → Fr h₀ L h m → News h₀ L h ((I, oI) :: (C, oC) :: (D, LCg.lst ys) :: (tl ++ news)) → LCg.Off3 I C D (tl ++ news) → ((@Ne Nat I C) ∧ (@Ne Nat I D) ∧ (@Ne Nat C D)) →
      wpAny (model prog w) A (PySem.isTrue ct (compEnvC scope cl C env) (PySem.eval ct (compEnvC scope cl C env))) (fun ok s' => if ok = true then
        wpAny (model prog w) A (PySem.eval elt (compEnvC scope cl C env)) (LCg.CompEnd h₀ L m { s with heap := h, toks := tk } I oI C oC D (LCg.lst ys) S (fun y news' => ∃ tl', news' = tl' ++ news ∧ TJ news ds (i + 1) (ys ++ [y]) tl')) E' s'
        else LCg.CompEnd h₀ L m { s with heap := h, toks := tk } I oI C oC D (LCg.lst ys) S (fun _ news' => ∃ tl', news' = tl' ++ news ∧ TJ news ds (i + 1) ys tl') Value.none s') E' { s with heap := h, toks := tk })
    (fin : ∀ ys tl, TJ news ds n ys tl → Fin ys (tl ++ news)) : LCt.CompRestT prog w A h₀ L m env ct elt x scope cl s S P Fin n 0 [] news :=
  compRestT_grow (TJ news ds) turn fin tj_zero
end compinv
theorem Above.cons' {a : Addr} {o : Obj} {tl l l1 : List (Addr × Obj)} (h : ∀ q ∈ l1, q.1 < a) (hs : ∀ q ∈ l, q ∈ l1) (h' : Above tl l) : Above ((a, o) :: tl) l := fun p hp q hq => by
  rcases List.mem_cons.mp hp with rfl | hp
  · exact h q (hs q hq)
  · exact h' p hp q hq
theorem ValIn.isNot {M : Model} {A : Around} {w : World} {R : List (Addr × Obj)} {v : Value} {d : PD} {s : Shared} {Q E : Value → Shared → Prop} (hV : ValIn w R v d) (h : Q (.bool true) s) : wpAny M A (compareOp .IsNot v .none) Q E s :=
  isnot_none_ne (by cases hV <;> (intro x; cases x)) h
theorem ValAll.at {w : World} {R : List (Addr × Obj)} {vs : List Value} {ds : List PD} (h : ValAll w R vs ds) {i : Nat} {v : Value} : vs[i]? = some v → ∃ d, ds[i]? = some d ∧ ValIn w R v d :=
  ValAll.rec (motive_1 := fun _ _ _ => True) (motive_2 := fun vs ds _ => ∀ (i : Nat) (v : Value), vs[i]? = some v → ∃ d, ds[i]? = some d ∧ ValIn w R v d) (motive_3 := fun _ _ _ => True)
    (fun _ _ => trivial) (fun _ _ _ => trivial) (fun _ _ _ _ => trivial) (fun _ _ _ => trivial) (fun _ _ _ _ _ => trivial)
    (fun _ _ h => nomatch h) (fun a _ _ ih => by
      intro i v h
      cases i with
      | zero => cases h; exact ⟨_, rfl, a⟩
      | succ i => exact ih i v h) trivial (fun _ _ _ _ => trivial) h i v
theorem ValAll.length {w : World} {R : List (Addr × Obj)} {vs : List Value} {ds : List PD} (h : ValAll w R vs ds) : vs.length = ds.length :=
  ValAll.rec (motive_1 := fun _ _ _ => True) (motive_2 := fun vs ds _ => vs.length = ds.length) (motive_3 := fun _ _ _ => True)
    (fun _ _ => trivial) (fun _ _ _ => trivial) (fun _ _ _ _ => trivial) (fun _ _ _ => trivial) (fun _ _ _ _ _ => trivial)
    rfl (fun _ _ _ ih => congrArg (· + 1) ih) trivial (fun _ _ _ _ => trivial) h
theorem toldDs_map : ∀ ds : List PD, toldDs ds = ds.map toldD
  | [] => rfl
  | d :: ds => congrArg (toldD d :: ·) (toldDs_map ds)
theorem szDs_mem {d : PD} : ∀ {ds : List PD}, d ∈ ds → szD d ≤ szDs ds
  | [], h => nomatch h
  | e :: ds, h => by
    rcases List.mem_cons.mp h with rfl | h
    · exact Nat.le_add_right _ _
    · exact Nat.le_trans (szDs_mem h) (Nat.le_add_left _ _)
noncomputable def KeysOf : List Value → List Str → Prop
  | vs, [] => vs = []
  | vs, x :: ks => ∃ t vs', vs = .str x t :: vs' ∧ KeysOf vs' ks
theorem KeysOf.length {ks : List Str} : ∀ {vs : List Value}, KeysOf vs ks → vs.length = ks.length := by
  induction ks with
  | nil => intro vs h; cases h; rfl
  | cons x ks ih => rintro vs ⟨t, vs', rfl, h⟩; exact congrArg (· + 1) (ih h)
theorem KeysOf.at {ks : List Str} : ∀ {vs : List Value}, KeysOf vs ks → ∀ {i : Nat} {v : Value}, vs[i]? = some v → ∃ x t, ks[i]? = some x ∧ v = .str x t := by
  induction ks with
  | nil => intro vs h i v e; cases h; cases e
  | cons x ks ih =>
    rintro vs ⟨t, vs', rfl, h⟩ i v e
    cases i with
    | zero => cases e; exact ⟨_, t, rfl, rfl⟩
    | succ i => exact ih h (i := i) e
theorem KeysOf.of {kvs : List (Str × Value)} : ∀ {vs : List Value}, vs.length = kvs.length → (∀ (j : Nat) (v : Value), vs[j]? = some v → ∃ k x, kvs[j]? = some (k, x) ∧ ∃ t, v = .str k t) → KeysOf vs (kvs.map (·.1)) := by
  induction kvs with
  | nil => intro vs h _; exact List.length_eq_zero_iff.mp h
  | cons p kvs ih =>
    intro vs h hv
    cases vs with
    | nil => cases h
    | cons v vs =>
      obtain ⟨k, x, e, t, rfl⟩ := hv 0 v rfl
      cases e
      exact ⟨t, vs, rfl, ih (Nat.succ.inj h) fun j v e => hv (j + 1) v e⟩
section
variable {prog : Program} {w : World} {A : Around} {E : Value → Shared → Prop} {s : Shared} {h₀ : Heap} {L d : Addr} {m : Str → Option Value} {news : List (Addr × Obj)} {Q : Value → Shared → Prop} {od : Obj}
theorem sortedKeys {kvs : List (Str × Value)} (hh : A.handled = none) (F : Fr h₀ L s.heap m) (N : News h₀ L s.heap news) (hm : (d, od) ∈ news) (hod : od.IsDictOf (PySem.strKind prog w) kvs) (lo : (d == sysModules) = false) (hn : kvs.length ≤ 100)
    (h : ∀ (B : Addr) h' tk (vs : List Value), Fr h₀ L h' m → News h₀ L h' ((B, listOf vs.toArray 0) :: news) → (∀ q ∈ news, q.1 < B) → KeysOf vs (kvs.map (·.1)) →
      wpAny (model prog w) A.in1 (call (.builtin "list.sort") [.ref B]) (fun _ s' => Q (.ref B) s') E { s with heap := h', toks := tk }) :
    wpAny (model prog w) A (call (.builtin "sorted") [.ref d]) Q E s := by
  obtain ⟨es, ep, hx, hy⟩ := hod
  have hD : s.heap.DictAt (PySem.strKind prog w) d kvs ep := ⟨_, es, (N _ hm).1, hx, hy⟩
  refine kdu_sorted (kdl_dict (knd := PySem.strKind prog w) (kvs := kvs) (ep := ep) lo) hh F N hD (by rw [sizeLine_eq]; omega) fun B h' tk vs F' N' l1 hl hv => h B h' tk vs F' N' l1 (KeysOf.of hl fun j v e => ?_)
  obtain ⟨k, x, hx, hk⟩ := hv j v e
  exact ⟨k, x, hx, Value.isStrOf_shape hk⟩
end
theorem EntAll.uncons {w : World} {R : List (Addr × Obj)} {kvs : List (Str × Value)} {k : Str} {d : PD} {eds : List (Str × PD)} (h : EntAll w R kvs ((k, d) :: eds)) : ∃ v kvs', kvs = (k, v) :: kvs' ∧ ValIn w R v d ∧ EntAll w R kvs' eds := by
  cases h with
  | cons a b => exact ⟨_, _, rfl, a, b⟩
theorem EntAll.unnil {w : World} {R : List (Addr × Obj)} {kvs : List (Str × Value)} (h : EntAll w R kvs []) : kvs = [] := by
  cases h; rfl
theorem rowNil {P : Str × PD → Prop} : ∀ r ∈ ([] : List (Str × PD)), P r := fun _ h => nomatch h
theorem rowCons {P : Str × PD → Prop} {k : Str} {d : PD} {l : List (Str × PD)} (h : P (k, d)) (t : ∀ r ∈ l, P r) : ∀ r ∈ (k, d) :: l, P r := fun r hr => by
  rcases List.mem_cons.mp hr with rfl | hr
  · exact h
  · exact t r hr
theorem szEs_mem {r : Str × PD} : ∀ {es : List (Str × PD)}, r ∈ es → szD r.2 ≤ szEs es
  | [], h => nomatch h
  | (k, d) :: es, h => by
    rcases List.mem_cons.mp h with rfl | h
    · exact Nat.le_add_right _ _
    · exact Nat.le_trans (szEs_mem h) (Nat.le_add_left _ _)
noncomputable def SortsTo (w : World) (eds : List (Str × PD)) (ks : List Str) : Prop :=
  ∀ {A : Around} {E : Value → Shared → Prop} {s : Shared} {h₀ : Heap} {L d : Addr} {m : Str → Option Value} {news R : List (Addr × Obj)} {Q : Value → Shared → Prop} {od : Obj} {kvs : List (Str × Value)}, A.handled = none → Fr h₀ L s.heap m → (hd.heap_39 w.params).In h₀ → News h₀ L s.heap news → (d, od) ∈ news → od.IsDictOf (PySem.strKind prg w) kvs → (d == sysModules) = false → EntAll w R kvs eds →
    (∀ B h' tk vs k, Fr h₀ L h' m → News h₀ L h' ((B, listOf vs.toArray k) :: news) → (∀ q ∈ news, q.1 < B) → KeysOf vs ks → Q (.ref B) { s with heap := h', toks := tk }) → wpAny (model prg w) A (call (.builtin "sorted") [.ref d]) Q E s
noncomputable abbrev rowD (r : Str × PD) : Dat := .tuple [.str r.1, toldD r.2]
theorem keys_row {vs : List Value} {row : List (Str × PD)} (hk : KeysOf vs (row.map (·.1))) {i : Nat} {v : Value} (h : vs[i]? = some v) : ∃ r t, row[i]? = some r ∧ v = .str r.1 t := by
  obtain ⟨x, t, e, rfl⟩ := hk.at h
  rw [List.getElem?_map] at e
  cases q : row[i]? with
  | none => rw [q] at e; cases e
  | some r => rw [q] at e; cases e; exact ⟨r, t, rfl, rfl⟩
theorem told_closeR {h₀ h : Heap} {L D : Addr} {m : Str → Option Value} {ys : List Value} {n tk : Nat} {x : Str} {t : Tok} {ds : List Dat} {l base news tl : List (Addr × Obj)} {s : Shared} {Q : Value → Shared → Prop} {d : PD}
    (ret : ∀ r h' tk' tl, Fr h₀ L h' m → News h₀ L h' (tl ++ news) → Above tl news → DatIn tl r (toldD d) → Q r { s with heap := h', toks := tk' })
    (F : Fr h₀ L h m) (N : News h₀ L h ((D, tupOf (.str x t :: ys).toArray n) :: l)) (hJ : Above tl base ∧ DatAll tl ys ds) (hb : ∀ q ∈ news, q ∈ base) (hs : ∀ p ∈ tl ++ base, p ∈ l) (hl : ∀ q ∈ l, q.1 < D)
    (e : toldD d = .tuple (.str x :: ds)) : Q (.ref D) { s with heap := h, toks := tk } := by
  have hn : ∀ p ∈ tl ++ news, p ∈ l := fun p hp => hs p ((List.mem_append.mp hp).elim (fun h => List.mem_append.mpr (.inl h)) fun h => List.mem_append.mpr (.inr (hb p h)))
  refine ret _ _ _ ((D, tupOf (.str x t :: ys).toArray n) :: tl) F (news_sub N fun p hp => ?_) (Above.cons' hl (fun q hq => hn q (List.mem_append.mpr (.inr hq))) (hJ.1.sub hb)) (by rw [e]; exact .tuple (.head _) (.cons (.str _ _) (hJ.2.mono fun _ h => .tail _ h)))
  rcases List.mem_cons.mp hp with rfl | hp
  · exact .head _
  · exact .tail _ (hn _ hp)
section toldall
local macro_rules | `(tactic| walk_at "call ref") => `(tactic| (kp_kind "277"; refine hold ?_))
local macro_rules | `(tactic| walk_at "CompSrcT") => `(tactic| (k_here; refine hold ?_))
local macro_rules | `(tactic| walk_at "CompSrc") => `(tactic| (k_here; refine hold ?_))
local macro_rules | `(tactic| walk_at "CompEnd") => `(tactic| (k_here; refine hold ?_))
local macro_rules | `(tactic| walk_at "binaryOp Add ref ref") => `(tactic| (k_here; refine hold ?_))
local macro_rules | `(tactic| walk_at "call type:tuple") => `(tactic| (k_here; refine hold ?_))
local macro_rules | `(tactic| walk_at "compareOp IsNot") => `(tactic| (k_here; (with_reducible show wpAny _ _ (compareOp CmpOp.IsNot _ Value.none) _ _ _); dsimp only; refine ValIn.isNot (by assumption) ?_))
variable {w : World}
theorem told_arr {ds : List PD} (hne : ds ≠ []) (hl : ds.length ≤ 8) (ih : ∀ d ∈ ds, TellsP w d) : TellsP w (.arr ds) := by
  intro p loose mean mg mb dp un gd cn cs a ccd cl outer A₀ base h₀ L m news s Q E v B F X N T hk hV hd hu ret
  have hV' := hV
  cases hV
  rename_i hm hr
  have hvl := hr.length
  simp only [szD] at hd hu
  refine wpAny_call ?_
  k_dflt (refine' code_defC ?k1 ?k2 ?k3 ?k4 ?k5 ?kA ?kF ?kK ?k6 ?k7 ?k8 ?k9 ?kB ?kD ?_ ?c2 ?c3 ?c4; (case kA => exact rfl); (case kF => exact rfl); (case kK => assumption); (case k1 => k_asm); (case k2 => k_asm); (case k3 => k_asm); (case k4 => k_asm); (case k5 => k_asm); (case k6 => k_is); (case k7 => k_is); (case k8 => k_room); (case k9 => exact BindsTo.of_eq rfl); (case kB => exact rfl); (case kD => decide +kernel); (case c2 => exact rfl); (case c3 => exact rfl); (case c4 => exact rfl); k_whole; intro g' L' h' tk' cells' FG' F' N' Y' B' X' T' l1; (try k_lt l1); k_cells Y'; (try simp only [List.cons_append, List.nil_append] at N'); (try dsimp only); (try k_fold))
  k_steps
  unfold Hold
  refine LCg.CompSrc.ledger (by rfl) (by k_asm) (by k_asm) (by k_mem) (by simp only [List.size_toArray, sizeLine_eq]; omega) ?_
  intro g9
  refine compRest_told (ds.map toldD) ?_ ?_
  · intro i v ys tl I oI C oC D m₂ h tk E' hi hP hJ hC hx F N off ne
    refine ea1_2 (hr.at (by simpa using hP)) ?_
    intro d hdi hVd
    have hsz := szDs_mem (List.mem_of_getElem? hdi)
    k_steps
    unfold Hold
    refine tellsP_use (by k_asm) (by k_asm) (by k_asm) (by k_asm) (by k_asm) (by first | exact rfl | assumption) hVd (ih d (List.mem_of_getElem? hdi)) (fun p hp => .tail _ (.tail _ (.tail _ (List.mem_append.mpr (.inr ((by kwd_less : ∀ p ∈ news, p ∈ _) p hp)))))) (by ktr_room) (by ktr_units) ?_
    intro r9 h9 tk9 tl9 F9 N9 ab9 hT9
    k_steps
    unfold Hold
    exact compEnd_tl (by assumption) (by assumption) (by assumption) off (.inr ⟨_, List.mem_append.mpr (.inr (by k_mem)), rfl, _, rfl⟩) (tj_step hJ (by rw [List.getElem?_map, hdi]; rfl) ab9 hT9)
  · intro ys tl hJ
    have hJ2 := tj_end hJ (by rw [List.size_toArray, List.length_map, hvl])
    have hyl := hJ2.2.length
    rw [List.length_map] at hyl
    k_steps
    unfold Hold
    refine kde_tupleOf (by k_asm) (by k_asm) (News.isList (by k_asm) (.head _)) (by rw [List.size_toArray]; omega) rfl ?_
    intro D2 h2 F2 N2 l2
    k_steps
    unfold Hold
    refine kde_addT (by k_asm) (by k_asm) (News.isTup (by k_asm) (by k_mem)) (News.isTup (by k_asm) (.head _)) (by exact List.cons_ne_nil _ _) (fun e => hne (List.length_eq_zero_iff.mp (hyl ▸ congrArg List.length e))) (by show 1 + ys.length ≤ 16384; omega) rfl ?_
    intro D3 h3 F3 N3 l3
    k_steps
    exact told_closeR ret (by assumption) (by assumption) hJ2 (by kwd_less) (fun p hp => .tail _ (.tail _ hp)) l3 (by rw [toldD, toldDs_map])
section
variable {A : Around} {E : Value → Shared → Prop} {s : Shared} {h₀ : Heap} {L d : Addr} {m : Str → Option Value} {news : List (Addr × Obj)} {Q : Value → Shared → Prop} {od : Obj}
theorem sorts_sm {x y : PD} : SortsTo w [("S", x), ("M", y)] ["M", "S"] := by
  intro A E s h₀ L d m news R Q od kvs hh F X N hm hod lo hE h
  obtain ⟨v0, _, rfl, -, hE⟩ := hE.uncons
  obtain ⟨v1, _, rfl, -, hE⟩ := hE.uncons
  cases hE.unnil
  clear hE
  refine sortedKeys hh F N hm hod lo (Nat.le_of_ble_eq_true rfl) fun B h' tk vs F' N' l1 hk => ?_
  replace hk : KeysOf vs ["S", "M"] := hk
  obtain ⟨t0, _, rfl, t1, _, rfl, rfl⟩ := hk
  k_steps
  exact h _ _ _ _ _ (by assumption) (by assumption) l1 ⟨_, _, rfl, _, _, rfl, rfl⟩
theorem sorts_smd {x y z : PD} : SortsTo w [("S", x), ("M", y), ("D", z)] ["D", "M", "S"] := by
  intro A E s h₀ L d m news R Q od kvs hh F X N hm hod lo hE h
  obtain ⟨v0, _, rfl, -, hE⟩ := hE.uncons
  obtain ⟨v1, _, rfl, -, hE⟩ := hE.uncons
  obtain ⟨v2, _, rfl, -, hE⟩ := hE.uncons
  cases hE.unnil
  clear hE
  refine sortedKeys hh F N hm hod lo (Nat.le_of_ble_eq_true rfl) fun B h' tk vs F' N' l1 hk => ?_
  replace hk : KeysOf vs ["S", "M", "D"] := hk
  obtain ⟨t0, _, rfl, t1, _, rfl, t2, _, rfl, rfl⟩ := hk
  k_steps
  exact h _ _ _ _ _ (by assumption) (by assumption) l1 ⟨_, _, rfl, _, _, rfl, _, _, rfl, rfl⟩
theorem sorts_smn {x y u : PD} : SortsTo w [("S", x), ("M", y), ("Next", u)] ["M", "Next", "S"] := by
  intro A E s h₀ L d m news R Q od kvs hh F X N hm hod lo hE h
  obtain ⟨v0, _, rfl, -, hE⟩ := hE.uncons
  obtain ⟨v1, _, rfl, -, hE⟩ := hE.uncons
  obtain ⟨v2, _, rfl, -, hE⟩ := hE.uncons
  cases hE.unnil
  clear hE
  refine sortedKeys hh F N hm hod lo (Nat.le_of_ble_eq_true rfl) fun B h' tk vs F' N' l1 hk => ?_
  replace hk : KeysOf vs ["S", "M", "Next"] := hk
  obtain ⟨t0, _, rfl, t1, _, rfl, t2, _, rfl, rfl⟩ := hk
  k_steps
  exact h _ _ _ _ _ (by assumption) (by assumption) l1 ⟨_, _, rfl, _, _, rfl, _, _, rfl, rfl⟩
theorem sorts_smdn {x y z u : PD} : SortsTo w [("S", x), ("M", y), ("D", z), ("Next", u)] ["D", "M", "Next", "S"] := by
  intro A E s h₀ L d m news R Q od kvs hh F X N hm hod lo hE h
  obtain ⟨v0, _, rfl, -, hE⟩ := hE.uncons
  obtain ⟨v1, _, rfl, -, hE⟩ := hE.uncons
  obtain ⟨v2, _, rfl, -, hE⟩ := hE.uncons
  obtain ⟨v3, _, rfl, -, hE⟩ := hE.uncons
  cases hE.unnil
  clear hE
  refine sortedKeys hh F N hm hod lo (Nat.le_of_ble_eq_true rfl) fun B h' tk vs F' N' l1 hk => ?_
  replace hk : KeysOf vs ["S", "M", "D", "Next"] := hk
  obtain ⟨t0, _, rfl, t1, _, rfl, t2, _, rfl, t3, _, rfl, rfl⟩ := hk
  k_steps
  exact h _ _ _ _ _ (by assumption) (by assumption) l1 ⟨_, _, rfl, _, _, rfl, _, _, rfl, _, _, rfl, rfl⟩
end
local macro_rules | `(tactic| walk_at "call builtin:sorted") => `(tactic| (k_here; refine hold ?_))
local macro_rules | `(tactic| walk_at "subscriptTail") => `(tactic| (k_here; (with_reducible show wpAny _ _ (subscriptTail _ _ (Value.ref _) (Value.str _ _)) _ _ _); k_dflt (refine kda_item (knd := PySem.strKind _ _) (by k_asm) (by k_mem) (by k_asm) (strKind_is _ _ _ _) (by assumption) ?_)))
theorem told_dict {a : Addr} {eds row : List (Str × PD)} (hrow : toldD (.dict a eds) = .tuple (.str "dict" :: row.map rowD)) (hne : row ≠ []) (hl : row.length ≤ 8) (hin : ∀ {R kvs}, EntAll w R kvs eds → ∀ r ∈ row, ∃ v, valueAt kvs r.1 = some v ∧ ValIn w R v r.2) (hz : ∀ r ∈ row, szD r.2 ≤ szEs eds) (ih : ∀ r ∈ row, TellsP w r.2) (srt : SortsTo w eds (row.map (·.1))) : TellsP w (.dict a eds) := by
  intro p loose mean mg mb dp un gd cn cs a ccd cl outer A₀ base h₀ L m news s Q E v B F X N T hk hV hd hu ret
  have hV' := hV
  cases hV
  rename_i hm hod hr
  simp only [szD] at hd hu
  refine wpAny_call ?_
  k_dflt (refine' code_defC ?k1 ?k2 ?k3 ?k4 ?k5 ?kA ?kF ?kK ?k6 ?k7 ?k8 ?k9 ?kB ?kD ?_ ?c2 ?c3 ?c4; (case kA => exact rfl); (case kF => exact rfl); (case kK => assumption); (case k1 => k_asm); (case k2 => k_asm); (case k3 => k_asm); (case k4 => k_asm); (case k5 => k_asm); (case k6 => k_is); (case k7 => k_is); (case k8 => k_room); (case k9 => exact BindsTo.of_eq rfl); (case kB => exact rfl); (case kD => decide +kernel); (case c2 => exact rfl); (case c3 => exact rfl); (case c4 => exact rfl); k_whole; intro g' L' h' tk' cells' FG' F' N' Y' B' X' T' l1; (try k_lt l1); k_cells Y'; (try simp only [List.cons_append, List.nil_append] at N'); (try dsimp only); (try k_fold))
  k_steps
  unfold Hold
  refine srt (by rfl) (by k_asm) (by k_asm) (by k_asm) (by k_mem) (by assumption) (by assumption) (by assumption) ?_
  intro B2 h2 tk2 vs2 k2 F2 N2 l2 hks
  have hvl := hks.length
  rw [List.length_map] at hvl
  k_steps
  unfold Hold
  refine LCt.CompSrcT.ledger (by rfl) (by k_asm) (by k_asm) (.head _) (by simp only [List.size_toArray, sizeLine_eq]; omega) ?_
  intro g9
  refine compRestT_told (row.map rowD) ?_ ?_
  · intro i v ys tl I oI C oC D m₂ h tk E' hi hP hJ hC hx F N off ne
    refine ea2_2 (keys_row hks (by simpa using hP)) ?_
    intro r t hri ev
    subst ev
    refine ea1_2 (hin (by assumption) r (List.mem_of_getElem? hri)) ?_
    intro v hval hVd
    have hsz := hz r (List.mem_of_getElem? hri)
    k_steps
    unfold Hold
    refine tellsP_use (by k_asm) (by k_asm) (by k_asm) (by k_asm) (by k_asm) (by first | exact rfl | assumption) hVd (ih r (List.mem_of_getElem? hri)) (fun p hp => .tail _ (.tail _ (.tail _ (List.mem_append.mpr (.inr ((by kwd_less : ∀ p ∈ news, p ∈ _) p hp)))))) (by ktr_room) (by ktr_units) ?_
    intro r9 h9 tk9 tl9 F9 N9 ab9 hT9
    k_steps
    unfold Hold
    have ab8 := Above.cons' (o := tupOf #[Value.str r.1 t, r9] 0) (tl := tl9) (by first | assumption | exact ktn_ltOf (by tbn_find)) (fun q hq => List.mem_append.mpr (.inr hq)) ab9
    exact compEnd_tl (add := (_, _) :: tl9) (by assumption) (by assumption) ab8 off (.inr ⟨_, List.mem_append.mpr (.inr (.head _)), rfl, _, rfl⟩) (tj_step hJ (by rw [List.getElem?_map, hri]; rfl) ab8 (.tuple (.head _) (.cons (.str _ _) (.cons (hT9.mono fun _ h => .tail _ h) .nil))))
  · intro ys tl hJ
    have hJ2 := tj_end hJ (by rw [List.size_toArray, List.length_map, hvl])
    have hyl := hJ2.2.length
    rw [List.length_map] at hyl
    k_steps
    unfold Hold
    refine kde_tupleOf (by k_asm) (by k_asm) (News.isList (by k_asm) (.head _)) (by rw [List.size_toArray]; omega) rfl ?_
    intro D2 h2 F2 N2 l2
    k_steps
    unfold Hold
    refine kde_addT (by k_asm) (by k_asm) (News.isTup (by k_asm) (by k_mem)) (News.isTup (by k_asm) (.head _)) (by exact List.cons_ne_nil _ _) (fun e => hne (List.length_eq_zero_iff.mp (hyl ▸ congrArg List.length e))) (by show 1 + ys.length ≤ 16384; omega) rfl ?_
    intro D3 h3 F3 N3 l3
    k_steps
    exact told_closeR ret (by assumption) (by assumption) hJ2 (by kwd_less) (fun p hp => .tail _ (.tail _ hp)) l3 hrow
theorem told_sm {a : Addr} {x y : PD} (ihS : TellsP w x) (ihM : TellsP w y) : TellsP w (.dict a [("S", x), ("M", y)]) := by
  refine told_dict (row := [("M", y), ("S", x)]) rfl (List.cons_ne_nil _ _) (Nat.le_of_ble_eq_true rfl) (fun hE => ?_) ?_ ?_ sorts_sm
  · obtain ⟨v0, _, rfl, a0, hE⟩ := hE.uncons
    obtain ⟨v1, _, rfl, a1, hE⟩ := hE.uncons
    exact rowCons ⟨_, rfl, a1⟩ (rowCons ⟨_, rfl, a0⟩ (rowNil))
  · exact rowCons (szEs_mem (.tail _ (.head _))) (rowCons (szEs_mem (.head _)) (rowNil))
  · exact rowCons ihM (rowCons ihS (rowNil))
theorem told_smd {a : Addr} {x y z : PD} (ihS : TellsP w x) (ihM : TellsP w y) (ihD : TellsP w z) : TellsP w (.dict a [("S", x), ("M", y), ("D", z)]) := by
  refine told_dict (row := [("D", z), ("M", y), ("S", x)]) rfl (List.cons_ne_nil _ _) (Nat.le_of_ble_eq_true rfl) (fun hE => ?_) ?_ ?_ sorts_smd
  · obtain ⟨v0, _, rfl, a0, hE⟩ := hE.uncons
    obtain ⟨v1, _, rfl, a1, hE⟩ := hE.uncons
    obtain ⟨v2, _, rfl, a2, hE⟩ := hE.uncons
    exact rowCons ⟨_, rfl, a2⟩ (rowCons ⟨_, rfl, a1⟩ (rowCons ⟨_, rfl, a0⟩ (rowNil)))
  · exact rowCons (szEs_mem (.tail _ (.tail _ (.head _)))) (rowCons (szEs_mem (.tail _ (.head _))) (rowCons (szEs_mem (.head _)) (rowNil)))
  · exact rowCons ihD (rowCons ihM (rowCons ihS (rowNil)))
theorem told_smn {a : Addr} {x y u : PD} (ihS : TellsP w x) (ihM : TellsP w y) (ihNext : TellsP w u) : TellsP w (.dict a [("S", x), ("M", y), ("Next", u)]) := by
  refine told_dict (row := [("M", y), ("Next", u), ("S", x)]) rfl (List.cons_ne_nil _ _) (Nat.le_of_ble_eq_true rfl) (fun hE => ?_) ?_ ?_ sorts_smn
  · obtain ⟨v0, _, rfl, a0, hE⟩ := hE.uncons
    obtain ⟨v1, _, rfl, a1, hE⟩ := hE.uncons
    obtain ⟨v2, _, rfl, a2, hE⟩ := hE.uncons
    exact rowCons ⟨_, rfl, a1⟩ (rowCons ⟨_, rfl, a2⟩ (rowCons ⟨_, rfl, a0⟩ (rowNil)))
  · exact rowCons (szEs_mem (.tail _ (.head _))) (rowCons (szEs_mem (.tail _ (.tail _ (.head _)))) (rowCons (szEs_mem (.head _)) (rowNil)))
  · exact rowCons ihM (rowCons ihNext (rowCons ihS (rowNil)))
theorem told_smdn {a : Addr} {x y z u : PD} (ihS : TellsP w x) (ihM : TellsP w y) (ihD : TellsP w z) (ihNext : TellsP w u) : TellsP w (.dict a [("S", x), ("M", y), ("D", z), ("Next", u)]) := by
  refine told_dict (row := [("D", z), ("M", y), ("Next", u), ("S", x)]) rfl (List.cons_ne_nil _ _) (Nat.le_of_ble_eq_true rfl) (fun hE => ?_) ?_ ?_ sorts_smdn
  · obtain ⟨v0, _, rfl, a0, hE⟩ := hE.uncons
    obtain ⟨v1, _, rfl, a1, hE⟩ := hE.uncons
    obtain ⟨v2, _, rfl, a2, hE⟩ := hE.uncons
    obtain ⟨v3, _, rfl, a3, hE⟩ := hE.uncons
    exact rowCons ⟨_, rfl, a2⟩ (rowCons ⟨_, rfl, a1⟩ (rowCons ⟨_, rfl, a3⟩ (rowCons ⟨_, rfl, a0⟩ (rowNil))))
  · exact rowCons (szEs_mem (.tail _ (.tail _ (.head _)))) (rowCons (szEs_mem (.tail _ (.head _))) (rowCons (szEs_mem (.tail _ (.tail _ (.tail _ (.head _))))) (rowCons (szEs_mem (.head _)) (rowNil))))
  · exact rowCons ihD (rowCons ihM (rowCons ihNext (rowCons ihS (rowNil))))
end toldall
theorem told_all {w : World} {d : PD} (hS : Small d) : TellsP w d := by
  induction hS with
  | int i => intro p loose mean mg mb dp un gd cn cs a ccd cl outer A₀ base h₀ L m news s Q E v B F X N T hk hV hd hu ret; exact told_leaf (.inl ⟨_, rfl⟩) B F X N T hk hV hd hu ret
  | name x => intro p loose mean mg mb dp un gd cn cs a ccd cl outer A₀ base h₀ L m news s Q E v B F X N T hk hV hd hu ret; exact told_leaf (.inr (.inl ⟨_, rfl⟩)) B F X N T hk hV hd hu ret
  | ref n g => intro p loose mean mg mb dp un gd cn cs a ccd cl outer A₀ base h₀ L m news s Q E v B F X N T hk hV hd hu ret; exact told_leaf (.inr (.inr ⟨_, _, rfl⟩)) B F X N T hk hV hd hu ret
  | arr1 _ ih => exact told_arr (List.cons_ne_nil _ _) (Nat.le_of_ble_eq_true rfl) (List.forall_mem_cons.mpr ⟨ih, List.forall_mem_nil _⟩)
  | arr2 _ _ ih ih2 => exact told_arr (List.cons_ne_nil _ _) (Nat.le_of_ble_eq_true rfl) (List.forall_mem_cons.mpr ⟨ih, List.forall_mem_cons.mpr ⟨ih2, List.forall_mem_nil _⟩⟩)
  | sm _ _ i1 i2 => exact told_sm i1 i2
  | smd _ _ _ i1 i2 i3 => exact told_smd i1 i2 i3
  | smn _ _ _ i1 i2 i3 => exact told_smn i1 i2 i3
  | smdn _ _ _ _ i1 i2 i3 i4 => exact told_smdn i1 i2 i3 i4
inductive Kid where
  | ref (n : Int) (b : Option Addr)
  | own (b : Addr)
  | odd
noncomputable def walkL (W : Kid → List Int → Option (Bool × List Addr)) : List Kid → List Int → Option (Bool × List Addr)
  | [], _ => some (true, [])
  | k :: ks, above =>
    match W k above with
    | none => none
    | some (false, o) => some (false, o)
    | some (true, o) => (walkL W ks above).map fun r => (r.1, o ++ r.2)
noncomputable def walkK (G : Addr → List Kid) : Nat → Kid → List Int → Option (Bool × List Addr)
  | 0, _, _ => none
  | _ + 1, .odd, _ => some (true, [])
  | f + 1, .own b, above => (walkL (walkK G f) (G b) above).map fun r => (r.1, b :: r.2)
  | f + 1, .ref n ob, above =>
    if n ∈ above then some (false, []) else
      match ob with
      | none => some (true, [])
      | some b => (walkL (walkK G f) (G b) (above ++ [n])).map fun r => (r.1, b :: r.2)
noncomputable def mach (G : Addr → List Kid) : Nat → List (Kid × List Int) → List Addr → Option (Bool × List Addr)
  | 0, _, _ => none
  | _ + 1, [], out => some (true, out)
  | n + 1, (.odd, _) :: st, out => mach G n st out
  | n + 1, (.own b, above) :: st, out => mach G n ((G b).map (fun k => (k, above)) ++ st) (out ++ [b])
  | n + 1, (.ref i none, above) :: st, out => if i ∈ above then some (false, out) else mach G n st out
  | n + 1, (.ref i (some b), above) :: st, out => if i ∈ above then some (false, out) else mach G n ((G b).map (fun k => (k, above ++ [i])) ++ st) (out ++ [b])
noncomputable def Goes (G : Addr → List Kid) (st st' : List (Kid × List Int)) (r : Bool) (o : List Addr) : Prop :=
  ∀ out, ∃ m, (r = true → ∀ n, mach G (n + m) st out = mach G n st' (out ++ o)) ∧ (r = false → ∀ n, mach G (n + m) st out = some (false, out ++ o))
theorem Goes.nil {G : Addr → List Kid} {st : List (Kid × List Int)} : Goes G st st true [] := fun out => ⟨0, fun _ n => by simp, (fun (h : true = false) => Bool.noConfusion h)⟩
theorem Goes.step {G : Addr → List Kid} {st st' st1 : List (Kid × List Int)} {r : Bool} {o o1 : List Addr} (h : ∀ n out, mach G (n + 1) st out = mach G n st1 (out ++ o1)) (g : Goes G st1 st' r o) : Goes G st st' r (o1 ++ o) := fun out => by
  obtain ⟨m, h1, h2⟩ := g (out ++ o1)
  refine ⟨m + 1, fun e n => ?_, fun e n => ?_⟩
  · rw [← Nat.add_assoc, h, h1 e, List.append_assoc]
  · rw [← Nat.add_assoc, h, h2 e, List.append_assoc]
theorem Goes.trans {G : Addr → List Kid} {st st' st1 : List (Kid × List Int)} {r : Bool} {o o1 : List Addr} (h : Goes G st st1 true o1) (g : Goes G st1 st' r o) : Goes G st st' r (o1 ++ o) := fun out => by
  obtain ⟨m1, a1, _⟩ := h out
  obtain ⟨m, h1, h2⟩ := g (out ++ o1)
  refine ⟨m + m1, fun e n => ?_, fun e n => ?_⟩
  · rw [← Nat.add_assoc, a1 rfl, h1 e, List.append_assoc]
  · rw [← Nat.add_assoc, a1 rfl, h2 e, List.append_assoc]
theorem Goes.fail {G : Addr → List Kid} {st st' st1 : List (Kid × List Int)} {o1 : List Addr} (h : Goes G st st1 false o1) : Goes G st st' false o1 := fun out => by
  obtain ⟨m1, _, a2⟩ := h out
  exact ⟨m1, (fun (e : false = true) => Bool.noConfusion e), a2⟩
theorem goes_walk (G : Addr → List Kid) : ∀ f, (∀ k above r o, walkK G f k above = some (r, o) → ∀ st, Goes G ((k, above) :: st) st r o) ∧ (∀ ks above r o, walkL (walkK G f) ks above = some (r, o) → ∀ st, Goes G (ks.map (fun k => (k, above)) ++ st) st r o) := by
  have key : ∀ f, (∀ k above r o, walkK G f k above = some (r, o) → ∀ st, Goes G ((k, above) :: st) st r o) → ∀ ks above r o, walkL (walkK G f) ks above = some (r, o) → ∀ st, Goes G (ks.map (fun k => (k, above)) ++ st) st r o := by
    intro f hf ks
    induction ks with
    | nil =>
      intro above r o h st
      rw [walkL] at h
      cases h
      exact Goes.nil
    | cons k ks ih =>
      intro above r o h st
      rw [walkL] at h
      cases e : walkK G f k above with
      | none => rw [e] at h; cases h
      | some p =>
        obtain ⟨r1, o1⟩ := p
        rw [e] at h
        cases r1 with
        | false => cases h; exact (hf _ _ _ _ e _).fail
        | true =>
          cases e2 : walkL (walkK G f) ks above with
          | none => simp [e2] at h
          | some p2 =>
            simp only [e2, Option.map_some, Option.some.injEq, Prod.mk.injEq] at h
            obtain ⟨rfl, rfl⟩ := h
            exact (hf _ _ _ _ e _).trans (ih _ _ _ e2 st)
  intro f
  induction f with
  | zero => exact ⟨fun k above r o h => by cases k <;> (rw [walkK] at h; cases h), key 0 fun k above r o h => by cases k <;> (rw [walkK] at h; cases h)⟩
  | succ f ih =>
    have h1 : ∀ k above r o, walkK G (f + 1) k above = some (r, o) → ∀ st, Goes G ((k, above) :: st) st r o := by
      intro k above r o h st
      cases k with
      | odd =>
        rw [walkK] at h
        cases h
        exact Goes.step (o1 := []) (fun n out => by simp [mach]) Goes.nil
      | own b =>
        rw [walkK] at h
        cases e : walkL (walkK G f) (G b) above with
        | none => simp [e] at h
        | some p =>
          simp only [e, Option.map_some, Option.some.injEq, Prod.mk.injEq] at h
          obtain ⟨rfl, rfl⟩ := h
          exact Goes.step (o1 := [b]) (fun n out => by simp [mach]) (ih.2 _ _ _ _ e st)
      | ref i ob =>
        cases ob with
        | none =>
          rw [walkK] at h
          by_cases hi : i ∈ above
          · rw [if_pos hi] at h
            cases h
            exact fun out => ⟨1, (fun (e : false = true) => Bool.noConfusion e), fun _ n => by simp [mach, hi]⟩
          · rw [if_neg hi] at h
            cases h
            exact Goes.step (o1 := []) (fun n out => by simp [mach, hi]) Goes.nil
        | some b =>
          rw [walkK] at h
          by_cases hi : i ∈ above
          · rw [if_pos hi] at h
            cases h
            exact fun out => ⟨1, (fun (e : false = true) => Bool.noConfusion e), fun _ n => by simp [mach, hi]⟩
          · rw [if_neg hi] at h
            cases e : walkL (walkK G f) (G b) (above ++ [i]) with
            | none => simp [e] at h
            | some p =>
              simp only [e, Option.map_some, Option.some.injEq, Prod.mk.injEq] at h
              obtain ⟨rfl, rfl⟩ := h
              exact Goes.step (o1 := [b]) (fun n out => by simp [mach, hi]) (ih.2 _ _ _ _ e st)
    exact ⟨h1, key _ h1⟩
theorem mach_walk {G : Addr → List Kid} {f : Nat} {k : Kid} {r : Bool} {o : List Addr} (h : walkK G f k [] = some (r, o)) : ∃ n, mach G n [(k, [])] [] = some (r, o) := by
  obtain ⟨m, h1, h2⟩ := (goes_walk G f).1 _ _ _ _ h [] []
  cases r with
  | true => exact ⟨1 + m, by rw [h1 rfl]; simp [mach]⟩
  | false => exact ⟨0 + m, by rw [h2 rfl]; simp⟩
theorem mach_len {G : Addr → List Kid} : ∀ {n : Nat} {st : List (Kid × List Int)} {out o : List Addr} {r : Bool}, mach G n st out = some (r, o) → out.length ≤ o.length := by
  intro n
  induction n with
  | zero => intro st out o r h; cases h
  | succ n ih =>
    intro st out o r h
    cases st with
    | nil => simp only [mach, Option.some.injEq, Prod.mk.injEq] at h; exact Nat.le_of_eq (by rw [h.2])
    | cons p st =>
      obtain ⟨k, above⟩ := p
      cases k with
      | odd => exact ih h
      | own b => have := ih h; simp only [List.length_append, List.length_cons, List.length_nil] at this; omega
      | ref i ob =>
        cases ob with
        | none =>
          simp only [mach] at h
          split at h
          · simp only [Option.some.injEq, Prod.mk.injEq] at h; exact Nat.le_of_eq (by rw [h.2])
          · exact ih h
        | some b =>
          simp only [mach] at h
          split at h
          · simp only [Option.some.injEq, Prod.mk.injEq] at h; exact Nat.le_of_eq (by rw [h.2])
          · have := ih h; simp only [List.length_append, List.length_cons, List.length_nil] at this; omega
theorem nodup_len : ∀ {l N : List Int}, l.Nodup → (∀ x ∈ l, x ∈ N) → l.length ≤ N.length
  | [], _, _, _ => Nat.zero_le _
  | x :: l, N, h, hs => by
    have h1 := List.nodup_cons.mp h
    have hx : x ∈ N := hs x (.head _)
    have := nodup_len (l := l) (N := N.erase x) h1.2 fun y hy => (List.mem_erase_of_ne (show y ≠ x from fun e => h1.1 (e ▸ hy))).mpr (hs y (.tail _ hy))
    rw [List.length_erase_of_mem hx] at this
    have : 0 < N.length := List.length_pos_of_mem hx
    simp only [List.length_cons]
    omega
noncomputable def KidOk (G : Addr → List Kid) (N : List Int) : Kid → Prop
  | .ref n (some _) => n ∈ N
  | .own b => G b = []
  | _ => True
theorem walk_ends {G : Addr → List Kid} {N : List Int} (hG : ∀ b, ∀ k ∈ G b, KidOk G N k) : ∀ f k above, above.Nodup → (∀ x ∈ above, x ∈ N) → N.length + 2 ≤ f + above.length → KidOk G N k → ∃ p, walkK G f k above = some p := by
  intro f
  induction f with
  | zero =>
    intro k above h1 h2 h3 _
    have := nodup_len h1 h2
    omega
  | succ f ih =>
    intro k above h1 h2 h3 hk
    cases k with
    | odd => exact ⟨_, by rw [walkK]⟩
    | own b =>
      have e : G b = [] := hk
      exact ⟨_, by rw [walkK, e, walkL]; rfl⟩
    | ref n ob =>
      cases ob with
      | none =>
        by_cases hn : n ∈ above
        · exact ⟨_, by rw [walkK, if_pos hn]⟩
        · exact ⟨_, by rw [walkK, if_neg hn]⟩
      | some b =>
        by_cases hn : n ∈ above
        · exact ⟨_, by rw [walkK, if_pos hn]⟩
        · have a1 : (above ++ [n]).Nodup := by
            rw [List.nodup_append]
            refine ⟨h1, by simp, fun x hx y hy e => ?_⟩
            rw [List.mem_singleton.mp hy] at e
            exact hn (e ▸ hx)
          have a2 : ∀ x ∈ above ++ [n], x ∈ N := fun x hx => by
            rcases List.mem_append.mp hx with h | h
            · exact h2 x h
            · rw [List.mem_singleton.mp h]; exact hk
          have a3 : N.length + 2 ≤ f + (above ++ [n]).length := by simp only [List.length_append, List.length_cons, List.length_nil]; omega
          have all : ∀ ks : List Kid, (∀ k ∈ ks, KidOk G N k) → ∃ p, walkL (walkK G f) ks (above ++ [n]) = some p := by
            intro ks
            induction ks with
            | nil => exact fun _ => ⟨_, by rw [walkL]⟩
            | cons k ks ihk =>
              intro hks
              obtain ⟨⟨r, o⟩, e⟩ := ih k _ a1 a2 a3 (hks k (.head _))
              obtain ⟨p2, e2⟩ := ihk fun k hk => hks k (.tail _ hk)
              cases r with
              | false => exact ⟨_, by rw [walkL, e]⟩
              | true => exact ⟨_, by rw [walkL, e, e2]; rfl⟩
          obtain ⟨p, e⟩ := all (G b) (hG b)
          exact ⟨_, by rw [walkK, if_neg hn, e]; rfl⟩
theorem walk_len {G : Addr → List Kid} (hG : ∀ b, (G b).length ≤ 2) : ∀ f k above r o, walkK G f k above = some (r, o) → o.length + 1 ≤ 2 ^ f := by
  intro f
  induction f with
  | zero => intro k above r o h; cases k <;> (rw [walkK] at h; cases h)
  | succ f ih =>
    have all : ∀ ks above r o, walkL (walkK G f) ks above = some (r, o) → o.length + ks.length ≤ ks.length * 2 ^ f := by
      intro ks
      induction ks with
      | nil => intro above r o h; rw [walkL] at h; cases h; simp
      | cons k ks ihk =>
        intro above r o h
        rw [walkL] at h
        have hp : 1 ≤ 2 ^ f := Nat.one_le_two_pow
        cases e : walkK G f k above with
        | none => rw [e] at h; cases h
        | some p =>
          obtain ⟨r1, o1⟩ := p
          rw [e] at h
          have l1 := ih _ _ _ _ e
          have hm : ks.length ≤ ks.length * 2 ^ f := Nat.le_mul_of_pos_right _ (by omega)
          cases r1 with
          | false =>
            cases h
            simp only [List.length_cons, Nat.succ_mul]
            omega
          | true =>
            cases e2 : walkL (walkK G f) ks above with
            | none => simp [e2] at h
            | some p2 =>
              have l2 := ihk _ _ _ e2
              simp only [e2, Option.map_some, Option.some.injEq, Prod.mk.injEq] at h
              obtain ⟨rfl, rfl⟩ := h
              simp only [List.length_cons, List.length_append, Nat.succ_mul]
              omega
    have two : ∀ b above r o, walkL (walkK G f) (G b) above = some (r, o) → o.length + 2 ≤ 2 ^ (f + 1) := by
      intro b above r o h
      have h1 := all _ _ _ _ h
      have h2 := hG b
      have hp : 1 ≤ 2 ^ f := Nat.one_le_two_pow
      have h3 : (G b).length * 2 ^ f + (2 - (G b).length) * 2 ^ f = 2 * 2 ^ f := by rw [← Nat.add_mul]; congr 1; omega
      have h4 : (2 - (G b).length) ≤ (2 - (G b).length) * 2 ^ f := Nat.le_mul_of_pos_right _ (by omega)
      rw [Nat.pow_succ]
      omega
    intro k above r o h
    have hp : 1 ≤ 2 ^ (f + 1) := Nat.one_le_two_pow
    cases k with
    | odd => rw [walkK] at h; cases h; exact hp
    | own b =>
      rw [walkK] at h
      cases e : walkL (walkK G f) (G b) above with
      | none => simp [e] at h
      | some p =>
        have := two _ _ _ _ e
        simp only [e, Option.map_some, Option.some.injEq, Prod.mk.injEq] at h
        obtain ⟨rfl, rfl⟩ := h
        simp only [List.length_cons]
        omega
    | ref i ob =>
      by_cases hi : i ∈ above
      · cases ob <;> (rw [walkK, if_pos hi] at h; cases h; exact hp)
      · cases ob with
        | none => rw [walkK, if_neg hi] at h; cases h; exact hp
        | some b =>
          rw [walkK, if_neg hi] at h
          cases e : walkL (walkK G f) (G b) (above ++ [i]) with
          | none => simp [e] at h
          | some p =>
            have := two _ _ _ _ e
            simp only [e, Option.map_some, Option.some.injEq, Prod.mk.injEq] at h
            obtain ⟨rfl, rfl⟩ := h
            simp only [List.length_cons]
            omega
inductive KidAt (w : World) (R : List (Addr × Obj)) (kvs : List (Int × Value)) : Value → Kid → Prop
  | odd (i : Int) (t : Tok) : KidAt w R kvs (.int i t) .odd
  | own (b : Addr) : KidAt w R kvs (.ref b) (.own b)
  | miss {x dx : Addr} {h1 h2 i : Int} {k1 k2 t1 t2 : Tok} {n : Nat} : (x, instObj 254 dx) ∈ R → (dx, dictOf [⟨h1, .str "number" k1, .int i t1⟩, ⟨h2, .str "generation" k2, .int 0 t2⟩] n) ∈ R → valueAt kvs i = none → KidAt w R kvs (.ref x) (.ref i none)
  | hit {x dx b tup : Addr} {h1 h2 i : Int} {k1 k2 t1 t2 t5 : Tok} {n n' : Nat} : (x, instObj 254 dx) ∈ R → (dx, dictOf [⟨h1, .str "number" k1, .int i t1⟩, ⟨h2, .str "generation" k2, .int 0 t2⟩] n) ∈ R → valueAt kvs i = some (.ref tup) →
      (tup, tupOf #[.int 0 t5, .ref b] n') ∈ R → KidAt w R kvs (.ref x) (.ref i (some b))
theorem KidAt.mono {w : World} {R R' : List (Addr × Obj)} {kvs : List (Int × Value)} (hs : ∀ p ∈ R, p ∈ R') {v : Value} {k : Kid} (h : KidAt w R kvs v k) : KidAt w R' kvs v k := by
  cases h with
  | odd i t => exact .odd i t
  | own b => exact .own b
  | miss h1 h2 h3 => exact .miss (hs _ h1) (hs _ h2) h3
  | hit h1 h2 h3 h4 => exact .hit (hs _ h1) (hs _ h2) h3 (hs _ h4)
inductive KidsAt (w : World) (R : List (Addr × Obj)) (kvs : List (Int × Value)) : List Value → List Kid → Prop
  | nil : KidsAt w R kvs [] []
  | cons {v : Value} {k : Kid} {vs : List Value} {ks : List Kid} : KidAt w R kvs v k → KidsAt w R kvs vs ks → KidsAt w R kvs (v :: vs) (k :: ks)
theorem KidsAt.mono {w : World} {R R' : List (Addr × Obj)} {kvs : List (Int × Value)} (hs : ∀ p ∈ R, p ∈ R') {vs : List Value} {ks : List Kid} (h : KidsAt w R kvs vs ks) : KidsAt w R' kvs vs ks :=
  KidsAt.rec (motive := fun vs ks _ => KidsAt w R' kvs vs ks) .nil (fun a _ r => .cons (a.mono hs) r) h
theorem KidsAt.length {w : World} {R : List (Addr × Obj)} {kvs : List (Int × Value)} {vs : List Value} {ks : List Kid} (h : KidsAt w R kvs vs ks) : vs.length = ks.length :=
  KidsAt.rec (motive := fun vs ks _ => vs.length = ks.length) rfl (fun _ _ r => congrArg (· + 1) r) h
theorem KidsAt.at {w : World} {R : List (Addr × Obj)} {kvs : List (Int × Value)} : ∀ {vs : List Value} {ks : List Kid} {i : Nat} {v : Value}, KidsAt w R kvs vs ks → vs[i]? = some v → ∃ k, ks[i]? = some k ∧ KidAt w R kvs v k
  | _, _, _, _, .nil, h => by simp at h
  | _, _, 0, _, .cons h _, e => by simp at e; exact ⟨_, rfl, e ▸ h⟩
  | _, _, i + 1, _, .cons _ r, e => by simp at e; obtain ⟨k, h1, h2⟩ := KidsAt.at r e; exact ⟨k, by simpa using h1, h2⟩
inductive NextAt (w : World) (R : List (Addr × Obj)) (kvs : List (Int × Value)) (es : List (Str × Value)) : List Kid → Prop
  | none : valueAt es "Next" = none → NextAt w R kvs es []
  | ref {x : Addr} {i : Int} {ob : Option Addr} : valueAt es "Next" = some (.ref x) → KidAt w R kvs (.ref x) (.ref i ob) → NextAt w R kvs es [.ref i ob]
  | own {b : Addr} : valueAt es "Next" = some (.ref b) → NextAt w R kvs es [.own b]
  | row {a : Addr} {vs : List Value} {n : Nat} {ks : List Kid} : valueAt es "Next" = some (.ref a) → (a, listOf vs.toArray n) ∈ R → KidsAt w R kvs vs ks → vs.length ≤ 2 → ks ≠ [] → NextAt w R kvs es ks
theorem NextAt.mono {w : World} {R R' : List (Addr × Obj)} {kvs : List (Int × Value)} (hs : ∀ p ∈ R, p ∈ R') {es : List (Str × Value)} {ks : List Kid} (h : NextAt w R kvs es ks) : NextAt w R' kvs es ks := by
  cases h with
  | none h => exact .none h
  | ref h1 h2 => exact .ref h1 (h2.mono hs)
  | own h => exact .own h
  | row h1 h2 h3 h4 h5 => exact .row h1 (hs _ h2) (h3.mono hs) h4 h5
noncomputable def DictG (w : World) (R : List (Addr × Obj)) (kvs : List (Int × Value)) (G : Addr → List Kid) (b : Addr) : Prop :=
  ∃ o es, (b, o) ∈ R ∧ o.IsDictOf (PySem.strKind prg w) es ∧ (b == sysModules) = false ∧ NextAt w R kvs es (G b)
theorem graphK {w : World} {R : List (Addr × Obj)} {kvs : List (Int × Value)} {G : Addr → List Kid} {b : Addr} {C X : Prop} (h : DictG w R kvs G b ∧ C) (k : ∀ o es, (b, o) ∈ R → o.IsDictOf (PySem.strKind prg w) es → (b == sysModules) = false → NextAt w R kvs es (G b) → C → X) : X := by
  obtain ⟨⟨o, es, hb, ho, hbs, hn⟩, hc⟩ := h
  exact k o es hb ho hbs hn hc
noncomputable def KidD (G : Addr → List Kid) (D : Addr → Prop) : Kid → Prop
  | .own b => D b ∧ G b = []
  | .ref _ (some b) => D b
  | _ => True
noncomputable def GraphAt (w : World) (R : List (Addr × Obj)) (kvs : List (Int × Value)) (G : Addr → List Kid) (D : Addr → Prop) : Prop :=
  ∀ b, D b → DictG w R kvs G b ∧ ∀ k ∈ G b, KidD G D k
noncomputable def WalksP (w : World) (G : Addr → List Kid) (D : Addr → Prop) (f : Nat) : Prop :=
  ∀ {p : Program} {loose : List Str} {mean : ExcName → Option Value} {mg mb : Str → Option Value} {dp un : Nat} {gd : Option (List Code)} {cn : Str} {cs : Scope} {a : Addr} {ccd : Value} {cl : List (Str × Addr)} {outer : List Env} {A₀ : Around} {base h₀ : Heap} {L : Addr} {m : Str → Option Value} {news R : List (Addr × Obj)} {s : Shared} {Q E : Value → Shared → Prop}
   {sh fa ab : Addr} {kvs : List (Int × Value)} {v : Value} {k : Kid} {above : List Int} {avs fs : List Value} {na c : Nat} {r : Bool} {out : List Addr},
   Below A₀ base outer h₀ → Fr h₀ L s.heap m → (hd.heap_39 w.params).In h₀ → News h₀ L s.heap ((fa, listOf fs.toArray c) :: news) → Top p loose mean mg mb h₀ → cs.kind = .function → ShelfAt w R sh kvs → GraphAt w R kvs G D → KidAt w R kvs v k → KidD G D k →
   (∀ p ∈ R, p ∈ news) → (∀ p ∈ news, p.1 ≠ fa) → (ab, listOf avs.toArray na) ∈ news → IntsAre avs above → walkK G f k above = some (r, out) → above.length + f ≤ 20 → fs.length + out.length ≤ 1000 → dp + 10 * f < recursionLimit → un + 60 * f < cLine →
   (∀ h' tk' c', Fr h₀ L h' m → News h₀ L h' ((fa, listOf (fs ++ out.map Value.ref).toArray c') :: news) → Q (.bool r) { s with heap := h', toks := tk' }) →
   wpAny (model prg w) (ktrTop dp un gd cn cs L a ccd cl outer) (call (.ref 534) [.ref sh, v, .ref ab, .ref fa]) Q E s
section walkrules
variable {prog : Program} {w : World} {A : Around} {E : Value → Shared → Prop} {s : Shared} {h₀ : Heap} {L d l : Addr} {m : Str → Option Value} {news : List (Addr × Obj)} {Q : Value → Shared → Prop} {o : Obj}
theorem inInts {vs : List Value} {ns : List Int} {k : Int} {t : Tok} {n : Nat} {b : Bool} (N : News h₀ L s.heap news) (hm : (l, listOf vs.toArray n) ∈ news) (hi : IntsAre vs ns) (e : (ns.any (· == k)) = b) (h : Q (.bool b) s) : wpAny (model prog w) A (compareOp .In (.int k t) (.ref l)) Q E s :=
  in_list_ints (listAt N hm) hi (by rw [e]; exact h)
theorem addInts {a b : Addr} {vs ws : List Value} {ns : List Int} {n n' : Nat} (F : Fr h₀ L s.heap m) (N : News h₀ L s.heap news) (ha : (a, listOf vs.toArray n) ∈ news) (hb : (b, listOf ws.toArray n') ∈ news) (hi : IntsAre vs ns) (hlen : ns.length ≤ 1000) (hw : ws.length ≤ 1000)
    (h : ∀ D h', Fr h₀ L h' m → News h₀ L h' ((D, listOf (vs ++ ws).toArray 0) :: news) → (∀ p ∈ news, p.1 < D) → Q (.ref D) { s with heap := h' }) :
    wpAny (model prog w) A (binaryOp .Add (.ref a) (.ref b)) Q E s :=
  add_lists (hsz := by rw [hi.length, sizeLine_eq]; omega) F N (listAt N ha) (listAt N hb) fun h' F' N' => h _ h' F' N' fun p hp => Heap.lt_size (N p hp).1
theorem appendL {fa : Addr} {fs : List Value} {c : Nat} {x : Value} {l' : List (Addr × Obj)} (F : Fr h₀ L s.heap m) (N : News h₀ L s.heap news) (hne : ∀ p ∈ l', p.1 ≠ fa) (hm : (fa, listOf fs.toArray c) ∈ news) (hs : ∀ p ∈ l', p ∈ news) (hl : fs.length ≤ 1000)
    (h : ∀ h', Fr h₀ L h' m → News h₀ L h' ((fa, listOf (fs ++ [x]).toArray (c + 1)) :: l') → Q .none { s with heap := h' }) : wpAny (model prog w) A (call (.builtin "list.append") [.ref fa, x]) Q E s := by
  have e : fs.toArray.push x = (fs ++ [x]).toArray := by simp
  refine append_K (news := (fa, listOf fs.toArray c) :: l') (news' := (fa, listOf (fs.toArray.push x) (c + 1)) :: l') F (news_sub N fun p hp => ?_) (.head hne) (fun h' F' N' => h h' F' (by rw [← e]; exact N')) (by rw [List.size_toArray, sizeLine_eq]; omega)
  rcases List.mem_cons.mp hp with rfl | hp
  · exact hm
  · exact hs _ hp
theorem appendL3 {fa D l0 : Addr} {fs us : List Value} {c : Nat} {x : Value} {l' : List (Addr × Obj)} (F : Fr h₀ L s.heap m) (N : News h₀ L s.heap news) (hne : ∀ p ∈ l', p.1 ≠ fa) (l1 : l0 < D ∧ fa < D ∧ AllLt D l') (hD : (D, listOf us.toArray 0) ∈ news) (hm : (fa, listOf fs.toArray c) ∈ news) (hs : ∀ p ∈ l', p ∈ news) (hl : fs.length ≤ 1000)
    (h : ∀ h', Fr h₀ L h' m → News h₀ L h' ((fa, listOf (fs ++ [x]).toArray (c + 1)) :: (D, listOf us.toArray 0) :: l') → Q .none { s with heap := h' }) : wpAny (model prog w) A (call (.builtin "list.append") [.ref fa, x]) Q E s := by
  refine appendL F N (fun p hp => ?_) hm (fun p hp => ?_) hl h
  · rcases List.mem_cons.mp hp with rfl | hp
    · exact Nat.ne_of_gt l1.2.1
    · exact hne _ hp
  · rcases List.mem_cons.mp hp with rfl | hp
    · exact hD
    · exact hs _ hp
end walkrules
section loopwalk
variable {w : World} {A : Around} {E : Value → Shared → Prop} {s : Shared} {env : Env} {h₀ : Heap} {x : Str} {body : List Stmt} {Q : Flow → Shared → Prop}
theorem loopWalk {l fa ab sh : Addr} {vs avs fs1 : List Value} {k na c1 : Nat} {m₀ : Str → Option Value} {news rest R : List (Addr × Obj)} {kvs : List (Int × Value)} {G : Addr → List Kid} {f : Nat} {ks : List Kid} {above : List Int} {r : Bool} {out : List Addr} (stored : List Str)
    (hh : A.handled = none) (F : Fr h₀ env.locals s.heap m₀) (N : News h₀ env.locals s.heap news)
    (hm1 : m₀ "shelf" = some (.ref sh)) (hm2 : m₀ "above" = some (.ref ab)) (hm3 : m₀ "found" = some (.ref fa))
    (hne : ∀ p ∈ rest, p.1 ≠ fa) (hs : ∀ p ∈ rest, p ∈ news) (hl : (l, listOf vs.toArray k) ∈ news) (hlfa : fa ≠ l)
    (hfa : (fa, listOf fs1.toArray c1) ∈ news) (hR : ∀ p ∈ R, p ∈ rest) (hab : (ab, listOf avs.toArray na) ∈ rest)
    (hks : KidsAt w R kvs vs ks) (hw : walkL (walkK G f) ks above = some (r, out))
    (turn : ∀ v kid c (u : Str → Option Value) h tk fs' r1 o1 news2, KidAt w R kvs v kid → kid ∈ ks → walkK G f kid above = some (r1, o1) → (∀ p ∈ rest, p ∈ news2) → (∀ p ∈ R, p ∈ news2) → (∀ p ∈ news2, p.1 ≠ fa) → (ab, listOf avs.toArray na) ∈ news2 →
      fs'.length + o1.length ≤ fs1.length + out.length → (r1 = false → r = false ∧ fs' ++ o1.map Value.ref = fs1 ++ out.map Value.ref) →
      Fr h₀ env.locals h (fun y => if y = x then some v else kstB (fun z => if stored.contains z then u z else m₀ z) [("shelf", .ref sh), ("above", .ref ab), ("found", .ref fa)] y) → News h₀ env.locals h ((fa, listOf fs'.toArray c) :: news2) →
      wpAny (model prg w) A (execs body env) (TurnP (σ := Nat) h₀ env.locals x (fun _ => [("shelf", .ref sh), ("above", .ref ab), ("found", .ref fa)]) stored m₀ (fun c' => (fa, listOf (fs' ++ o1.map Value.ref).toArray c') :: news2) [] (fun _ => r1 = true) { s with heap := h, toks := tk } Q) E { s with heap := h, toks := tk })
    (done : ∀ c (u : Str → Option Value) h tk, r = true → Fr h₀ env.locals h (fun y => if y = x then u y else kstB (fun z => if stored.contains z then u z else m₀ z) [("shelf", .ref sh), ("above", .ref ab), ("found", .ref fa)] y) →
      News h₀ env.locals h ((fa, listOf (fs1 ++ out.map Value.ref).toArray c) :: rest) → Q .next { s with heap := h, toks := tk }) :
    wpAny (model prg w) A (pyIter (.ref l)) (fun it s₂ => LoopAtV prg w A h₀ env x body Q E it s₂) E s := by
  have hcut : ∀ p ∈ rest, p = (l, listOf vs.toArray k) ∨ p ∈ rest.filter (fun p => p.1 != l) := fun p hp => by
    by_cases hpl : p.1 = l
    · have h1 := (N _ hl).1
      have h2 := (N _ (hs _ hp)).1
      rw [hpl, h1] at h2
      obtain ⟨pa, po⟩ := p
      simp only at hpl h2
      rw [hpl, Option.some.inj h2]
      exact .inl rfl
    · exact .inr (List.mem_filter.mpr ⟨hp, by simpa using hpl⟩)
  have hsub : ∀ p ∈ rest.filter (fun p => p.1 != l), p ∈ rest ∧ p.1 ≠ l := fun p hp => by
    have := List.mem_filter.mp hp
    exact ⟨this.1, by simpa using this.2⟩
  refine loopL2 (σ := List Addr × Nat) (fun _ => [("shelf", .ref sh), ("above", .ref ab), ("found", .ref fa)]) stored (fun c => (fa, listOf (fs1 ++ c.1.map Value.ref).toArray c.2) :: rest.filter (fun p => p.1 != l))
    (fun i c => ∃ o2, walkL (walkK G f) (ks.drop i) above = some (r, o2) ∧ out = c.1 ++ o2) ([], c1) hh hl ?_ ?_ F ?_ N ⟨out, by simpa using hw, by simp⟩ ?_ ?_
  · intro p hp
    rcases List.mem_cons.mp hp with rfl | hp
    · simpa using hfa
    · exact hs _ (hsub _ hp).1
  · intro p hp
    rcases List.mem_cons.mp hp with rfl | hp
    · exact hlfa
    · exact (hsub _ hp).2
  · intro p hp
    simp only [List.mem_cons, List.not_mem_nil, or_false] at hp
    rcases hp with rfl | rfl | rfl
    · exact hm1
    · exact hm2
    · exact hm3
  · rintro i v ⟨o, c⟩ u h tk own hv ⟨o2, hw2, ho⟩ hown hsep F' N'
    obtain ⟨kid, hk, hV⟩ := hks.at hv
    have hlt : i < ks.length := by
      rcases Nat.lt_or_ge i ks.length with h | h
      · exact h
      · rw [List.getElem?_eq_none h] at hk; cases hk
    have hdrop : ks.drop i = kid :: ks.drop (i + 1) := by
      rw [List.drop_eq_getElem_cons hlt]
      congr 1
      rw [List.getElem?_eq_getElem hlt] at hk
      exact Option.some.inj hk
    rw [hdrop, walkL] at hw2
    cases e : walkK G f kid above with
    | none => rw [e] at hw2; cases hw2
    | some p =>
      obtain ⟨r1, o1⟩ := p
      rw [e] at hw2
      have hfin : r1 = false → r = false ∧ out = o ++ o1 := fun e1 => by
        subst e1
        simp only [Option.some.injEq, Prod.mk.injEq] at hw2
        exact ⟨hw2.1.symm, by rw [ho, hw2.2]⟩
      have hnext : r1 = true → ∃ o3, walkL (walkK G f) (ks.drop (i + 1)) above = some (r, o3) ∧ out = (o ++ o1) ++ o3 := fun e1 => by
        subst e1
        cases e2 : walkL (walkK G f) (ks.drop (i + 1)) above with
        | none => simp [e2] at hw2
        | some p2 =>
          simp only [e2, Option.map_some, Option.some.injEq, Prod.mk.injEq] at hw2
          exact ⟨p2.2, by rw [← hw2.1], by rw [ho, ← hw2.2, List.append_assoc]⟩
      have hlen : (fs1 ++ o.map Value.ref).length + o1.length ≤ fs1.length + out.length := by
        cases r1 with
        | false => rw [(hfin rfl).2]; simp only [List.length_append, List.length_map]; omega
        | true => obtain ⟨o3, _, e3⟩ := hnext rfl; rw [e3]; simp only [List.length_append, List.length_map]; omega
      have hR2 : ∀ p ∈ rest, p ∈ own ++ rest.filter (fun p => p.1 != l) := fun p hp => by
        rcases hcut p hp with rfl | h
        · exact List.mem_append.mpr (.inl hown)
        · exact List.mem_append.mpr (.inr h)
      have T := turn v kid c u h tk (fs1 ++ o.map Value.ref) r1 o1 (own ++ rest.filter (fun p => p.1 != l)) hV (List.mem_of_getElem? hk) e hR2 (fun p hp => hR2 p (hR p hp)) (fun p hp => by
          rcases List.mem_append.mp hp with hp | hp
          · exact (hsep _ (.head _) p hp).symm
          · exact hne _ (hsub _ hp).1) (hR2 _ hab) hlen (fun e1 => ⟨(hfin e1).1, by rw [(hfin e1).2]; simp⟩) F' (news_sub N' fun p hp => by
          rcases List.mem_cons.mp hp with rfl | hp
          · exact .head _
          · rcases List.mem_append.mp hp with hp | hp
            · exact List.mem_append.mpr (.inr hp)
            · exact List.mem_append.mpr (.inl (.tail _ hp)))
      refine wpAny_mono T (fun fl s₂ q => ?_) fun _ _ e => e
      have fin : (∃ c' h' tk' m', s₂ = { s with heap := h', toks := tk' } ∧ Fr h₀ env.locals h' m' ∧ (∀ p ∈ [(("shelf" : Str), Value.ref sh), ("above", .ref ab), ("found", .ref fa)], m' p.1 = some p.2) ∧ (∀ z, z ≠ x → (∀ p ∈ [(("shelf" : Str), Value.ref sh), ("above", .ref ab), ("found", .ref fa)], z ≠ p.1) → stored.contains z = false → m' z = m₀ z) ∧
          News h₀ env.locals h' (((fa, listOf (fs1 ++ o.map Value.ref ++ o1.map Value.ref).toArray c') :: (own ++ rest.filter (fun p => p.1 != l))) ++ []) ∧ (∀ p ∈ (fa, listOf (fs1 ++ o.map Value.ref ++ o1.map Value.ref).toArray c') :: (own ++ rest.filter (fun p => p.1 != l)), ∀ q ∈ ([] : List (Addr × Obj)), p.1 ≠ q.1) ∧ r1 = true) →
          ∃ (c : List Addr × Nat) (h' : Heap) (tk' : Nat) (m' : Str → Option Value), s₂ = { s with heap := h', toks := tk' } ∧ Fr h₀ env.locals h' m' ∧ (∀ p ∈ [(("shelf" : Str), Value.ref sh), ("above", .ref ab), ("found", .ref fa)], m' p.1 = some p.2) ∧ (∀ z, z ≠ x → (∀ p ∈ [(("shelf" : Str), Value.ref sh), ("above", .ref ab), ("found", .ref fa)], z ≠ p.1) → stored.contains z = false → m' z = m₀ z) ∧
          News h₀ env.locals h' (((fa, listOf (fs1 ++ c.1.map Value.ref).toArray c.2) :: rest.filter (fun p => p.1 != l)) ++ own) ∧ (∀ p ∈ (fa, listOf (fs1 ++ c.1.map Value.ref).toArray c.2) :: rest.filter (fun p => p.1 != l), ∀ q ∈ own, p.1 ≠ q.1) ∧ ∃ o2, walkL (walkK G f) (ks.drop (i + 1)) above = some (r, o2) ∧ out = c.1 ++ o2 := by
        rintro ⟨c', h', tk', m', e1, F2, q1, q2, N2, _, er⟩
        obtain ⟨o3, w3, e3⟩ := hnext er
        refine ⟨(o ++ o1, c'), h', tk', m', e1, F2, q1, q2, news_sub N2 fun p hp => ?_, fun p hp q hq => ?_, o3, w3, e3⟩
        · have em : fs1 ++ (o ++ o1).map Value.ref = fs1 ++ o.map Value.ref ++ o1.map Value.ref := by simp
          rw [em] at hp
          rcases List.mem_append.mp hp with hp | hp
          · rcases List.mem_cons.mp hp with rfl | hp
            · exact List.mem_append.mpr (.inl (.head _))
            · exact List.mem_append.mpr (.inl (.tail _ (List.mem_append.mpr (.inr hp))))
          · exact List.mem_append.mpr (.inl (.tail _ (List.mem_append.mpr (.inl hp))))
        · rcases List.mem_cons.mp hp with rfl | hp
          · exact hsep _ (.head _) q hq
          · exact hsep _ (.tail _ hp) q hq
      cases fl with
      | ret v => exact q
      | brk => exact q
      | next => exact fin q
      | cont => exact fin q
  · rintro ⟨o, c⟩ u h tk ⟨o2, hw2, ho⟩ F' N'
    rw [show ks.drop vs.length = [] from by rw [hks.length]; simp, walkL] at hw2
    simp only [Option.some.injEq, Prod.mk.injEq] at hw2
    obtain ⟨er, rfl⟩ := hw2
    rw [List.append_nil] at ho
    subst ho
    refine done c u h tk er.symm F' (news_sub N' fun p hp => ?_)
    rcases List.mem_cons.mp hp with rfl | hp
    · exact .head _
    · rcases hcut p hp with rfl | h
      · exact .tail _ (List.mem_append.mpr (.inr (.head _)))
      · exact .tail _ (List.mem_append.mpr (.inl h))
end loopwalk
section lawwalk
local macro_rules | `(tactic| walk_at "exec For Name IfExp cons nil") => `(tactic| (k_here; (rename Fr _ _ _ _ => lF'mz); (with_unfolding_all refine' For_invVF lF'mz ?k1 ?k2 ?_; (case k1 => exact rfl); (case k2 => exact rfl); k_whole)))
local macro_rules | `(tactic| walk_at "pyIter ref") => `(tactic| (k_here; refine hold ?_))
local macro_rules | `(tactic| walk_at "compareOp In int ref") => `(tactic| (k_here; k_dflt (apply inInts; k_asm; k_mem; assumption; assumption)))
local macro_rules | `(tactic| walk_at "compareOp In int ref") => `(tactic| (k_here; k_dflt (apply kda_in (knd := PySem.intKind _ _); k_asm; k_mem; assumption; assumption; exact intKind_is _ _ _ _; assumption)))
local macro_rules | `(tactic| walk_at "subscriptTail") => `(tactic| (k_here; (with_reducible show wpAny _ _ (subscriptTail _ _ (Value.ref _) (Value.int _ _)) _ _ _); k_dflt (refine kda_item (knd := PySem.intKind _ _) (by k_asm) (by k_mem) (by assumption) (intKind_is _ _ _ _) (by assumption) ?_)))
local macro_rules | `(tactic| walk_at "binaryOp Add ref ref") => `(tactic| (k_here; (with_reducible show wpAny _ _ (binaryOp _ (Value.ref _) (Value.ref _)) _ _ _); k_dflt (apply addInts; k_asm; k_asm; k_mem; k_mem; assumption; omega; exact Nat.le_of_ble_eq_true rfl); intro D'mz h'mz F'mz N'mz l1mz; (try k_lt l1mz)))
local macro_rules | `(tactic| walk_at "call builtin:list.append") => `(tactic| (k_here; refine hold ?_))
variable {w : World} {G : Addr → List Kid} {D : Addr → Prop} {f : Nat}
local macro_rules | `(tactic| walk_at "unused") => `(tactic| skip)
theorem fa_sub {h₀ h : Heap} {L fa : Addr} {o : Obj} {news news2 : List (Addr × Obj)} (N : News h₀ L h ((fa, o) :: news2)) (hs : ∀ p ∈ news, p ∈ news2) {o' : Obj} (e : o = o') : News h₀ L h ((fa, o') :: news) := by
  subst e
  exact news_sub N fun p hp => (List.mem_cons.mp hp).elim (fun e => e ▸ .head _) fun h => .tail _ (hs p h)
theorem lout {fs : List Value} {b : Addr} {o : List Addr} : fs ++ (b :: o).map Value.ref = (fs ++ [.ref b]) ++ o.map Value.ref := by simp
local macro_rules | `(tactic| walk_at "call ref") => `(tactic| (kp_kind "534"; k_dflt (refine (by assumption : WalksP _ _ _ _) (by k_asm) (by k_asm) (by k_asm) (by k_asm) (by k_asm) (by first | exact rfl | assumption) (by assumption) (by assumption) (by assumption) (by assumption) (by assumption) (by assumption) (by assumption) (by first | assumption | exact (by assumption : ∀ t, IntsAre (_ ++ [Value.int _ t]) _) _) (by assumption) (by (try simp only [List.length_append, List.length_cons, List.length_nil]); omega) (by omega) (by ktr_room) (by ktr_units) ?_); intro h'mz tk'mz c'mz F'mz N'mz))
local macro_rules | `(tactic| walk_at "unused") => `(tactic| skip)
theorem KidAt.inst {R : List (Addr × Obj)} {kvs : List (Int × Value)} {x : Addr} {i : Int} {ob : Option Addr} (h : KidAt w R kvs (.ref x) (.ref i ob)) : ∃ dx es n, (x, instObj 254 dx) ∈ R ∧ (dx, dictOf es n) ∈ R := by
  cases h with
  | miss h1 h2 _ => exact ⟨_, _, _, h1, h2⟩
  | hit h1 h2 _ _ => exact ⟨_, _, _, h1, h2⟩
theorem walk_step (ih : WalksP w G D f) : WalksP w G D (f + 1) := by
  intro p loose mean mg mb dp un gd cn cs a ccd cl outer A₀ base h₀ L m news R s Q E sh fa ab kvs v k above avs fs na c r out B F X N T hk hS hG hV hD hR hfa hab hav hw hlen hfs hd hu ret
  have hS' := hS.mono hR
  obtain ⟨dsh, tb, tr, otb, otr, h1, h2, k1, k2, n, r1, dr1, h3, h4, k3, k4, t3, t4, n1, hs1, hs2, hs3, hs4, hs5, hs6, hs7, hs8, hs9, hs10⟩ := hS'
  have hV' := hV.mono hR
  clear hV
  cases hV'
  case odd =>
    rw [walkK] at hw
    cases hw
    simp only [List.map_nil, List.append_nil] at ret
    refine wpAny_call ?_
    k_dflt ktr_enter
    k_steps
    exact ret _ _ _ (by assumption) (by assumption)
  case miss hx1 hx2 hx3 =>
    rename_i i _ _ _ _ _
    have hx4 : (valueAt kvs i).isSome = false := by rw [hx3]; rfl
    rw [walkK] at hw
    by_cases hi : i ∈ above
    · rw [if_pos hi] at hw
      have hi' : (above.any (· == i)) = true := by simpa using hi
      cases hw
      simp only [List.map_nil, List.append_nil] at ret
      refine wpAny_call ?_
      k_dflt ktr_enter
      k_steps
      exact ret _ _ _ (by assumption) (by kwd_rel)
    rw [if_neg hi] at hw
    have hi' : (above.any (· == i)) = false := by rw [Bool.eq_false_iff]; intro h; exact hi (by simpa using h)
    cases hw
    simp only [List.map_nil, List.append_nil] at ret
    refine wpAny_call ?_
    k_dflt ktr_enter
    k_steps
    exact ret _ _ _ (by assumption) (by kwd_rel)
  case own b =>
    obtain ⟨hD, hGb⟩ : D b ∧ G b = [] := hD
    refine graphK (hG b hD) ?_
    intro o es hb ho hbs hn hks
    replace hb := hR _ hb
    rw [walkK, hGb, walkL] at hw
    rw [hGb] at hn
    cases hw
    simp only [List.map_cons, List.map_nil] at ret
    refine wpAny_call ?_
    k_dflt ktr_enter
    k_steps
    unfold Hold
    refine appendL (by k_asm) (by k_asm) hfa (by k_mem) (by kwd_less) (by omega) ?_
    intro h' F' N'
    cases hn
    case none hn =>
      k_steps
      unfold Hold
      rename _ < _ ∧ AllLt _ _ => l1
      refine loopWalk (R := R) (kvs := kvs) (G := G) (f := f) (above := above) (ks := []) (rest := (_, listOf #[] 0) :: news) [] (by rfl) (by assumption) (by assumption) (by rfl) (by rfl) (by rfl) (List.forall_mem_cons.mpr ⟨Nat.ne_of_gt l1.1, hfa⟩) (by kwd_less) (.head _) (Nat.ne_of_lt l1.1) (.tail _ (.head _)) (fun p hp => .tail _ (hR p hp)) (.tail _ hab) .nil (by rw [walkL]) (fun _ _ _ _ _ _ _ _ _ _ _ h => nomatch h) ?_
      intro c' u h2 tk2 hr F2 N2
      (try k_fold)
      k_steps
      exact ret _ _ _ (by assumption) (fa_sub (by assumption) (by kwd_less) (by rw [List.map_nil, List.append_nil]))
    case row hn5 => exact absurd rfl hn5
  case hit hx1 hx2 hx3 hx4 =>
    rename_i b tup _ _ i _ _ _ _ _ _ _
    have hx5 : (valueAt kvs i).isSome = true := by rw [hx3]; rfl
    rw [walkK] at hw
    by_cases hi : i ∈ above
    · rw [if_pos hi] at hw
      have hi' : (above.any (· == i)) = true := by simpa using hi
      cases hw
      simp only [List.map_nil, List.append_nil] at ret
      refine wpAny_call ?_
      k_dflt ktr_enter
      k_steps
      exact ret _ _ _ (by assumption) (by kwd_rel)
    rw [if_neg hi] at hw
    have hi' : (above.any (· == i)) = false := by rw [Bool.eq_false_iff]; intro h; exact hi (by simpa using h)
    obtain ⟨hD, _⟩ : D b ∧ True := ⟨hD, trivial⟩
    refine graphK (hG b hD) ?_
    intro o es hb ho hbs hn hks
    replace hb := hR _ hb
    generalize eG : G b = ks at hn hw hks
    obtain ⟨⟨r', out2⟩, hw2, hw3⟩ := Option.map_eq_some_iff.mp hw
    simp only [Prod.mk.injEq] at hw3
    obtain ⟨rfl, rfl⟩ := hw3
    rw [lout] at ret
    have hfs' : (fs ++ [Value.ref b]).length + out2.length ≤ 1000 := by simp only [List.length_append, List.length_cons, List.length_nil] at hfs ⊢; omega
    refine wpAny_call ?_
    k_dflt ktr_enter
    k_steps
    unfold Hold
    rename _ < _ ∧ _ < _ ∧ AllLt _ _ => l2
    refine appendL3 (l' := news) (by k_asm) (by k_asm) hfa l2 (.head _) (by k_mem) (by kwd_less) (by simp only [List.length_append, List.length_cons, List.length_nil] at hfs'; omega) ?_
    intro h' F' N'
    have hav2 : ∀ t, IntsAre (avs ++ [.int i t]) (above ++ [i]) := fun t => intsAre_append hav (.cons i t .nil)
    cases hn
    case none hn =>
      k_steps
      unfold Hold
      rename _ < _ ∧ _ < _ ∧ AllLt _ _ => l3
      refine loopWalk (R := R) (kvs := kvs) (G := G) (f := f) (above := above ++ [i]) (rest := (_, listOf _ 0) :: (_, listOf _ 0) :: news) [] (by rfl) (by assumption) (by assumption) (by rfl) (by rfl) (by rfl) (List.forall_mem_cons.mpr ⟨Nat.ne_of_gt l3.1, List.forall_mem_cons.mpr ⟨Nat.ne_of_gt l2.2.1, hfa⟩⟩) (sub_cons (.head _) (sub_cons (.tail _ (.tail _ (.head _))) (fun p hp => .tail _ (.tail _ (.tail _ hp))))) (.head _) (Nat.ne_of_lt l3.1) (.tail _ (.head _)) (fun p hp => .tail _ (.tail _ (hR p hp))) (.tail _ (.head _)) .nil hw2 (fun _ _ _ _ _ _ _ _ _ _ _ h => nomatch h) ?_
      intro c2 u h2 tk2 hr F2 N2
      subst hr
      (try k_fold)
      k_steps
      exact ret _ _ _ (by assumption) (fa_sub (by assumption) (fun p hp => ((.tail _ (.tail _ hp)))) rfl)
    case own hn =>
      refine graphK (hG _ (hks _ (.head _)).1) ?_
      intro o2 es2 hb2 ho2 hbs2 _ _
      replace hb2 := hR _ hb2
      k_steps
      unfold Hold
      rename _ < _ ∧ _ < _ ∧ _ < _ ∧ AllLt _ _ => l4
      rename _ < _ ∧ _ < _ ∧ AllLt _ _ => l3
      refine loopWalk (R := R) (kvs := kvs) (G := G) (f := f) (above := above ++ [i]) (rest := (_, listOf _ _) :: (_, listOf _ _) :: (_, listOf _ 0) :: news) [] (by rfl) (by assumption) (by assumption) (by rfl) (by rfl) (by rfl) (List.forall_mem_cons.mpr ⟨Nat.ne_of_gt l4.2.1, List.forall_mem_cons.mpr ⟨Nat.ne_of_gt l3.1, List.forall_mem_cons.mpr ⟨Nat.ne_of_gt l2.2.1, hfa⟩⟩⟩) (sub_cons (.head _) (sub_cons (.tail _ (.head _)) (sub_cons (.tail _ (.tail _ (.tail _ (.head _)))) (fun p hp => .tail _ (.tail _ (.tail _ (.tail _ hp))))))) (.head _) (Nat.ne_of_lt l4.2.1) (.tail _ (.tail _ (.head _))) (fun p hp => .tail _ (.tail _ (.tail _ (hR p hp)))) (.tail _ (.tail _ (.head _))) (.cons (.own _) .nil) hw2 ?_ ?_
      · intro v kid c2 u h2 tk2 fs2 r1 o1 news2 hK hkid hwk hin hR2 hfa2 hab2 hle hfin F2 N2
        have hD2 := hks _ hkid
        (try k_fold)
        cases r1
        · obtain ⟨rfl, efs⟩ := hfin rfl
          k_steps
          exact ret _ _ _ (by assumption) (fa_sub (by assumption) (fun p hp => hin _ ((.tail _ (.tail _ (.tail _ hp))))) (by rw [efs]))
        · k_steps
          exact ⟨_, _, _, _, rfl, by assumption, List.forall_mem_cons.mpr ⟨rfl, List.forall_mem_cons.mpr ⟨rfl, List.forall_mem_cons.mpr ⟨rfl, List.forall_mem_nil _⟩⟩⟩, by kwd_inv, by rw [List.append_nil]; assumption, fun _ _ _ h => (nomatch h), by first | rfl | exact True.intro⟩
      · intro c2 u h2 tk2 hr F2 N2
        subst hr
        (try k_fold)
        k_steps
        exact ret _ _ _ (by assumption) (fa_sub (by assumption) (fun p hp => ((.tail _ (.tail _ (.tail _ hp))))) rfl)
    case ref hn h2 =>
      refine ea3_2 ((h2.mono hR).inst) ?_
      intro dx9 es9 n9 hx9 hd9
      k_steps
      unfold Hold
      rename _ < _ ∧ _ < _ ∧ _ < _ ∧ AllLt _ _ => l4
      rename _ < _ ∧ _ < _ ∧ AllLt _ _ => l3
      refine loopWalk (R := R) (kvs := kvs) (G := G) (f := f) (above := above ++ [i]) (rest := (_, listOf _ _) :: (_, listOf _ _) :: (_, listOf _ 0) :: news) [] (by rfl) (by assumption) (by assumption) (by rfl) (by rfl) (by rfl) (List.forall_mem_cons.mpr ⟨Nat.ne_of_gt l4.2.1, List.forall_mem_cons.mpr ⟨Nat.ne_of_gt l3.1, List.forall_mem_cons.mpr ⟨Nat.ne_of_gt l2.2.1, hfa⟩⟩⟩) (sub_cons (.head _) (sub_cons (.tail _ (.head _)) (sub_cons (.tail _ (.tail _ (.tail _ (.head _)))) (fun p hp => .tail _ (.tail _ (.tail _ (.tail _ hp))))))) (.head _) (Nat.ne_of_lt l4.2.1) (.tail _ (.tail _ (.head _))) (fun p hp => .tail _ (.tail _ (.tail _ (hR p hp)))) (.tail _ (.tail _ (.head _))) (.cons h2 .nil) hw2 ?_ ?_
      · intro v kid c2 u h2 tk2 fs2 r1 o1 news2 hK hkid hwk hin hR2 hfa2 hab2 hle hfin F2 N2
        have hD2 := hks _ hkid
        (try k_fold)
        cases r1
        · obtain ⟨rfl, efs⟩ := hfin rfl
          k_steps
          exact ret _ _ _ (by assumption) (fa_sub (by assumption) (fun p hp => hin _ ((.tail _ (.tail _ (.tail _ hp))))) (by rw [efs]))
        · k_steps
          exact ⟨_, _, _, _, rfl, by assumption, List.forall_mem_cons.mpr ⟨rfl, List.forall_mem_cons.mpr ⟨rfl, List.forall_mem_cons.mpr ⟨rfl, List.forall_mem_nil _⟩⟩⟩, by kwd_inv, by rw [List.append_nil]; assumption, fun _ _ _ h => (nomatch h), by first | rfl | exact True.intro⟩
      · intro c2 u h2 tk2 hr F2 N2
        subst hr
        (try k_fold)
        k_steps
        exact ret _ _ _ (by assumption) (fa_sub (by assumption) (fun p hp => ((.tail _ (.tail _ (.tail _ hp))))) rfl)
    case row =>
      rename KidsAt _ _ _ _ _ => hk3
      rename (_, listOf _ _) ∈ R => h2
      replace h2 := hR _ h2
      k_steps
      unfold Hold
      rename _ < _ ∧ _ < _ ∧ AllLt _ _ => l3
      refine loopWalk (R := R) (kvs := kvs) (G := G) (f := f) (above := above ++ [i]) (rest := (_, listOf _ _) :: (_, listOf _ 0) :: news) [] (by rfl) (by assumption) (by assumption) (by rfl) (by rfl) (by rfl) (List.forall_mem_cons.mpr ⟨Nat.ne_of_gt l3.1, List.forall_mem_cons.mpr ⟨Nat.ne_of_gt l2.2.1, hfa⟩⟩) (sub_cons (.head _) (sub_cons (.tail _ (.tail _ (.head _))) (fun p hp => .tail _ (.tail _ (.tail _ hp))))) (.tail _ (.tail _ (.tail _ h2))) (hfa _ h2).symm (.tail _ (.head _)) (fun p hp => .tail _ (.tail _ (hR p hp))) (.tail _ (.head _)) hk3 hw2 ?_ ?_
      · intro v kid c2 u h2 tk2 fs2 r1 o1 news2 hK hkid hwk hin hR2 hfa2 hab2 hle hfin F2 N2
        have hD2 := hks _ hkid
        (try k_fold)
        cases r1
        · obtain ⟨rfl, efs⟩ := hfin rfl
          k_steps
          exact ret _ _ _ (by assumption) (fa_sub (by assumption) (fun p hp => hin _ ((.tail _ (.tail _ hp)))) (by rw [efs]))
        · k_steps
          exact ⟨_, _, _, _, rfl, by assumption, List.forall_mem_cons.mpr ⟨rfl, List.forall_mem_cons.mpr ⟨rfl, List.forall_mem_cons.mpr ⟨rfl, List.forall_mem_nil _⟩⟩⟩, by kwd_inv, by rw [List.append_nil]; assumption, fun _ _ _ h => (nomatch h), by first | rfl | exact True.intro⟩
      · intro c2 u h2 tk2 hr F2 N2
        subst hr
        (try k_fold)
        k_steps
        exact ret _ _ _ (by assumption) (fa_sub (by assumption) (fun p hp => ((.tail _ (.tail _ hp)))) rfl)
end lawwalk
theorem walk_all {w : World} {G : Addr → List Kid} {D : Addr → Prop} (f : Nat) : WalksP w G D f := by
  induction f with
  | zero =>
    intro p loose mean mg mb dp un gd cn cs a ccd cl outer A₀ base h₀ L m news R s Q E sh fa ab kvs v k above avs fs na c r out B F X N T hk hS hG hV hD hR hfa hab hav hw
    exfalso
    cases k <;> (rw [walkK] at hw; cases hw)
  | succ f ih => exact walk_step ih
noncomputable def SameTypes (bmB bm : List Value) : Prop := ∀ X : String, bm.contains (.type X) = bmB.contains (.type X)
theorem sameTypes_own {bmB : List Value} {D : Addr} : SameTypes bmB (.ref D :: bmB) := fun X => by rw [List.contains_cons]; rfl
section excnew
variable {prog : Program} {w : World} {A : Around} {E : Value → Shared → Prop} {R : Result → Shared → Prop} {h : Heap} {g : Array GenState} {d : Drawn} {t : Nat} {os : OsState} {K : Frag}
variable {nm q : Str} {C N : Addr} {bs bm bmB : List Value} {hdct : Bool} {sn : List Str} {sub : List Value} {ab : Bool} {col : Option Bool} {dd : Option Addr} {k0 k1 k2 k3 k5 : Option Value} {B newId initId : String}
theorem check_newX {M : Model} (F : ExcBaseFacts B newId initId bmB) (T : SameTypes bmB bm) {rest : List Value} {Q : Unit → Shared → Prop} (hC : h.get? C = some (excClassObj nm q C N bs bm hdct sn sub ab col dd k0 k1 k2 k3 k5 newId))
    (hq : Q () ⟨h, g, d, t, os⟩) : wpAny M A (checkBuiltinCall newId ⟨.ref C :: rest, []⟩) Q E ⟨h, g, d, t, os⟩ := by
  have hcont : (Value.ref C :: bm).contains (.type B) = true := by rw [List.contains_cons, T, F.hasB, Bool.or_true]
  have hstar := F.noStar
  simp only [checkBuiltinCall, F.newKind, F.newSplit, F.newRow]
  repeat (first | refine wpAny_loadPart_at hC ?_ | (refine wpAny_isSubtype_exc hC ?_; rw [hcont]) | refine wpAny_staticBase_exc hC ?_ | refine wpAny_madeBy_exc hC ?_ | simp only [bne_self_eq_false, Bool.false_eq_true, if_false] | wp_step)
  exact hq
theorem exc_newX (F : ExcBaseFacts B newId initId bmB) (T : SameTypes bmB bm) {rest : List Value} (hC : h.get? C = some (excClassObj nm q C N bs bm hdct sn sub ab col dd k0 k1 k2 k3 k5 newId))
    (hq : R (.ok (.ret (.ref (h.objs.size + 1)))) ⟨(h.push { cls := .type "tuple", data := .seq rest.toArray }).push
      { cls := .ref C, data := .fields #[.ref h.objs.size, .none, .none, .none, .bool false, .none] }, g, d, t, os⟩) (hrest : rest.length ≤ sizeLine) :
    codeAny (model prog w) A (.builtin newId ⟨.ref C :: rest, []⟩) R ⟨h, g, d, t, os⟩ := by
  have hends := F.ends
  have hcB : (Value.ref C :: bm).contains (.type B) = true := by rw [List.contains_cons, T, F.hasB, Bool.or_true]
  have hcA : (Value.ref C :: bm).contains (.type "AttributeError") = false := by rw [List.contains_cons, T, F.noAttr]; rfl
  have hcN : (Value.ref C :: bm).contains (.type "NameError") = false := by rw [List.contains_cons, T, F.noName]; rfl
  refine codeAny_builtinAt F.entry ?_
  unfold Builtin.«BaseException.__new__»
  refine _root_.PySem.wpAt_bind ?_
  show _root_.PySem.wpAt _ _ _ (stack >>= _) _ _ _
  refine _root_.PySem.wpAt_bind (_root_.PySem.wpAt_stack fun p below => _root_.PySem.wpAt_of_wpAny ?_)
  wp_walk
  refine _root_.PySem.wpAt_of_wpAny ?_
  rw [F.owner]
  repeat (first | with_reducible refine wpAny_madeHere_exc F.canon hC ?_ | with_reducible refine wpAny_loadPart_at hC ?_ | (with_reducible refine wpAny_isSubtype_exc hC ?_; first | rw [hcB] | rw [hcA] | rw [hcN]) | wp_step)
  show R _ _
  rw [Heap.size_push]
  exact hq
theorem type_callX (F : ExcBaseFacts B newId initId bmB) (T : SameTypes bmB bm) {rest : List Value} {fI : Addr} {oI : Obj} {Q : Fin → Shared → Prop} (X : K.In h)
    (hC : h.get? C = some (excClassObj nm q C N bs bm hdct sn sub ab col dd k0 k1 k2 k3 k5 newId)) (hi : findIn K (.ref C) "__init__" = some (some (.ref fI)))
    (hfI : h.get? fI = some oI) (hfc : oI.cls = .type "function")
    (hq : ∀ h' e, Heap.MadeExcOf h h' e (.ref C) rest →
      wpAny (model prog w) A (call (.ref fI) (.ref e :: rest)) (fun r s' => r = .none ∧ Q (.done (.ret (.ref e))) s') E ⟨h', g, d, t, os⟩) (hrest : rest.length ≤ sizeLine) :
    wpAny (model prog w) A (Builtin.«type.__call__» ⟨.ref C :: rest, []⟩) Q E ⟨h, g, d, t, os⟩ := by
  repeat (first | with_reducible refine wpAny_loadPart_at hC ?_ | with_reducible refine wpAny_madeBy_exc hC ?_ | wp_step)
  refine codeAny_call_builtin_code (Code.quiet_builtin _ F.quiet) (check_newX F T hC ?_)
  refine exc_newX F T hC ?_ hrest
  show wpAny _ _ _ _ _ _
  have keep : ∀ b o, h.get? b = some o → ((h.push { cls := .type "tuple", data := .seq rest.toArray }).push { cls := .ref C, data := .fields #[.ref h.objs.size, .none, .none, .none, .bool false, .none] }).get? b = some o :=
    fun b o hb => Heap.get?_push_of_some _ (Heap.get?_push_of_some _ hb)
  have hget : ((h.push { cls := .type "tuple", data := .seq rest.toArray }).push
      { cls := .ref C, data := .fields #[.ref h.objs.size, .none, .none, .none, .bool false, .none] }).get? (h.objs.size + 1) = some
      { cls := .ref C, data := .fields #[.ref h.objs.size, .none, .none, .none, .bool false, .none] } := by heap_get
  have hcC : (Value.ref C :: bm).contains (.ref C) = true := by simp
  have hC₁ := keep _ _ hC
  have X₁ := X.keeps keep
  unfold isInstance
  repeat (first | with_reducible refine wpAny_loadPart_at hget ?_ | (with_reducible refine wpAny_isSubtype_exc hC₁ ?_; rw [hcC]) | wp_step)
  show wpAny _ _ (typeLookup (.ref C) _) _ _ _
  refine (looks_findIn X₁ hi).here ?_
  refine wpAny_holding (wpAny_bind ?_)
  unfold bindSpecial
  refine wpAny_bind (wpAny_typeOf (T := "function") ⟨_, keep _ _ hfI, hfc⟩ ?_)
  rw [if_pos (by decide)]
  refine wpAny_pure (wpAny_bind (wpAny_mono (hq _ (h.objs.size + 1) ⟨keep, Heap.get?_none_of_le (Nat.le_succ _), h.objs.size, hget, Heap.get?_none_of_le (Nat.le_refl _), ?_⟩) (fun r s' hr => ?_) fun _ _ x => x))
  · exact Heap.get?_push_of_some _ (Heap.get?_push_at rfl rfl)
  · obtain ⟨rfl, hQ⟩ := hr
    wp_walk
    exact hQ
theorem callX (F : ExcBaseFacts B newId initId bmB) (T : SameTypes bmB bm) {rest : List Value} {fI : Addr} {oI : Obj} {Q : Value → Shared → Prop} {s : Shared} (X : K.In s.heap)
    (hC : s.heap.get? C = some (excClassObj nm q C N bs bm hdct sn sub ab col dd k0 k1 k2 k3 k5 newId)) (hi : findIn K (.ref C) "__init__" = some (some (.ref fI)))
    (hfI : s.heap.get? fI = some oI) (hfc : oI.cls = .type "function")
    (hq : ∀ h' e, Heap.MadeExcOf s.heap h' e (.ref C) rest →
      wpAny (model prog w) (A.under (.builtin "type.__call__" ⟨.ref C :: rest, []⟩)) (call (.ref fI) (.ref e :: rest)) (fun r s' => r = .none ∧ Q (.ref e) s') E { s with heap := h' }) (hrest : rest.length ≤ sizeLine) :
    wpAny (model prog w) A (call (.ref C) rest) Q E s := by
  obtain ⟨h, g, d, t, os⟩ := s
  have f1 := tc_lookup
  have f2 := tc_bind (.ref C)
  have hT : (⟨h, g, d, t, os⟩ : Shared).TypeIs (.ref C) "type" := ⟨_, hC, rfl⟩
  refine wpAny_call (codeAny_of_tree ?_)
  show wpAny _ _ (callAny (.ref C) _) _ _ _
  repeat (any_goals (first | assumption | with_reducible refine wpAny_loadPart_at hC ?_ | wp_step))
  refine ⟨rfl, ?_⟩
  refine codeAny_call_builtin_at (Code.quiet_builtin _ (by decide +kernel)) entry_typeCall (wpAny_check_type_call_sub hC (type_callX (hrest := hrest) F T X hC hi hfI hfc fun h' e hm => ?_))
  exact hq h' e hm
noncomputable def ExcVal (h : Heap) (v : Value) : Prop := ∃ (e C : Addr) (dct : Option Addr) (vs : Array Value) (sl : Array (Option Value)) (nm q : Str) (N : Addr) (bs bm : List Value) (hdct : Bool) (sn : List Str) (sub : List Value) (ab : Bool) (col : Option Bool) (dd : Option Addr) (k0 k1 k2 k3 k5 : Option Value) (newId : String),
  v = .ref e ∧ h.get? C = some (excClassObj nm q C N bs bm hdct sn sub ab col dd k0 k1 k2 k3 k5 newId) ∧ bm.contains (.type "BaseException") = true ∧ h.get? e = some { cls := .ref C, dict := dct, data := .fields vs, slots := sl } ∧ vs[1]? = some .none
theorem raise_val {M : Model} {s : Shared} {env : Env} {x : Sem Value} {Q : Flow → Shared → Prop} (hh : A.handled = none) (hx : wpAny M A x (fun v s₁ => ExcVal s₁.heap v ∧ E v s₁) E s) : wpAny M A (raiseStmt env (some x) none) Q E s := by
  unfold raiseStmt
  refine wpAny_bind (wpAny_mono hx (fun v s₁ h₁ => ?_) fun _ _ x => x)
  obtain ⟨⟨e, C, dct, vs, sl, nm, q, N, bs, bm, hdct, sn, sub, ab, col, dd, k0, k1, k2, k3, k5, newId, rfl, hC, hbase, he, hv1⟩, hE⟩ := h₁
  have hcB : (Value.ref C :: bm).contains (.type "BaseException") = true := by rw [List.contains_cons, hbase, Bool.or_true]
  obtain ⟨hp, g, d, tk, os⟩ := s₁
  repeat (first | with_reducible refine wpAny_loadPart_at he ?_ | with_reducible refine wpAny_loadPart_at hC ?_ | (with_reducible refine wpAny_isSubtype_exc hC ?_; rw [hcB]) | wp_step | rw [hv1])
  exact wpAny_raiseNew_none hh hE
theorem Raise_val {M : Model} {s : Shared} {env : Env} {x : PySem.Expr} {pos : Pos} {Q : Flow → Shared → Prop} (hh : A.handled = none) (hx : wpAny M A (PySem.eval x env) (fun v s₁ => ExcVal s₁.heap v ∧ E v s₁) E s) : wpAny M A (PySem.exec (.Raise (some x) none pos) env) Q E s := by
  rw [arm_exec_Raise]
  refine wpAny_bind (wpAny_standAt (raise_val hh ?_))
  exact wpAny_bind (wpAny_mono hx (fun v s₃ h₃ => wpAny_bind (wpAny_standAt (wpAny_pure h₃))) fun _ _ x => x)
end excnew
section excstore
variable {prog : Program} {w : World} {A : Around} {E : Value → Shared → Prop} {R : Result → Shared → Prop} {s : Shared} {K : Frag} {x C L : Addr} {h₀ : Heap} {m : Str → Option Value} {pre post : List (Addr × Obj)} {name : Str} {v : Value} {tk : Tok} {cd : ClassData}
theorem osaX_open {ox : Obj} {od : Option Obj} {r : Option Value} (X : K.In s.heap) (I : InstAt s.heap x ox C od) (hc : clsIn K C = some cd) (hr : refuseLoop (.ref x) "__setattr__" cd.mro = pure ()) (ho : cd.mro.contains (.type "object") = true) (ne : cd.mro.isEmpty = false) (ht : takerIn K C name = some r)
    (h : ∀ b, wpAny (model prog w) A.in1 (match r with | some a => Builtin.ObjectAttr.setByDescriptor a (.ref x) v | none => Builtin.ObjectAttr.storeInOwnDict (.ref x) (.ref C) (.str name tk) name v b)
      (fun fin s' => match fin with | .done f => R (.ok f) s' | .again c' => c'.quiet = true ∧ codeAny (model prog w) A c' R s') (fun e s' => R (.error e) s') s) :
    codeAny (model prog w) A (.call (.builtin "object.__setattr__") ⟨[.ref x, .str name tk, v], []⟩) R s := by
  have SF := PySem.F.store_object
  have sub : Looks (model prog w) s.heap (isInstance (.ref x) (.type "object")) true := I.type.andThen (looks_mroIn X (by unfold mroIn; rw [hc, Option.bind_some, if_neg (by rw [ne]; decide), ho]))
  refine codeAny_call_builtin SF.slot.plain SF.entry (@check_slot (model prog w) _ _ s "object.__setattr__" "object" "__setattr__" (.ref x) [.str name tk, v] [] _ SF.kind SF.split sub (SF.args (.ref x) (.str name tk) v) ?_)
  obtain ⟨attr, ha, hr'⟩ := Option.bind_eq_some_iff.mp ht
  have hm : Looks (model prog w) s.heap (mroOf (.ref C)) cd.mro := (looks_clsIn X hc).andThen .now
  have L3 : Looks (model prog w) s.heap (Builtin.ObjectAttr.storeTaker? attr) r := by
    cases attr with
    | none => cases hr'; exact .now
    | some a =>
      obtain ⟨b, hb, rfl⟩ := Option.map_eq_some_iff.mp hr'
      refine (looks_takesIn X hb).andThen ?_
      cases b <;> exact .now
  rw [osa_eq, refuse_eq]
  refine wpAny_bind (wpAny_bind (I.type.here (wpAny_bind (hm.here ?_))))
  rw [hr]
  exact wpAny_pure (wpAny_bind (I.type.here (wpAny_bind ((looks_findIn X ha).here (wpAny_bind (L3.here (h _)))))))
theorem store_tail {d : Addr} {es es' : List DictEntry} {n n' : Nat} {A' : Around} {Ee : Value → Shared → Prop} (F : Fr h₀ L s.heap m) (N : News h₀ L s.heap (pre ++ (d, dictOf es n) :: post)) (h1 : ∀ p ∈ pre, p.1 ≠ d) (h2 : ∀ p ∈ post, p.1 ≠ d)
    (hl : (getL name es).isSome = true) (e : (putL name (PyData.keyHash w.params name) (.str name s.toks) v es, putN name es n) = (es', n')) (hz : es'.length ≤ 1000)
    (h : ∀ h', Fr h₀ L h' m → News h₀ L h' (pre ++ (d, dictOf es' n') :: post) → R (.ok (.ret .none)) { s with heap := h', toks := s.toks + 1 }) :
    wpAny (model prog w) A (Builtin.ObjectAttr.storeInDict d (.str name tk) name v) (fun fin s' => match fin with | .done f => R (.ok f) s' | .again c' => c'.quiet = true ∧ codeAny (model prog w) A' c' R s') Ee s := by
  obtain ⟨e1, e2⟩ := Prod.mk.inj e
  have e3 : Obj.putName name (PyData.keyHash w.params name) (.str name s.toks) v (dictOf es n) = dictOf es' n' := by rw [putName_dict, e1, e2]
  obtain ⟨U1, U2⟩ := news_upd (f := Obj.putName name (PyData.keyHash w.params name) (.str name s.toks) v) F N h1 h2 e3 rfl
  have D := (N (d, dictOf es n) (by simp)).1
  have D' := (U2 (d, dictOf es' n') (by simp)).1
  unfold Builtin.ObjectAttr.storeInDict
  refine wpAny_bind (wpAny_pure (wpAny_bind ?_))
  unfold nsSet
  refine wpAny_bind (wpAny_bind (wpAny_askSetting (wpAny_pure (wpAny_bind (wpAny_mkText (wpAny_bind (wpAny_loadPart D ?_)))))))
  dsimp only
  have c : (!es.toArray.any (·.key.isStr name) && es.toArray.any (·.refKey)) = false := by
    rw [← Array.any_toList, ← Array.any_toList]
    unfold getL at hl
    split at hl
    · rename_i en he
      rw [List.any_eq_true.mpr ⟨en, List.mem_of_find?_eq_some he, List.find?_some he⟩]; rfl
    · split at hl
      · cases hl
      · rename_i z; rw [Bool.not_eq_true] at z; rw [z, Bool.and_false]
  rw [aRefKeyMayBeTheName_at, c]
  refine wpAny_updatePart D ?_
  refine wpAny_bind (wpAny_lookBehind D' (pastItsLine_dict (by rw [List.size_toArray, sizeLine_eq]; omega)) ?_)
  exact wpAny_pure (h _ U1 U2)
theorem osaX_dict {ox : Obj} {dx : Addr} {es es' : List DictEntry} {n n' : Nat} (F : Fr h₀ L s.heap m) (N : News h₀ L s.heap (pre ++ (dx, dictOf es n) :: post)) (X : K.In s.heap) (I : InstAt s.heap x ox C (some (dictOf es n))) (hd : ox.dict = some dx)
    (hc : clsIn K C = some cd) (hr : refuseLoop (.ref x) "__setattr__" cd.mro = pure ()) (ho : cd.mro.contains (.type "object") = true) (ne : cd.mro.isEmpty = false) (ht : takerIn K C name = some none) (hh : cd.hasDict = true) (h1 : ∀ p ∈ pre, p.1 ≠ dx) (h2 : ∀ p ∈ post, p.1 ≠ dx)
    (hl : (getL name es).isSome = true) (e : (putL name (PyData.keyHash w.params name) (.str name s.toks) v es, putN name es n) = (es', n')) (hz : es'.length ≤ 1000)
    (h : ∀ h', Fr h₀ L h' m → News h₀ L h' (pre ++ (dx, dictOf es' n') :: post) → R (.ok (.ret .none)) { s with heap := h', toks := s.toks + 1 }) :
    codeAny (model prog w) A (.call (.builtin "object.__setattr__") ⟨[.ref x, .str name tk, v], []⟩) R s := by
  refine osaX_open X I hc hr ho ne ht fun b => ?_
  obtain ⟨hx, hcl, hn, -⟩ := I
  obtain ⟨oc, odi, oda, osl⟩ := ox
  dsimp only at hcl hd
  subst hcl hd
  refine wpAny_bind (wpAny_pure (wpAny_bind (wpAny_bind (wpAny_loadPart hx (wpAny_bind ((looks_clsIn X hc).here ?_))))))
  rw [hh]
  exact wpAny_pure (a := some dx) (store_tail F N h1 h2 hl e hz h)
theorem osaX_new {vs : Array Value} {sl : Array (Option Value)} (F : Fr h₀ L s.heap m) (N : News h₀ L s.heap (pre ++ (x, { cls := .ref C, dict := none, data := .fields vs, slots := sl }) :: post)) (X : K.In s.heap)
    (hc : clsIn K C = some cd) (hr : refuseLoop (.ref x) "__setattr__" cd.mro = pure ()) (ho : cd.mro.contains (.type "object") = true) (ne : cd.mro.isEmpty = false) (ht : takerIn K C name = some none) (hh : cd.hasDict = true) (h1 : ∀ p ∈ pre, p.1 ≠ x) (h2 : ∀ p ∈ post, p.1 ≠ x)
    (h : ∀ d h', Fr h₀ L h' m → News h₀ L h' ((d, dictOf [⟨PyData.keyHash w.params name, .str name s.toks, v⟩] 1) :: (pre ++ (x, { cls := .ref C, dict := some d, data := .fields vs, slots := sl }) :: post)) → (∀ p ∈ pre ++ (x, { cls := .ref C, dict := none, data := .fields vs, slots := sl }) :: post, p.1 < d) → R (.ok (.ret .none)) { s with heap := h', toks := s.toks + 1 }) :
    codeAny (model prog w) A (.call (.builtin "object.__setattr__") ⟨[.ref x, .str name tk, v], []⟩) R s := by
  have hx := (N _ (List.mem_append.mpr (.inr (.head _)))).1
  have I : InstAt s.heap x { cls := .ref C, dict := none, data := .fields vs, slots := sl } C none := ⟨hx, rfl, rfl, trivial⟩
  refine osaX_open X I hc hr ho ne ht fun b => ?_
  have lt : ∀ p ∈ pre ++ (x, { cls := .ref C, dict := none, data := .fields vs, slots := sl }) :: post, p.1 < s.heap.objs.size := fun p hp => Heap.lt_size (N p hp).1
  have N₁ := News.push F N (dictOf [] 0)
  have F₁ := F.push (dictOf [] 0)
  obtain ⟨F₂, N₂⟩ := news_upd (pre := (s.heap.objs.size, dictOf [] 0) :: pre) (f := fun o => { o with dict := some s.heap.objs.size }) (o' := { cls := .ref C, dict := some s.heap.objs.size, data := .fields vs, slots := sl }) F₁ N₁
    (fun p hp => by
      rcases List.mem_cons.mp hp with rfl | hp
      · exact Nat.ne_of_gt (lt _ (List.mem_append.mpr (.inr (.head _))))
      · exact h1 p hp) h2 rfl rfl
  have hx₁ := (N₁ _ (.tail _ (List.mem_append.mpr (.inr (.head _))))).1
  refine wpAny_bind (wpAny_pure (wpAny_bind (wpAny_bind (wpAny_loadPart hx (wpAny_bind ((looks_clsIn X hc).here ?_))))))
  rw [hh]
  refine wpAny_bind (wpAny_alloc (wpAny_bind (wpAny_update hx₁ ?_)))
  refine wpAny_bind (wpAny_pure ?_)
  refine wpAny_pure (a := some s.heap.objs.size) ?_
  refine store_tail (s := { s with heap := _ }) (pre := []) F₂ N₂ (fun _ h => nomatch h) (fun p hp => ?_) rfl rfl (Nat.le_of_ble_eq_true rfl) fun h' F' N' => h _ h' F' N' lt
  rcases List.mem_append.mp hp with hp | hp
  · exact Nat.ne_of_lt (lt p (List.mem_append.mpr (.inl hp)))
  · rcases List.mem_cons.mp hp with rfl | hp
    · exact Nat.ne_of_lt (lt (x, { cls := .ref C, dict := none, data := .fields vs, slots := sl }) (List.mem_append.mpr (.inr (.head _))))
    · exact Nat.ne_of_lt (lt p (List.mem_append.mpr (.inr (.tail _ hp))))
end excstore
noncomputable abbrev excObj (dct : Option Addr) (t : Addr) : Obj := { cls := .ref 59, dict := dct, data := .fields #[.ref t, .none, .none, .none, .bool false, .none] }
noncomputable abbrev excBm : List Value := [.ref 46, .type "Exception", .type "BaseException", .type "object"]
section excfacts
variable {w : World}
theorem k_exc59 : ∃ nm q N bs hdct sn sub ab col dd k0 k1 k2 k3 k5, (hd.heap_39 w.params).lookup 59 = some (excClassObj nm q 59 N bs excBm hdct sn sub ab col dd k0 k1 k2 k3 k5 "Exception.__new__") :=
  ⟨_, _, _, _, _, _, _, _, _, _, _, _, _, _, _, by k_is⟩
theorem k_init59 : findIn (hd.heap_39 w.params) (.ref 59) "__init__" = some (some (.ref 36)) := by k_is
theorem k_fn36 : ∃ o, (hd.heap_39 w.params).lookup 36 = some o ∧ o.cls = .type "function" := ⟨_, by k_is, rfl⟩
theorem k_cls59 : ∃ cd, clsIn (hd.heap_39 w.params) 59 = some cd ∧ cd.mro = .ref 59 :: excBm ∧ cd.hasDict = true := ⟨_, by k_is, rfl, rfl⟩
theorem k_set59 : findIn (hd.heap_39 w.params) (.ref 59) "__setattr__" = some (some (.builtin "object.__setattr__")) := by k_is
theorem k_what59 : takerIn (hd.heap_39 w.params) 59 "what" = some none := by k_is
theorem k_at59 : takerIn (hd.heap_39 w.params) 59 "at" = some none := by k_is
theorem k_refuse59 (x : Addr) : refuseLoop (.ref x) "__setattr__" (.ref 59 :: excBm) = pure () := by
  rw [refuseLoop_ref, refuseLoop_ref]
  kernel_rfl
end excfacts
section exccalls
variable {w : World} {A : Around} {E : Value → Shared → Prop} {s : Shared} {L e t : Addr} {h₀ : Heap} {m : Str → Option Value} {post : List (Addr × Obj)} {name : Str} {v : Value}
theorem set_new59 {Q : Unit → Shared → Prop} (ht : takerIn (hd.heap_39 w.params) 59 name = some none) (F : Fr h₀ L s.heap m) (X₀ : (hd.heap_39 w.params).In h₀) (N : News h₀ L s.heap ((e, excObj none t) :: post)) (hoff : ∀ p ∈ post, p.1 ≠ e)
    (h : ∀ d h', Fr h₀ L h' m → News h₀ L h' ((d, dictOf [⟨PyData.keyHash w.params name, .str name (s.toks + 1), v⟩] 1) :: (e, excObj (some d) t) :: post) → (∀ p ∈ (e, excObj none t) :: post, p.1 < d) → Q () { s with heap := h', toks := s.toks + 2 }) :
    wpAny (model prg w) A (setAttr (.ref e) name v) Q E s := by
  obtain ⟨cd, hc, hm, hh⟩ := k_cls59 (w := w)
  have I : InstAt s.heap e (excObj none t) 59 none := ⟨(N _ (.head _)).1, rfl, rfl, trivial⟩
  refine set_plain (X₀.keeps F.keep) I k_set59 ?_
  exact osaX_new (s := { s with toks := s.toks + 1 }) (pre := []) F N (X₀.keeps F.keep) hc (by rw [hm]; exact k_refuse59 _) (by rw [hm]; rfl) (by rw [hm]; rfl) ht hh (fun _ h => nomatch h) hoff fun d h' F' N' l => h d h' F' N' l
theorem set_more59 {Q : Unit → Shared → Prop} {d : Addr} {es es' : List DictEntry} {n n' : Nat} (ht : takerIn (hd.heap_39 w.params) 59 name = some none) (F : Fr h₀ L s.heap m) (X₀ : (hd.heap_39 w.params).In h₀) (N : News h₀ L s.heap ((d, dictOf es n) :: (e, excObj (some d) t) :: post)) (l : ∀ p ∈ (e, excObj none t) :: post, p.1 < d)
    (hl : (getL name es).isSome = true) (e1 : (putL name (PyData.keyHash w.params name) (.str name (s.toks + 1)) v es, putN name es n) = (es', n')) (hz : es'.length ≤ 1000)
    (h : ∀ h', Fr h₀ L h' m → News h₀ L h' ((d, dictOf es' n') :: (e, excObj (some d) t) :: post) → Q () { s with heap := h', toks := s.toks + 2 }) :
    wpAny (model prg w) A (setAttr (.ref e) name v) Q E s := by
  obtain ⟨cd, hc, hm, hh⟩ := k_cls59 (w := w)
  have I : InstAt s.heap e (excObj (some d) t) 59 (some (dictOf es n)) := ⟨(N _ (.tail _ (.head _))).1, rfl, rfl, (N _ (.head _)).1⟩
  refine set_plain (X₀.keeps F.keep) I k_set59 ?_
  exact osaX_dict (s := { s with toks := s.toks + 1 }) (pre := []) F N (X₀.keeps F.keep) I rfl hc (by rw [hm]; exact k_refuse59 _) (by rw [hm]; rfl) (by rw [hm]; rfl) ht hh (fun _ h => nomatch h) (List.forall_mem_cons.mpr ⟨Nat.ne_of_lt (l (e, excObj none t) (.head _)), fun p hp => Nat.ne_of_lt (l p (.tail _ hp))⟩) hl e1 hz fun h' F' N' => h h' F' N'
theorem exc_init_call {Q : Value → Shared → Prop} (F : Fr h₀ L s.heap m) (X₀ : (hd.heap_39 w.params).In h₀) (N : News h₀ L s.heap ((e, excObj none t) :: post)) (hoff : ∀ p ∈ post, p.1 ≠ e)
    (h : ∀ t' h', Fr h₀ L h' m → News h₀ L h' ((e, excObj none t') :: post) → Q .none { s with heap := h' }) : wpAny (model prg w) A (call (.builtin "Exception.__init__") [.ref e, v]) Q E s := by
  obtain ⟨nm, q, N0, bs, hdct, sn, sub, ab, col, dd, k0, k1, k2, k3, k5, hK⟩ := k_exc59 (w := w)
  have hC := X₀.keeps F.keep _ _ hK
  have FB := PySem.F.excBase_Exception
  have he := (N _ (.head _)).1
  have hcB : (Value.ref 59 :: excBm).contains (.type "Exception") = true := by decide
  obtain ⟨hp, g, d, tk, os⟩ := s
  refine wpAny_call (codeAny_call_builtin FB.init.plain FB.initEntry ?_)
  have hshort := FB.noStar
  simp only [checkBuiltinCall, FB.initKind, FB.initSplit, FB.initRow]
  repeat (first | with_reducible refine wpAny_loadPart_at he ?_ | with_reducible refine wpAny_loadPart_at hC ?_ | (with_reducible refine wpAny_isSubtype_exc hC ?_; rw [hcB]) | wp_step)
  have F₁ := F.push (tupOf #[v] 0)
  have N₁ := News.push F N (tupOf #[v] 0)
  have F₂ := news_upd (pre := [(hp.objs.size, tupOf #[v] 0)]) (f := Obj.mapFields fun x => x.setIfInBounds 0 (Value.ref hp.objs.size)) (o' := excObj none hp.objs.size) F₁ N₁ (fun p hp' => by rw [List.mem_singleton.mp hp']; exact Nat.ne_of_gt (Heap.lt_size he)) hoff rfl rfl
  exact h _ _ F₂.1 (news_sub F₂.2 fun p hp' => .tail _ hp')
end exccalls
section init
local macro_rules | `(tactic| walk_at "getMethod type:Exception") => `(tactic| (k_here; refine' method_type ?F ?X ?m (by decide +kernel) ?e ?h ?_; (case F => k_asm); (case X => k_asm); (case m => kernel_rfl); (case e => k_dflt k_is); (case h => k_handed)))
local macro_rules | `(tactic| walk_at "call builtin:Exception.__init__") => `(tactic| (k_here; (refine exc_init_call (by k_asm) (by k_asm) (by k_asm) (by assumption) ?_); intro t'mz h'mz F'mz N'mz))
local macro_rules | `(tactic| walk_at "setAttr ref") => `(tactic| (k_here; (refine set_more59 k_at59 (by k_asm) (by k_asm) (by k_asm) (by assumption) (by rfl) (by rfl) (by exact Nat.le_of_ble_eq_true rfl) ?_); intro h'mz F'mz N'mz))
local macro_rules | `(tactic| walk_at "setAttr ref") => `(tactic| (k_here; (refine set_new59 k_what59 (by k_asm) (by k_asm) (by k_asm) (by assumption) ?_); intro d'mz h'mz F'mz N'mz l1mz))
variable {w : World} {p : Program} {loose : List Str} {mean : ExcName → Option Value} {mg mb : Str → Option Value}
   {dp un : Nat} {gd : Option (List Code)} {cn : Str} {cs : Scope} {a : Addr} {ccd : Value} {cl : List (Str × Addr)} {outer : List Env} {A₀ : Around} {base h₀ : Heap} {L : Addr} {m : Str → Option Value} {news R : List (Addr × Obj)} {s : Shared}
   {Q E : Value → Shared → Prop}
theorem init_spec {e t : Addr} {x : Str} {tx : Tok}
   (B : Below A₀ base outer h₀) (F : Fr h₀ L s.heap m) (X : (hd.heap_39 w.params).In h₀) (N : News h₀ L s.heap ((e, excObj none t) :: news))
   (T : Top p loose mean mg mb h₀) (hk : cs.kind = .function) (hoff : ∀ q ∈ news, q.1 ≠ e)
   (hd : dp + 20 < recursionLimit)
   (ret : ∀ h' tk' d t', Fr h₀ L h' m → News h₀ L h' ((e, excObj (some d) t') :: news) → Q .none { s with heap := h', toks := tk' }) :
   wpAny (model prg w) ((ktrTop dp un gd cn cs L a ccd cl outer).under (.builtin "type.__call__" ⟨[.ref 59, .str x tx], []⟩)) (call (.ref 36) [.ref e, .str x tx]) Q E s := by
  refine wpAny_call ?_
  k_dflt (refine' code_def ?k1 ?k2 ?k3 ?k4 ?k5 ?kA ?kF ?kK ?k6 ?k7 ?k8 ?k9 ?kB ?_ ?c2 ?c3 ?c4 ?c5; (case kA => exact rfl); (case kF => exact rfl); (case kK => assumption); (case k1 => k_asm); (case k2 => k_asm); (case k3 => k_asm); (case k4 => k_asm); (case k5 => k_asm); (case k6 => k_is); (case k7 => k_is); (case k8 => ktr_room); (case k9 => exact binds_K (by k_in) rfl (by k_is) rfl rfl rfl); (case c5 => decide); (case kB => exact locs rfl); (case c2 => exact rfl); (case c3 => exact rfl); (case c4 => exact rfl); k_whole; intro g' L' h' FG' F' N' B' X' T'; (try dsimp only); (try k_fold))
  k_steps
  exact ret _ _ _ _ (by assumption) (news_sub (by assumption) fun p hp => .tail _ hp)
theorem fault_spec {x : Str} {tx : Tok}
   (B : Below A₀ base outer h₀) (F : Fr h₀ L s.heap m) (X : (hd.heap_39 w.params).In h₀) (N : News h₀ L s.heap news)
   (T : Top p loose mean mg mb h₀) (hk : cs.kind = .function) (hd : dp + 20 < recursionLimit)
   (ret : ∀ h' tk' e d t', Fr h₀ L h' m → News h₀ L h' ((e, excObj (some d) t') :: news) → ExcVal h' (.ref e) → Q (.ref e) { s with heap := h', toks := tk' }) :
   wpAny (model prg w) (ktrTop dp un gd cn cs L a ccd cl outer) (call (.ref 59) [.str x tx]) Q E s := by
  obtain ⟨nm, q, N0, bs, hdct, sn, sub, ab, col, dd, k0, k1, k2, k3, k5, hK⟩ := k_exc59 (w := w)
  obtain ⟨oI, hI, hIc⟩ := k_fn36 (w := w)
  refine callX PySem.F.excBase_Exception sameTypes_own (X.keeps F.keep) (X.keeps F.keep _ _ hK) k_init59 (X.keeps F.keep _ _ hI) hIc (fun h' e hm => ?_) (by exact Nat.le_of_ble_eq_true rfl)
  obtain ⟨t, he, ht, htt⟩ := hm.there
  have F' := F.keeps hm.keeps
  have fresh : ∀ b o, s.heap.get? b = some o → b ≠ e := fun b o hb eq => by have := hm.new; rw [← eq, hb] at this; cases this
  obtain ⟨oL, _, _, hL, _⟩ := F.ns
  refine init_spec (s := { s with heap := h' }) (t := t) (news := news) B F' X (fun p hp => ?_) T hk (fun q hq => fresh _ _ (N q hq).1) hd fun h2 tk2 d t' F2 N2 => ⟨rfl, ?_⟩
  · rcases List.mem_cons.mp hp with rfl | hp
    · refine ⟨he, (fresh _ _ hL).symm, ?_⟩
      cases e0 : h₀.get? e with
      | none => rfl
      | some o => exact absurd rfl (fresh _ _ (F.keep _ _ e0))
    · exact ⟨hm.keeps _ _ (N p hp).1, (N p hp).2⟩
  · exact ret _ _ _ _ _ F2 N2 ⟨e, 59, some d, _, _, nm, q, N0, bs, excBm, hdct, sn, sub, ab, col, dd, k0, k1, k2, k3, k5, _, rfl, X.keeps F2.keep _ _ hK, by decide, (N2 _ (.head _)).1, rfl⟩
theorem leave_raiseX {M : Model} {A : Around} {s' : Shared} {base g : Heap} {name : Str} {scope : Scope} {e t d : Addr} {Q : Unit → Shared → Prop} (K : Below A base outer g) (F : Fr g L s'.heap m) (N : News g L s'.heap ((e, excObj (some d) t) :: news))
    (hQ : ∀ h', Heap.FlyingW base outer e (.ref 59) (.ref t) h' → g.UpToSlots h' → Q () { s' with heap := h' }) (hk : scope.kind = .function := by rfl) :
    wpAny M (A.deeper (envOf name scope L a ccd)) (leaving (envOf name scope L a ccd) (.ref e)) Q E s' := by
  have K' := K.push (name := name) (a := a) (cd := ccd) F hk
  have en := fresh_of_stays K.stays (N _ (.head _)).2.2
  refine wpAny_leaving_firstW (a0 := .ref t) (oe := excObj (some d) t) K'.stack K'.frames rfl (N _ (.head _)).1 K'.stays en rfl rfl rfl fun h' hL => ?_
  obtain ⟨k1, ⟨_, _, k2⟩, k3, k4⟩ := hL
  exact hQ h' ⟨k1, en, k2, k3⟩ ((Heap.UpToSlots.of_keeps F.keep).trans k4)
end init
noncomputable def pairD (i : Int) : Dat := .tuple [.int i, .int 0]
section actlem
variable {prog : Program} {w : World} {A : Around} {E : Value → Shared → Prop} {s : Shared} {h₀ : Heap} {L l : Addr} {m : Str → Option Value} {news l' : List (Addr × Obj)} {Q : Value → Shared → Prop}
theorem truthyL {vs : List Value} {c : Nat} {b : Bool} {Q : Bool → Shared → Prop} (N : News h₀ L s.heap news) (hm : (l, listOf vs.toArray c) ∈ news) (hl : vs.length ≤ 1000) (e : vs.isEmpty = !b) (h : ∀ tk, Q b { s with toks := tk }) : wpAny (model prog w) A (truthy (.ref l)) Q E s := by
  refine wpAny_truthy_list (listAt N hm) (by rw [List.size_toArray]; omega) ?_
  cases b with
  | true =>
    cases vs with
    | nil => cases e
    | cons x vs => simpa using h _
  | false =>
    cases vs with
    | nil => simpa using h _
    | cons x vs => cases e
theorem lenL {vs : List Value} {c : Nat} (N : News h₀ L s.heap news) (hm : (l, listOf vs.toArray c) ∈ news) (hl : vs.length ≤ 1000) (h : ∀ t tk, Q (.int vs.length t) { s with toks := tk }) : wpAny (model prog w) A (call (.builtin "len") [.ref l]) Q E s := by
  refine PyProof.Rows.len_list (listAt N hm) (by rw [List.size_toArray]; omega) ?_
  simpa using h _ _
theorem gtNo {n : Nat} {k : Int} {t u : Tok} (hn : (n : Int) ≤ k) (h : Q (.bool false) s) : wpAny (model prog w) A (compareOp .Gt (.int n t) (.int k u)) Q E s := by
  refine PyProof.Rows.gt_int ?_
  rw [decide_eq_false (by omega)]
  exact h
theorem kl_last_snoc : ∀ (vs : List Value) (x : Value), kl_last (vs ++ [x]) = some (vs, x)
  | [], _ => rfl
  | [a], x => rfl
  | a :: b :: vs, x => by
    have := kl_last_snoc (b :: vs) x
    rw [List.cons_append, kl_last, this]
theorem popL {vs : List Value} {x : Value} {c : Nat} (F : Fr h₀ L s.heap m) (N : News h₀ L s.heap news) (hm : (l, listOf (vs ++ [x]).toArray c) ∈ news) (hne : ∀ p ∈ l', p.1 ≠ l) (hs : ∀ p ∈ l', p ∈ news) (hl : vs.length ≤ 1000)
    (h : ∀ h', Fr h₀ L h' m → News h₀ L h' ((l, listOf vs.toArray (c + 1)) :: l') → Q x { s with heap := h' }) : wpAny (model prog w) A (call (.builtin "list.pop") [.ref l]) Q E s := by
  refine kl_pop (news := (l, listOf (vs ++ [x]).toArray c) :: l') F (news_sub N fun p hp => ?_) (by rw [List.toList_toArray]; exact kl_last_snoc vs x) (.head hne) (by rw [List.toList_toArray, sizeLine_eq, List.length_append]; simp only [List.length_cons, List.length_nil]; omega) h
  rcases List.mem_cons.mp hp with rfl | hp
  · exact hm
  · exact hs _ hp
theorem addT {t b : Addr} {avs ws : List Value} {n n' : Nat} {P : Addr → Prop} (F : Fr h₀ L s.heap m) (N : News h₀ L s.heap news) (ht : (t, tupOf avs.toArray n) ∈ news) (hb : (b, tupOf ws.toArray n') ∈ news) (hw : ws ≠ []) (hl : avs.length ≤ 1000) (hl2 : ws.length ≤ 1000) (hP : P b) (hnew : ∀ D, (∀ p ∈ news, p.1 < D) → P D)
    (h : ∀ D n h', P D → Fr h₀ L h' m → News h₀ L h' ((D, tupOf (avs ++ ws).toArray n) :: news) → Q (.ref D) { s with heap := h' }) : wpAny (model prog w) A (binaryOp .Add (.ref t) (.ref b)) Q E s := by
  have it : IsTup s.heap t avs.toArray := ⟨_, (N _ ht).1, rfl, _, rfl⟩
  have ib : IsTup s.heap b ws.toArray := ⟨_, (N _ hb).1, rfl, _, rfl⟩
  by_cases e : avs = []
  · subst e
    exact kde_addT0 F N it ib rfl (by rw [List.toList_toArray, List.toList_toArray]; simp only [List.length_nil]; omega) (h b n' s.heap hP F fun p hp => by
      rcases List.mem_cons.mp hp with rfl | hp
      · exact N _ hb
      · exact N _ hp)
  · exact kde_addT F N it ib (by rw [List.toList_toArray]; exact e) (by rw [List.toList_toArray]; exact hw) (by rw [List.toList_toArray, List.toList_toArray]; omega) rfl fun D h' F' N' l1 => h D 0 h' (hnew D l1) F' (by simpa using N')
open Classical in
theorem inPairs {pt ab : Addr} {avs : List Value} {above : List Int} {i : Int} {t1 t2 : Tok} {n n' : Nat} {b : Bool} {R : List (Addr × Obj)} (N : News h₀ L s.heap news) (hp : (pt, tupOf #[.int i t1, .int 0 t2] n') ∈ news) (ha : (ab, tupOf avs.toArray n) ∈ news) (Da : DatAll R avs (above.map pairD)) (hR : ∀ p ∈ R, p ∈ news)
    (e : (above.any (· == i)) = b) (hu : A.units + 64 < cLine) (h : Q (.bool b) s) : wpAny (model prog w) A (compareOp .In (.ref pt) (.ref ab)) Q E s := by
  have hk : ∀ d ∈ above.map pairD, kqdOk 8 d = true := fun d hd => by
    obtain ⟨j, _, rfl⟩ := List.mem_map.mp hd
    rfl
  have Dx : DatIn [(pt, tupOf #[.int i t1, .int 0 t2] n')] (.ref pt) (pairD i) := .tuple (.head _) (.cons (.int _ _) (.cons (.int _ _) .nil))
  obtain ⟨as, ra⟩ := kqd_all N 8 (Da.mono hR) hk
  obtain ⟨bs, rx⟩ := kqd_in N 8 (Dx.mono fun p hp' => by rw [List.mem_singleton.mp hp']; exact hp) (show kqdOk 8 (pairD i) = true from rfl)
  have l := kqd_layL hk
  have e2 : ((kqdPs (above.map pairD)).any fun y => PyData.eqv y (kqdP (pairD i))) = b := by
    rw [← e]
    have q := kqd_any (above.map pairD) (pairD i) hk rfl
    have q2 : pairD i ∈ above.map pairD ↔ (above.any (· == i)) = true := by
      rw [List.mem_map, List.any_eq_true]
      constructor
      · rintro ⟨j, hj, e⟩
        unfold pairD at e
        injection e with e
        injection e with e
        injection e with e
        exact ⟨j, hj, by simp [e]⟩
      · rintro ⟨j, hj, e⟩
        exact ⟨j, hj, by rw [beq_iff_eq.mp e]⟩
    exact Bool.eq_iff_iff.mpr (q.trans q2)
  refine SeqAt.in_tuple_reads (reads_tuple_at (N.get ha) rfl rfl (by simpa using ra)) rx l.1 rfl ?_ (by rw [e2]; exact h)
  have := Nat.min_le_left (PyData.depthAll (kqdPs (above.map pairD))) (kqdP (pairD i)).depth
  omega
end actlem
inductive StackAt (w : World) (R : List (Addr × Obj)) (kvs : List (Int × Value)) (P : Kid → List Int → Prop) (news : List (Addr × Obj)) : List Value → List (Kid × List Int) → Prop
  | nil : StackAt w R kvs P news [] []
  | snoc {v : Value} {k : Kid} {above : List Int} {tup ab : Addr} {avs vs : List Value} {n n' : Nat} {st : List (Kid × List Int)} : KidAt w R kvs v k → P k above → (tup, tupOf #[v, .ref ab] n) ∈ news → (ab, tupOf avs.toArray n') ∈ news → DatAll news avs (above.map pairD) → StackAt w R kvs P news vs st →
      StackAt w R kvs P news (vs ++ [.ref tup]) ((k, above) :: st)
theorem StackAt.mono {w : World} {R : List (Addr × Obj)} {kvs : List (Int × Value)} {P : Kid → List Int → Prop} {news news' : List (Addr × Obj)} (hs : ∀ p ∈ news, p ∈ news') {vs : List Value} {st : List (Kid × List Int)} (h : StackAt w R kvs P news vs st) : StackAt w R kvs P news' vs st := by
  induction h with
  | nil => exact .nil
  | snoc h1 h2 h3 h4 h5 _ ih => exact .snoc h1 h2 (hs _ h3) (hs _ h4) (h5.mono hs) ih
theorem kst_self {m : Str → Option Value} : ∀ {ps : List (Str × Value)}, (∀ p ∈ ps, m p.1 = some p.2) → ∀ y, m y = kstB m ps y
  | [], _, _ => rfl
  | p :: ps, h, y => by
    show m y = if y = p.1 then some p.2 else kstB m ps y
    by_cases e : y = p.1
    · rw [if_pos e, e]; exact h p (.head _)
    · rw [if_neg e]; exact kst_self (fun q hq => h q (.tail _ hq)) y
section actlem2
variable {prog : Program} {w : World} {A : Around} {E : Value → Shared → Prop} {s : Shared} {h₀ : Heap} {L l : Addr} {news : List (Addr × Obj)}
theorem truthyL0 {c : Nat} {Q : Bool → Shared → Prop} (N : News h₀ L s.heap news) (hm : (l, listOf (List.toArray []) c) ∈ news) (h : ∀ tk, Q false { s with toks := tk }) : wpAny (model prog w) A (truthy (.ref l)) Q E s := truthyL N hm (Nat.zero_le _) rfl h
theorem truthyL1 {vs : List Value} {x : Value} {c : Nat} {Q : Bool → Shared → Prop} (N : News h₀ L s.heap news) (hm : (l, listOf (vs ++ [x]).toArray c) ∈ news) (hl : vs.length + 1 ≤ 1000) (h : ∀ tk, Q true { s with toks := tk }) : wpAny (model prog w) A (truthy (.ref l)) Q E s :=
  truthyL N hm (by simpa using hl) (by simp) h
end actlem2
noncomputable def KidM (Nn : List Int) : Kid → Prop
  | .ref i none => i ∉ Nn
  | _ => True
noncomputable def KidF (G : Addr → List Kid) (D : Addr → Prop) (Nn : List Int) (k : Kid) : Prop := KidD G D k ∧ KidOk G Nn k ∧ KidM Nn k
noncomputable def KidP (G : Addr → List Kid) (D : Addr → Prop) (Nn : List Int) (k : Kid) (above : List Int) : Prop := KidF G D Nn k ∧ above.Nodup ∧ ∀ x ∈ above, x ∈ Nn
noncomputable def ValD (w : World) (R : List (Addr × Obj)) (D : Addr → Prop) : Prop := ∀ b, D b → ∃ es, ValIn w R (.ref b) (.dict b es)
theorem kid_val {w : World} {R : List (Addr × Obj)} {kvs : List (Int × Value)} {G : Addr → List Kid} {D : Addr → Prop} (hV : ValD w R D) {v : Value} {k : Kid} (h : KidAt w R kvs v k) (hD : KidD G D k) : ∃ d, ValIn w R v d := by
  cases h with
  | odd i t => exact ⟨_, .int i t⟩
  | own b => obtain ⟨es, h⟩ := hV b hD.1; exact ⟨_, h⟩
  | miss h1 h2 _ => exact ⟨_, .ref _ _ h1 h2⟩
  | hit h1 h2 _ _ => exact ⟨_, .ref _ _ h1 h2⟩
theorem kids_val {w : World} {R : List (Addr × Obj)} {kvs : List (Int × Value)} {G : Addr → List Kid} {D : Addr → Prop} (hV : ValD w R D) {vs : List Value} {ks : List Kid} (h : KidsAt w R kvs vs ks) : (∀ k ∈ ks, KidD G D k) → ∃ ds, ValAll w R vs ds :=
  KidsAt.rec (motive := fun vs ks _ => (∀ k ∈ ks, KidD G D k) → ∃ ds, ValAll w R vs ds) (fun _ => ⟨_, .nil⟩) (fun h _ ih hD => by
    obtain ⟨d, hd⟩ := kid_val hV h (hD _ (.head _))
    obtain ⟨ds, hds⟩ := ih fun k hk => hD k (.tail _ hk)
    exact ⟨_, .cons hd hds⟩) h
theorem dict_fetch {w : World} {R : List (Addr × Obj)} {kvs : List (Int × Value)} {D : Addr → Prop} (hV : ValD w R D) {b : Addr} (hD : D b) : Fetches w R kvs (.ref b) (.ref b) := by
  obtain ⟨es, h⟩ := hV b hD
  exact .plain h (fun _ _ h => nomatch h)
theorem follows_of {w : World} {R : List (Addr × Obj)} {kvs : List (Int × Value)} {G : Addr → List Kid} {D : Addr → Prop} (hG : GraphAt w R kvs G D) (hV : ValD w R D) {es : List (Str × Value)} {ks : List Kid} (h : NextAt w R kvs es ks) (hD : ∀ k ∈ ks, KidD G D k) :
    ∃ vs ks', Follows w R kvs (valueAt es "Next") vs ∧ KidsAt w R kvs vs ks' ∧ vs.length ≤ 2 ∧ (ks' = ks ∨ ∃ i, ks = [.ref i none] ∧ ks' = []) := by
  cases h with
  | none h => rw [h]; exact ⟨_, _, .none, .nil, Nat.zero_le _, .inl rfl⟩
  | ref h h2 =>
    rw [h]
    cases h2 with
    | miss a b c => exact ⟨_, _, .miss (.miss a b c), .nil, Nat.zero_le _, .inr ⟨_, rfl, rfl⟩⟩
    | hit a b c e =>
      obtain ⟨⟨o, es2, hb, ho, hbs, hn⟩, _⟩ := hG _ (show D _ from hD _ (.head _))
      exact ⟨_, _, .one (.hit a b c e hb ho) hb ho rfl, .cons (.hit a b c e) .nil, Nat.le_succ _, .inl rfl⟩
  | own h =>
    rw [h]
    have hd := (hD _ (.head _)).1
    obtain ⟨⟨o, es2, hb, ho, hbs, hn⟩, _⟩ := hG _ hd
    exact ⟨_, _, .one (dict_fetch hV hd) hb ho rfl, .cons (.own _) .nil, Nat.le_succ _, .inl rfl⟩
  | row h a b c d =>
    rw [h]
    obtain ⟨ds, hds⟩ := kids_val hV b hD
    exact ⟨_, _, .row a (.plain (.arr a hds) (fun _ _ h => nomatch h)) (Nat.le_trans c (by decide)), b, c, .inl rfl⟩
theorem mach_skip {G : Addr → List Kid} {D : Addr → Prop} {Nn : List Int} {n : Nat} {ks ks' : List Kid} {above : List Int} {st : List (Kid × List Int)} {o : List Addr} {p : Bool × List Addr} (h : mach G n (ks.map (fun k => (k, above)) ++ st) o = some p) (hF : ∀ k ∈ ks, KidF G D Nn k) (ha : ∀ x ∈ above, x ∈ Nn)
    (e : ks' = ks ∨ ∃ i, ks = [.ref i none] ∧ ks' = []) : ∃ n', n' ≤ n ∧ mach G n' (ks'.map (fun k => (k, above)) ++ st) o = some p ∧ ∀ k ∈ ks', KidF G D Nn k := by
  rcases e with rfl | ⟨i, rfl, rfl⟩
  · exact ⟨n, Nat.le_refl _, h, hF⟩
  · cases n with
    | zero => cases h
    | succ n =>
      have hi : i ∉ above := fun hm => (hF _ (.head _)).2.2 (ha i hm)
      refine ⟨n, Nat.le_succ _, ?_, fun _ h => nomatch h⟩
      simp only [List.map_cons, List.map_nil, List.cons_append, List.nil_append, mach, if_neg hi] at h ⊢
      exact h
inductive actJ (w : World) (R : List (Addr × Obj)) (kvs : List (Int × Value)) (G : Addr → List Kid) (D : Addr → Prop) (Nn : List Int) (r : Bool) (out : List Addr) (sh : Addr) (news : List (Addr × Obj)) (fa ln : Addr) (n : Nat) (m : Str → Option Value) (news₁ : List (Addr × Obj)) : Prop
  | mk (st : List (Kid × List Int)) (out0 : List Addr) (vs : List Value) (c ck : Nat) (rest : List (Addr × Obj)) (_ : news₁ = (fa, listOf (out0.map Value.ref).toArray c) :: (ln, listOf vs.toArray ck) :: rest) (_ : ∀ p ∈ rest, p.1 ≠ fa) (_ : ∀ p ∈ rest, p.1 ≠ ln) (_ : ∀ p ∈ news, p ∈ rest)
    (_ : StackAt w R kvs (KidP G D Nn) rest vs st) (_ : mach G n st out0 = some (r, out)) (_ : vs.length ≤ 2 * out0.length + 1) (_ : ∀ p ∈ [(("shelf" : Str), Value.ref sh), ("found", .ref fa), ("line", .ref ln)], m p.1 = some p.2)
inductive StackI (w : World) (R : List (Addr × Obj)) (kvs : List (Int × Value)) (P : Kid → List Int → Prop) (news : List (Addr × Obj)) (vs : List Value) (st : List (Kid × List Int)) : Prop
  | nil (_ : vs = []) (_ : st = [])
  | snoc (v : Value) (k : Kid) (above : List Int) (tup ab : Addr) (avs vs' : List Value) (nt na : Nat) (st' : List (Kid × List Int)) (_ : vs = vs' ++ [Value.ref tup]) (_ : st = (k, above) :: st') (_ : KidAt w R kvs v k) (_ : P k above) (_ : (tup, tupOf #[v, .ref ab] nt) ∈ news) (_ : (ab, tupOf avs.toArray na) ∈ news) (_ : DatAll news avs (above.map pairD)) (_ : StackAt w R kvs P news vs' st')
theorem StackAt.inv {w : World} {R : List (Addr × Obj)} {kvs : List (Int × Value)} {P : Kid → List Int → Prop} {news : List (Addr × Obj)} {vs : List Value} {st : List (Kid × List Int)} (h : StackAt w R kvs P news vs st) : StackI w R kvs P news vs st := by
  cases h with
  | nil => exact .nil rfl rfl
  | snoc a b c d e f => exact .snoc _ _ _ _ _ _ _ _ _ _ rfl rfl a b c d e f
noncomputable def Apart (a b : Addr) : Prop := a ≠ b
theorem act_pack {w : World} {R : List (Addr × Obj)} {kvs : List (Int × Value)} {G : Addr → List Kid} {D : Addr → Prop} {Nn : List Int} {r : Bool} {out : List Addr} {g h : Heap} {L sh fa ln D1 D0 : Addr} {v : Value} {k : Kid} {n : Nat} {m' : Str → Option Value} {news : List (Addr × Obj)}
    (lF : Fr g L h m') (e1 : m' "shelf" = some (.ref sh)) (e2 : m' "found" = some (.ref fa)) (e3 : m' "line" = some (.ref ln))
    (lN : News g L h ((ln, listOf #[.ref D1] 0) :: (D1, tupOf #[v, .ref D0] 0) :: (D0, tupOf #[] 0) :: (fa, listOf #[] 0) :: news))
    (lA : ∀ p ∈ news, p.1 < fa) (lB : fa < D0 ∧ AllLt D0 news) (lC : D0 < D1 ∧ fa < D1 ∧ AllLt D1 news) (lD : D1 < ln ∧ D0 < ln ∧ fa < ln ∧ AllLt ln news) (hV : KidAt w R kvs v k) (hF : KidF G D Nn k) (hw : mach G n [(k, [])] [] = some (r, out)) :
    ∃ fa ln m' news', Apart fa ln ∧ (∀ p ∈ news, p.1 < fa) ∧ Fr g L h m' ∧ News g L h news' ∧ actJ w R kvs G D Nn r out sh news fa ln n m' news' := by
  refine ⟨fa, ln, m', _, Nat.ne_of_lt lD.2.2.1, lA, lF, news_sub lN (sub_cons (.tail _ (.tail _ (.tail _ (.head _)))) (sub_cons (.head _) (sub_cons (.tail _ (.head _)) (sub_cons (.tail _ (.tail _ (.head _))) (fun p hp => .tail _ (.tail _ (.tail _ (.tail _ hp)))))))),
    [(k, [])], [], [_], _, _, _, rfl, List.forall_mem_cons.mpr ⟨Nat.ne_of_gt lC.2.1, List.forall_mem_cons.mpr ⟨Nat.ne_of_gt lB.1, fun p hp => Nat.ne_of_lt (lA p hp)⟩⟩, List.forall_mem_cons.mpr ⟨Nat.ne_of_lt lD.1, List.forall_mem_cons.mpr ⟨Nat.ne_of_lt lD.2.1, fun p hp => Nat.ne_of_lt (ktn_ltOf lD.2.2.2 p hp)⟩⟩, (fun p hp => .tail _ (.tail _ hp)),
    .snoc (vs := []) hV ⟨hF, List.nodup_nil, fun _ h => nomatch h⟩ (.head _) (avs := []) (.tail _ (.head _)) .nil .nil, hw, by simp, List.forall_mem_cons.mpr ⟨e1, List.forall_mem_cons.mpr ⟨e2, List.forall_mem_cons.mpr ⟨e3, List.forall_mem_nil _⟩⟩⟩⟩
structure Sub (R l : List (Addr × Obj)) : Prop where
  sub : ∀ p ∈ R, p ∈ l
theorem sub_mark {R l l' : List (Addr × Obj)} (h : Sub R l) (h' : ∀ p ∈ l, p ∈ l') : ∀ p ∈ R, p ∈ l' := fun p hp => h' p (h.sub p hp)
section looprev
variable {prog : Program} {w : World} {A : Around} {E : Value → Shared → Prop} {s : Shared} {env : Env} {h₀ : Heap} {x : Str} {body : List Stmt} {Q : Flow → Shared → Prop} {σ : Type}
theorem loopRev {I l : Addr} {vs : List Value} {k : Nat} {m₀ : Str → Option Value} (ps : σ → List (Str × Value)) (stored : List Str) (led : σ → List (Addr × Obj)) (P : Nat → σ → Prop) (c₀ : σ)
    (hh : A.handled = none) {news : List (Addr × Obj)} (hI : (I, revObj l ((vs.length : Int) - 1)) ∈ news) (hl : (l, listOf vs.toArray k) ∈ news) (hIl : l ≠ I) (hn : ∀ p ∈ led c₀, p ∈ news) (hne : ∀ p ∈ led c₀, p.1 ≠ l ∧ p.1 ≠ I)
    (F : Fr h₀ env.locals s.heap m₀) (hk : ∀ p ∈ ps c₀, m₀ p.1 = some p.2) (N : News h₀ env.locals s.heap news) (hp : P 0 c₀)
    (turn : ∀ i v c (u : Str → Option Value) h tk own, i < vs.length → vs[vs.length - 1 - i]? = some v → P i c → (∀ p ∈ led c, ∀ q ∈ own, p.1 ≠ q.1) → Fr h₀ env.locals h (fun y => if y = x then some v else kstB (fun z => if stored.contains z then u z else m₀ z) (ps c) y) → News h₀ env.locals h (led c ++ own) →
      wpAny (model prog w) A (execs body env) (TurnP h₀ env.locals x ps stored m₀ led own (P (i + 1)) { s with heap := h, toks := tk } Q) E { s with heap := h, toks := tk })
    (done : ∀ c (u : Str → Option Value) h tk, P vs.length c → Fr h₀ env.locals h (fun y => if y = x then u y else kstB (fun z => if stored.contains z then u z else m₀ z) (ps c) y) → News h₀ env.locals h (led c) → Q .next { s with heap := h, toks := tk }) :
    wpAny (model prog w) A (pyIter (.ref I)) (fun it s₂ => LoopAtV prog w A h₀ env x body Q E it s₂) E s := by
  have hls : s.heap.IsList l vs.toArray := ⟨_, (N _ hl).1, rfl, k, rfl⟩
  have hit : s.heap.IsRevIter I l ((vs.length : Int) - 1) := ⟨_, (N _ hI).1, rfl, rfl⟩
  refine wpAny_pyIter_revIter hit ?_
  have W := Walks.listRev (prog := prog) (w := w) hh I l hIl vs.toArray
  rw [List.size_toArray] at W
  refine loopP ps stored led P c₀ W ?_ ?_ ?_ ?_ ⟨Nat.zero_le _, by simpa using hit, hls⟩ F hk (fun p hp => N p (hn p hp)) hp ?_ done
  · intro hq
    rcases List.mem_cons.mp hq with e | hq
    · exact (N _ hI).2.1 e.symm
    · exact (N _ hl).2.1 (List.mem_singleton.mp hq).symm
  · intro b hb
    rw [List.mem_singleton.mp hb]
    exact (N _ hI).2.2
  · rintro i h ⟨_, ⟨o, e, _⟩, ⟨o', e', _⟩⟩ b hb
    rcases List.mem_cons.mp hb with rfl | hb
    · exact ⟨o, e⟩
    · rw [List.mem_singleton.mp hb]; exact ⟨o', e'⟩
  · intro p hp b hb
    rcases List.mem_cons.mp hb with rfl | hb
    · exact (hne p hp).2
    · rw [List.mem_singleton.mp hb]; exact (hne p hp).1
  · intro i v c u h tk own hi hv hc sep F' N'
    exact turn i v c u h tk own hi (by simpa using hv) hc sep F' N'
end looprev
noncomputable def pushP (w : World) (R : List (Addr × Obj)) (kvs : List (Int × Value)) (G : Addr → List Kid) (D : Addr → Prop) (Nn : List Int) (fa ln : Addr) (rest1 : List (Addr × Obj)) (len : Nat) (st : List (Kid × List Int)) (ks : List Kid) (above : List Int) (i : Nat) (c : List (Addr × Obj) × List Value × Nat) : Prop :=
  (∀ p ∈ rest1, p ∈ c.1) ∧ (∀ p ∈ c.1, p.1 ≠ fa) ∧ (∀ p ∈ c.1, p.1 ≠ ln) ∧ c.2.1.length = len + i ∧ StackAt w R kvs (KidP G D Nn) c.1 c.2.1 ((ks.drop (ks.length - i)).map (fun k => (k, above)) ++ st)
theorem pushP_zero {w : World} {R : List (Addr × Obj)} {kvs : List (Int × Value)} {G : Addr → List Kid} {D : Addr → Prop} {Nn : List Int} {fa ln : Addr} {rest1 : List (Addr × Obj)} {st : List (Kid × List Int)} {ks : List Kid} {above : List Int} {vs : List Value} {ck : Nat}
    (hf : ∀ p ∈ rest1, p.1 ≠ fa) (hl : ∀ p ∈ rest1, p.1 ≠ ln) (hst : StackAt w R kvs (KidP G D Nn) rest1 vs st) : pushP w R kvs G D Nn fa ln rest1 vs.length st ks above 0 (rest1, vs, ck) :=
  ⟨fun _ h => h, hf, hl, rfl, by simpa using hst⟩
theorem pushP_step {w : World} {R : List (Addr × Obj)} {kvs : List (Int × Value)} {G : Addr → List Kid} {D : Addr → Prop} {Nn : List Int} {fa ln : Addr} {rest1 rest2 : List (Addr × Obj)} {len : Nat} {st : List (Kid × List Int)} {ks : List Kid} {above : List Int} {vs2 vsX avs : List Value} {ckX ck' i n na : Nat} {v : Value} {t ab : Addr}
    (hP : pushP w R kvs G D Nn fa ln rest1 len st ks above i (rest2, vsX, ckX)) (hks : KidsAt w R kvs vs2 ks) (hF : ∀ k ∈ ks, KidF G D Nn k) (hnd : above.Nodup) (hN : ∀ x ∈ above, x ∈ Nn) (hi : i < vs2.length) (hv : vs2[vs2.length - 1 - i]? = some v) (htf : t ≠ fa) (htl : t ≠ ln)
    (ha : (ab, tupOf avs.toArray na) ∈ rest1) (hda : DatAll rest1 avs (above.map pairD)) : pushP w R kvs G D Nn fa ln rest1 len st ks above (i + 1) ((t, tupOf #[v, .ref ab] n) :: rest2, vsX ++ [.ref t], ck') := by
  obtain ⟨h1, h2, h3, h4, h5⟩ := hP
  dsimp only at h1 h2 h3 h4 h5
  have hlen := hks.length
  obtain ⟨k, hk, hV⟩ := hks.at hv
  rw [hlen] at hk hi
  have hdrop : ks.drop (ks.length - (i + 1)) = k :: ks.drop (ks.length - i) := by
    have e1 : ks.length - (i + 1) = ks.length - 1 - i := by rw [Nat.sub_sub, Nat.add_comm]
    have hlt : ks.length - 1 - i < ks.length := Nat.lt_of_le_of_lt (Nat.sub_le _ _) (Nat.sub_lt (Nat.lt_of_le_of_lt (Nat.zero_le _) hi) Nat.one_pos)
    have e2 : ks.length - 1 - i + 1 = ks.length - i := by rw [Nat.sub_right_comm]; exact Nat.sub_add_cancel (Nat.sub_pos_of_lt hi)
    rw [e1, List.drop_eq_getElem_cons hlt, e2]
    congr 1
    rw [List.getElem?_eq_getElem hlt] at hk
    exact Option.some.inj hk
  refine ⟨fun p hp => .tail _ (h1 p hp), List.forall_mem_cons.mpr ⟨htf, h2⟩, List.forall_mem_cons.mpr ⟨htl, h3⟩, by simp only [List.length_append, List.length_cons, List.length_nil]; omega, ?_⟩
  rw [hdrop]
  exact .snoc hV ⟨hF k (List.mem_of_getElem? hk), hnd, hN⟩ (.head _) (.tail _ (h1 _ ha)) (hda.mono fun p hp => .tail _ (h1 p hp)) (h5.mono fun _ h => .tail _ h)
theorem pushP_end {w : World} {R : List (Addr × Obj)} {kvs : List (Int × Value)} {G : Addr → List Kid} {D : Addr → Prop} {Nn : List Int} {fa ln : Addr} {rest1 : List (Addr × Obj)} {len : Nat} {st : List (Kid × List Int)} {ks : List Kid} {above : List Int} {vs2 : List Value} {rest2 : List (Addr × Obj)} {vsX : List Value} {ckX : Nat}
    (hP : pushP w R kvs G D Nn fa ln rest1 len st ks above vs2.length (rest2, vsX, ckX)) (hks : KidsAt w R kvs vs2 ks) :
    (∀ p ∈ rest1, p ∈ rest2) ∧ (∀ p ∈ rest2, p.1 ≠ fa) ∧ (∀ p ∈ rest2, p.1 ≠ ln) ∧ vsX.length = len + vs2.length ∧ StackAt w R kvs (KidP G D Nn) rest2 vsX (ks.map (fun k => (k, above)) ++ st) := by
  obtain ⟨h1, h2, h3, h4, h5⟩ := hP
  rw [hks.length, Nat.sub_self, List.drop_zero] at h5
  exact ⟨h1, h2, h3, h4, h5⟩
theorem datAll_app {l : List (Addr × Obj)} {b : List Value} {y : List Dat} (h2 : DatAll l b y) : ∀ {a : List Value} {x : List Dat}, DatAll l a x → DatAll l (a ++ b) (x ++ y)
  | _, _, .nil => h2
  | _, _, .cons h r => .cons h (datAll_app h2 r)
theorem act_above {g h : Heap} {L D3 b1 pt p0 ln fa : Addr} {ob1 o0 oln ofa : Obj} {n3 np : Nat} {i : Int} {t1 t2 : Tok} {avs : List Value} {above : List Int} {rest : List (Addr × Obj)}
    (N : News g L h ((D3, tupOf (avs ++ [Value.ref pt]).toArray n3) :: (b1, ob1) :: (pt, tupOf #[.int i t1, .int 0 t2] np) :: (p0, o0) :: (ln, oln) :: (fa, ofa) :: rest)) (hD3 : D3 ≠ fa ∧ D3 ≠ ln) (hp : pt ≠ fa ∧ pt ≠ ln) (hf : ∀ p ∈ rest, p.1 ≠ fa) (hl : ∀ p ∈ rest, p.1 ≠ ln) (hda : DatAll rest avs (above.map pairD)) :
    ∃ rest1 avs3, (∀ p ∈ rest, p ∈ rest1) ∧ (∀ p ∈ rest1, p.1 ≠ fa) ∧ (∀ p ∈ rest1, p.1 ≠ ln) ∧ (D3, tupOf avs3.toArray n3) ∈ rest1 ∧ DatAll rest1 avs3 ((above ++ [i]).map pairD) ∧ News g L h ((ln, oln) :: (fa, ofa) :: rest1) := by
  refine ⟨(D3, tupOf (avs ++ [Value.ref pt]).toArray n3) :: (pt, tupOf #[.int i t1, .int 0 t2] np) :: rest, avs ++ [Value.ref pt], fun p hp => .tail _ (.tail _ hp), List.forall_mem_cons.mpr ⟨hD3.1, List.forall_mem_cons.mpr ⟨hp.1, hf⟩⟩, List.forall_mem_cons.mpr ⟨hD3.2, List.forall_mem_cons.mpr ⟨hp.2, hl⟩⟩, .head _, ?_, news_sub N ?_⟩
  · rw [List.map_append]
    have h1 := hda.mono (news' := (D3, tupOf (avs ++ [Value.ref pt]).toArray n3) :: (pt, tupOf #[.int i t1, .int 0 t2] np) :: rest) fun p hp => .tail _ (.tail _ hp)
    have h2 : DatAll ((D3, tupOf (avs ++ [Value.ref pt]).toArray n3) :: (pt, tupOf #[.int i t1, .int 0 t2] np) :: rest) [Value.ref pt] [pairD i] := .cons (.tuple (.tail _ (.head _)) (.cons (.int _ _) (.cons (.int _ _) .nil))) .nil
    exact datAll_app h2 h1
  · exact sub_cons (.tail _ (.tail _ (.tail _ (.tail _ (.head _))))) (sub_cons (.tail _ (.tail _ (.tail _ (.tail _ (.tail _ (.head _)))))) (sub_cons (.head _) (sub_cons (.tail _ (.tail _ (.head _))) fun p hp => .tail _ (.tail _ (.tail _ (.tail _ (.tail _ (.tail _ hp))))))))
section actturn
variable {w : World} {R : List (Addr × Obj)} {kvs : List (Int × Value)} {G : Addr → List Kid} {D : Addr → Prop} {Nn : List Int} {fa ln : Addr} {rest1 rest2 own : List (Addr × Obj)} {len : Nat} {st : List (Kid × List Int)} {ks : List Kid} {above : List Int} {vs2 vsX avs : List Value} {ckX ck' i n na : Nat} {v : Value} {t ab : Addr} {ot ofa oln : Obj}
theorem act_turn_ne (lT : AllLt t (((fa, ofa) :: (ln, oln) :: rest2) ++ own)) (hfl : fa ≠ ln) (h3 : ∀ p ∈ rest2, p.1 ≠ ln) (hsep : ∀ p ∈ (fa, ofa) :: (ln, oln) :: rest2, ∀ q ∈ own, p.1 ≠ q.1) : ∀ p ∈ (t, ot) :: (fa, ofa) :: (rest2 ++ own), p.1 ≠ ln := by
  refine List.forall_mem_cons.mpr ⟨Nat.ne_of_gt (ktn_ltOf lT (ln, oln) (List.mem_append.mpr (.inl (.tail _ (.head _))))), List.forall_mem_cons.mpr ⟨hfl, fun p hp => ?_⟩⟩
  rcases List.mem_append.mp hp with hp | hp
  · exact h3 p hp
  · exact (hsep (ln, oln) (.tail _ (.head _)) p hp).symm
theorem act_turn_close {h₀ h : Heap} {L : Addr} (N : News h₀ L h ((ln, listOf (vsX ++ [Value.ref t]).toArray ck') :: (t, tupOf #[v, .ref ab] n) :: (fa, ofa) :: (rest2 ++ own))) (lT : AllLt t (((fa, ofa) :: (ln, oln) :: rest2) ++ own)) (hsep : ∀ p ∈ (fa, ofa) :: (ln, oln) :: rest2, ∀ q ∈ own, p.1 ≠ q.1)
    (hP : pushP w R kvs G D Nn fa ln rest1 len st ks above i (rest2, vsX, ckX)) (hks : KidsAt w R kvs vs2 ks) (hF : ∀ k ∈ ks, KidF G D Nn k) (hnd : above.Nodup) (hN : ∀ x ∈ above, x ∈ Nn) (hi : i < vs2.length) (hv : vs2[vs2.length - 1 - i]? = some v)
    (ha : (ab, tupOf avs.toArray na) ∈ rest1) (hda : DatAll rest1 avs (above.map pairD)) :
    ∃ c' : List (Addr × Obj) × List Value × Nat, News h₀ L h (((fa, ofa) :: (ln, listOf c'.2.1.toArray c'.2.2) :: c'.1) ++ own) ∧ (∀ p ∈ (fa, ofa) :: (ln, listOf c'.2.1.toArray c'.2.2) :: c'.1, ∀ q ∈ own, p.1 ≠ q.1) ∧ pushP w R kvs G D Nn fa ln rest1 len st ks above (i + 1) c' := by
  have lt : ∀ p ∈ ((fa, ofa) :: (ln, oln) :: rest2) ++ own, p.1 < t := ktn_ltOf lT
  refine ⟨((t, tupOf #[v, .ref ab] n) :: rest2, vsX ++ [Value.ref t], ck'), news_sub N ?_, ?_, pushP_step hP hks hF hnd hN hi hv (Nat.ne_of_gt (lt (fa, ofa) (.head _))) (Nat.ne_of_gt (lt (ln, oln) (.tail _ (.head _)))) ha hda⟩
  · exact sub_cons (.tail _ (.tail _ (.head _))) (sub_cons (.head _) (sub_cons (.tail _ (.head _)) fun p hp => .tail _ (.tail _ (.tail _ hp))))
  · intro p hp q hq
    rcases List.mem_cons.mp hp with rfl | hp
    · exact hsep (fa, ofa) (.head _) q hq
    · rcases List.mem_cons.mp hp with rfl | hp
      · exact hsep (ln, oln) (.tail _ (.head _)) q hq
      · rcases List.mem_cons.mp hp with rfl | hp
        · exact Nat.ne_of_gt (lt q (List.mem_append.mpr (.inr hq)))
        · exact hsep p (.tail _ (.tail _ hp)) q hq
end actturn
section actions
local macro_rules | `(tactic| kwd_less) => `(tactic| exact sub_mark (by assumption) (by kwd_less))
local macro_rules | `(tactic| walk_at "pyIter ref") => `(tactic| (k_here; refine hold ?_))
local macro_rules | `(tactic| walk_at "exec While Name cons nil") => `(tactic| (k_here; refine hold ?_))
local macro_rules | `(tactic| walk_at "truthy ref") => `(tactic| (k_here; k_dflt (first | (apply truthyL0; k_asm; k_mem)| (apply truthyL1; k_asm; k_mem; omega)); intro tk'mz))
local macro_rules | `(tactic| walk_at "call builtin:list.pop") => `(tactic| (k_here; refine hold ?_))
local macro_rules | `(tactic| walk_at "call builtin:list.append") => `(tactic| (k_here; refine hold ?_))
local macro_rules | `(tactic| walk_at "binaryOp Add ref ref") => `(tactic| (k_here; refine hold ?_))
local macro_rules | `(tactic| walk_at "exec Raise some none") => `(tactic| (refine hold ?_))
local macro_rules | `(tactic| walk_at "call ref") => `(tactic| (kp_kind "59"; k_dflt (apply fault_spec; dl_open; ktr_room); intro h'mz tk'mz e'mz d'mz t'mz F'mz N'mz ev'mz))
local macro_rules | `(tactic| walk_at "compareOp In ref ref") => `(tactic| (k_here; k_dflt (apply inPairs; k_asm; k_mem; k_mem; assumption; kwd_less; assumption; ktr_units)))
local macro_rules | `(tactic| walk_at "call builtin:len") => `(tactic| (k_here; k_dflt (apply lenL; k_asm; k_mem; (simp only [List.length_append, List.length_map, List.length_cons, List.length_nil]; omega)); intro t'mz tk'mz))
local macro_rules | `(tactic| walk_at "compareOp Gt int int") => `(tactic| (k_here; k_dflt (refine gtNo (by simp only [List.length_append, List.length_map, List.length_cons, List.length_nil]; omega) ?_)))
local macro_rules | `(tactic| walk_at "call builtin:isinstance") => `(tactic| (k_here; (with_reducible show wpAny _ _ (call _ [Value.ref _, Value.ref _]) _ _ _); k_dflt (refine' isi_call ?k1 ?k2 ?k3 ?k4 ?_; (case k1 => k_in); (case k2 => k_types); (case k3 => k_is); (case k4 => intro emz; cases emz); k_whole)))
local macro_rules | `(tactic| walk_at "call builtin:isinstance") => `(tactic| (k_here; (with_reducible show wpAny _ _ (call _ [Value.ref _, Value.type _]) _ _ _); k_dflt (refine' kia_one kitx_dict ?X ?c ?ee ?nb ?_; (case c => exact kitAt_od (by k_asm) (by k_mem) (by k_asm)); (case X => k_in); (case ee => kit_is); (case nb => kit_nb); k_whole; intro _)))
variable {w : World} {p : Program} {loose : List Str} {mean : ExcName → Option Value} {mg mb : Str → Option Value}
   {dp un : Nat} {gd : Option (List Code)} {cn : Str} {cs : Scope} {a : Addr} {ccd : Value} {cl : List (Str × Addr)} {outer : List Env} {A₀ : Around} {base h₀ : Heap} {L : Addr} {m : Str → Option Value} {news R : List (Addr × Obj)} {s : Shared}
   {Q E : Value → Shared → Prop} {sh : Addr} {kvs : List (Int × Value)} {G : Addr → List Kid} {D : Addr → Prop}
theorem actions_spec {v : Value} {k : Kid} {Nn : List Int} {n : Nat} {r : Bool} {out : List Addr}
   (B : Below A₀ base outer h₀) (F : Fr h₀ L s.heap m) (X : (hd.heap_39 w.params).In h₀) (N : News h₀ L s.heap news)
   (T : Top p loose mean mg mb h₀) (hk : cs.kind = .function) (hS : ShelfAt w R sh kvs) (hG : GraphAt w R kvs G D) (hVD : ValD w R D) (hV : KidAt w R kvs v k) (hGN : ∀ b, ∀ k ∈ G b, KidF G D Nn k) (hkN : KidF G D Nn k)
   (hw : mach G n [(k, [])] [] = some (r, out)) (hlen : out.length ≤ 200) (hNn : Nn.length ≤ 20) (hR : ∀ p ∈ R, p ∈ news)
   (hd : dp + 60 < recursionLimit) (hu : un + 300 < cLine)
   (ret : r = true → ∀ l c h' tk', Fr h₀ L h' m → News h₀ L h' ((l, listOf (out.map Value.ref).toArray c) :: news) → (∀ p ∈ news, p.1 < l) → Q (.ref l) { s with heap := h', toks := tk' })
   (err : r = false → ∀ e t g h' tk', Fr h₀ L g m → g.UpToSlots h' → Heap.FlyingW base (envX cn cs L a ccd cl :: outer) e (.ref 59) (.ref t) h' → E (.ref e) { s with heap := h', toks := tk' }) :
   wpAny (model prg w) (ktrTop dp un gd cn cs L a ccd cl outer) (call (.ref 501) [.ref sh, v]) Q E s := by
  refine wpAny_call ?_
  k_dflt ktr_enter
  k_steps
  unfold Hold
  rename Fr _ _ _ _ => lF
  rename News _ _ _ _ => lN
  rename ∀ p ∈ news, p.1 < _ => lA
  rename _ < _ ∧ AllLt _ _ => lB
  rename _ < _ ∧ _ < _ ∧ AllLt _ _ => lC
  rename _ < _ ∧ _ < _ ∧ _ < _ ∧ AllLt _ _ => lD
  refine ea4_5 (act_pack lF rfl rfl rfl lN lA lB lC lD hV hkN hw) ?_
  intro fa ln m9 n9 hfl hfn F9 N9 J9
  clear lA lB lC lD lN lF
  refine While_inv2 (actJ w R kvs G D Nn r out sh news fa ln) (n₀ := n) F9 N9 J9 ?_
  clear F9 N9 J9 hV hkN hw
  rintro n m₁ news₁ h₁ tk₁ F₁ N₁ ⟨st, out0, vs, c, ck, rest, rfl, hf, hl, hin, hst, hm, hlv, hps⟩
  replace F₁ := fr_ext F₁ (kst_self hps)
  cases n with
  | zero => cases hm
  | succ n =>
  rcases hst.inv with ⟨rfl, rfl⟩ | ⟨v, k, above, tup, ab, avs, vs, nt, na, st, rfl, rfl, hV, hP, ht, ha, hda, hst2⟩
  · rw [mach] at hm
    cases hm
    k_steps
    exact ret rfl _ _ _ _ (by assumption) (news_sub (by assumption) (sub_cons (.head _) (fun p hp => .tail _ (.tail _ (hin p hp))))) hfn
  clear hst
  have hol : out0.length ≤ 200 := Nat.le_trans (mach_len hm) hlen
  simp only [List.length_append, List.length_cons, List.length_nil] at hlv
  have hR2 : ∀ p ∈ R, p ∈ rest := fun p hp => hin p (hR p hp)
  have hRs : Sub R rest := ⟨hR2⟩
  obtain ⟨dsh, tb, tr, otb, otr, h1, h2, k1, k2, n0, r1, dr1, h3, h4, k3, k4, t3, t4, n1, hs1, hs2, hs3, hs4, hs5, hs6, hs7, hs8, hs9, hs10⟩ := hS.mono hR2
  refine ea0_3 hP ?_
  intro hPF hnd habN
  refine ea0_3 hPF ?_
  intro hkD hkO hkM
  have hal : above.length ≤ 20 := Nat.le_trans (nodup_len hnd habN) hNn
  have havl : avs.length = above.length := by rw [hda.length, List.length_map]
  clear hR
  k_steps
  unfold Hold
  refine popL (l' := (fa, listOf (out0.map Value.ref).toArray c) :: rest) (by k_asm) (by k_asm) (.tail _ (.head _)) (List.forall_mem_cons.mpr ⟨hfl, hl⟩) (sub_cons (.head _) (fun p hp => .tail _ (.tail _ hp))) (by omega) ?_
  intro h2 F2 N2
  have hV2 := hV.mono hR2
  cases hV
  case odd i t =>
    rw [mach] at hm
    have hFe : Fetches w R kvs (.int i t) (.int i t) := .plain (.int i t) (fun _ _ h => nomatch h)
    k_steps
    exact ⟨_, _, _, (fa, listOf (out0.map Value.ref).toArray _) :: (ln, listOf vs.toArray _) :: rest, n, rfl, by assumption, news_sub (by assumption) (sub_cons (.tail _ (.head _)) (sub_cons (.head _) (fun p hp => .tail _ (.tail _ hp)))), Nat.lt_succ_self _, st, out0, vs, _, _, rest, rfl, hf, hl, hin, hst2, hm, by omega, List.forall_mem_cons.mpr ⟨rfl, List.forall_mem_cons.mpr ⟨rfl, List.forall_mem_cons.mpr ⟨rfl, List.forall_mem_nil _⟩⟩⟩⟩
  case own b =>
    refine ea0_2 (p1 := D b) (p2 := G b = []) hkD ?_
    intro hDb hGb
    refine graphK (hG b hDb) ?_
    intro o es hb ho hbs hn _
    have hFe := dict_fetch (kvs := kvs) hVD hDb
    have hb2 := hR2 _ hb
    rw [mach, hGb, List.map_nil, List.nil_append] at hm
    rw [hGb] at hn
    refine ea2_4 (follows_of hG hVD hn (fun _ h => nomatch h)) ?_
    intro vs2 ks2 hfo hks2 hl2 hor
    obtain rfl : ks2 = [] := by
      rcases hor with h | ⟨i, h, h'⟩
      · exact h
      · exact h'
    cases hks2
    have hol2 := mach_len hm
    simp only [List.length_append, List.length_cons, List.length_nil] at hol2
    k_steps
    unfold Hold
    refine appendL (l' := (ln, listOf vs.toArray (ck + 1)) :: rest) (by k_asm) (by k_asm) (List.forall_mem_cons.mpr ⟨Ne.symm hfl, hf⟩) (.tail _ (.head _)) (sub_cons (.head _) (fun p hp => .tail _ (.tail _ hp))) (by simp only [List.length_map]; omega) ?_
    intro h3 F3 N3
    k_steps
    unfold Hold
    rename Fr _ _ _ _ => lF
    rename News _ _ _ _ => lN
    rename ∀ p ∈ ((fa, _) :: _ : List (Addr × Obj)), p.1 < _ => lA
    rename _ < _ ∧ _ < _ ∧ _ < _ ∧ AllLt _ _ => lB
    refine loopRev (σ := List (Addr × Obj) × List Value × Nat) (vs := []) (fun _ => [("shelf", .ref sh), ("found", .ref fa), ("line", .ref ln), ("above", .ref ab)]) [] (fun c' => (fa, listOf (out0.map Value.ref ++ [Value.ref b]).toArray (c + 1)) :: (ln, listOf c'.2.1.toArray c'.2.2) :: c'.1) (pushP w R kvs G D Nn fa ln rest vs.length st [] above) (rest, vs, ck + 1) (by rfl) (.head _) (.tail _ (.head _)) (Nat.ne_of_lt lB.1) (fun p hp => .tail _ (.tail _ hp)) (fun p hp => ⟨Nat.ne_of_lt (lA p hp), Nat.ne_of_lt (Nat.lt_trans (lA p hp) lB.1)⟩) lF (List.forall_mem_cons.mpr ⟨rfl, List.forall_mem_cons.mpr ⟨rfl, List.forall_mem_cons.mpr ⟨rfl, List.forall_mem_cons.mpr ⟨rfl, List.forall_mem_nil _⟩⟩⟩⟩) lN (pushP_zero hf hl hst2) (fun i v2 c2 u h4 tk4 own hi => absurd hi (Nat.not_lt_zero _)) ?_
    clear lF lN
    rintro ⟨rest2, vsX, ckX⟩ u h4 tk4 hPe F4 N4
    refine ea0_5 (pushP_end (vs2 := []) hPe .nil) ?_
    intro hp1 hp2 hp3 hp4 hp5
    (try k_fold)
    k_steps
    exact ⟨_, _, _, (fa, listOf (out0.map Value.ref ++ [Value.ref b]).toArray _) :: (ln, listOf vsX.toArray _) :: rest2, n, rfl, by assumption, by assumption, Nat.lt_succ_self _, st, out0 ++ [b], vsX, _, _, rest2, by rw [List.map_append]; rfl, hp2, hp3, fun p hp => hp1 _ (hin p hp), hp5, hm, by simp only [List.length_append, List.length_cons, List.length_nil] at hp4 ⊢; omega, List.forall_mem_cons.mpr ⟨rfl, List.forall_mem_cons.mpr ⟨rfl, List.forall_mem_cons.mpr ⟨rfl, List.forall_mem_nil _⟩⟩⟩⟩
  case miss hx1 hx2 hx3 =>
    rename_i i _ _ _ _ _
    have hFe : Fetches w R kvs _ .none := .miss hx1 hx2 hx3
    replace hx1 := hR2 _ hx1
    replace hx2 := hR2 _ hx2
    rw [mach] at hm
    by_cases hi : i ∈ above
    · rw [if_pos hi] at hm
      have hi' : (above.any (· == i)) = true := by simpa using hi
      cases hm
      k_steps
      unfold Hold
      refine Raise_val (by rfl) ?_
      k_steps
      · assumption
      · exact leave_raiseX (by assumption) (by assumption) (by assumption) (fun h' hf hu => err rfl _ _ _ _ _ (by assumption) hu hf)
    · rw [if_neg hi] at hm
      have hi' : (above.any (· == i)) = false := by rw [Bool.eq_false_iff]; intro h; exact hi (by simpa using h)
      k_steps
      unfold Hold
      refine addT (P := fun _ => True) (ws := [.ref _]) (by k_asm) (by k_asm) (by k_mem) (.head _) (List.cons_ne_nil _ _) (by omega) (by exact Nat.le_of_ble_eq_true rfl) trivial (fun _ _ => trivial) ?_
      intro D3 n3 h3 _ F3 N3
      k_steps
      exact ⟨_, _, _, (fa, listOf (out0.map Value.ref).toArray c) :: (ln, listOf vs.toArray (ck + 1)) :: rest, n, rfl, by assumption, news_sub (by assumption) (sub_cons (.tail _ (.tail _ (.tail _ (.tail _ (.tail _ (.head _)))))) (sub_cons (.tail _ (.tail _ (.tail _ (.tail _ (.head _))))) fun p hp => .tail _ (.tail _ (.tail _ (.tail _ (.tail _ (.tail _ hp))))))), Nat.lt_succ_self _, st, out0, vs, _, _, rest, rfl, hf, hl, hin, hst2, hm, by omega, List.forall_mem_cons.mpr ⟨rfl, List.forall_mem_cons.mpr ⟨rfl, List.forall_mem_cons.mpr ⟨rfl, List.forall_mem_nil _⟩⟩⟩⟩
  case hit hx1 hx2 hx3 hx4 =>
    rename_i b tup2 _ _ i _ _ _ _ _ _ _
    have hDb : D b := hkD
    refine graphK (hG b hDb) ?_
    intro o es hb ho hbs hn hksD
    have hFe : Fetches w R kvs _ (.ref b) := .hit hx1 hx2 hx3 hx4 hb ho
    replace hx1 := hR2 _ hx1
    replace hx2 := hR2 _ hx2
    have hb2 := hR2 _ hb
    rw [mach] at hm
    by_cases hi : i ∈ above
    · rw [if_pos hi] at hm
      have hi' : (above.any (· == i)) = true := by simpa using hi
      cases hm
      k_steps
      unfold Hold
      refine Raise_val (by rfl) ?_
      k_steps
      · assumption
      · exact leave_raiseX (by assumption) (by assumption) (by assumption) (fun h' hf hu => err rfl _ _ _ _ _ (by assumption) hu hf)
    · rw [if_neg hi] at hm
      have hi' : (above.any (· == i)) = false := by rw [Bool.eq_false_iff]; intro h; exact hi (by simpa using h)
      refine ea2_4 (follows_of hG hVD hn hksD) ?_
      intro vs2 ks2 hfo hks2 hl2 hor
      have hab2 : ∀ x ∈ above ++ [i], x ∈ Nn := fun x hx => by
        rcases List.mem_append.mp hx with h | h
        · exact habN x h
        · rw [List.mem_singleton.mp h]; exact hkO
      have hnd2 : (above ++ [i]).Nodup := by
        rw [List.nodup_append]
        refine ⟨hnd, by simp, fun x hx y hy e => ?_⟩
        rw [List.mem_singleton.mp hy] at e
        exact hi (e ▸ hx)
      refine ea1_3 (mach_skip hm (hGN b) hab2 hor) ?_
      intro n' hn' hm' hF'
      have hol2 := mach_len hm'
      simp only [List.length_append, List.length_cons, List.length_nil] at hol2
      k_steps
      unfold Hold
      refine addT (P := fun D => Apart D fa ∧ Apart D ln) (ws := [.ref _]) (by k_asm) (by k_asm) (by k_mem) (.head _) (List.cons_ne_nil _ _) (by omega) (by exact Nat.le_of_ble_eq_true rfl) ⟨Nat.ne_of_gt (by omega), Nat.ne_of_gt (by omega)⟩ (fun D hD => ⟨Nat.ne_of_gt (hD (fa, listOf (out0.map Value.ref).toArray c) (by simp)), Nat.ne_of_gt (hD (ln, listOf vs.toArray (ck + 1)) (by simp))⟩) ?_
      intro D3 n3 h3 hD3 F3 N3
      refine ea2_6 (act_above N3 hD3 ⟨Nat.ne_of_gt (by omega), Nat.ne_of_gt (by omega)⟩ hf hl hda) ?_
      intro rest1 avs3 hs1 hf1 hl1 ha1 hda1 N4
      clear N3
      have hR3 : ∀ p ∈ R, p ∈ rest1 := fun p hp => hs1 p (hR2 p hp)
      clear hR2 hRs
      have hRs : Sub R rest1 := ⟨hR3⟩
      replace hb2 := hs1 _ hb2
      obtain ⟨dsh', tb', tr', otb', otr', h1', h2', k1', k2', n0', r1', dr1', h3', h4', k3', k4', t3', t4', n1', hs1', hs2', hs3', hs4', hs5', hs6', hs7', hs8', hs9', hs10'⟩ := hS.mono hR3
      clear hs2 hs3 hs4 hs5 hs6 hs7 hs8 hs9 hs10
      k_steps
      unfold Hold
      refine appendL (l' := (ln, listOf vs.toArray (ck + 1)) :: rest1) (by k_asm) (by k_asm) (List.forall_mem_cons.mpr ⟨Ne.symm hfl, hf1⟩) (.tail _ (.head _)) (sub_cons (.head _) (fun p hp => .tail _ (.tail _ hp))) (by simp only [List.length_map]; omega) ?_
      intro h5 F5 N5
      k_steps
      unfold Hold
      rename Fr _ _ _ _ => lF
      rename News _ _ _ _ => lN
      rename ∀ p ∈ ((fa, _) :: _ : List (Addr × Obj)), p.1 < _ => lA
      rename _ < _ ∧ _ < _ ∧ _ < _ ∧ AllLt _ _ => lB
      refine loopRev (σ := List (Addr × Obj) × List Value × Nat) (vs := vs2) (fun _ => [("shelf", .ref sh), ("found", .ref fa), ("line", .ref ln), ("above", .ref D3)]) [] (fun c' => (fa, listOf (out0.map Value.ref ++ [Value.ref b]).toArray (c + 1)) :: (ln, listOf c'.2.1.toArray c'.2.2) :: c'.1) (pushP w R kvs G D Nn fa ln rest1 vs.length st ks2 (above ++ [i])) (rest1, vs, ck + 1) (by rfl) (.head _) (.tail _ (.head _)) (Nat.ne_of_lt lB.1) (fun p hp => .tail _ (.tail _ hp)) (fun p hp => ⟨Nat.ne_of_lt (lA p hp), Nat.ne_of_lt (Nat.lt_trans (lA p hp) lB.1)⟩) lF (List.forall_mem_cons.mpr ⟨rfl, List.forall_mem_cons.mpr ⟨rfl, List.forall_mem_cons.mpr ⟨rfl, List.forall_mem_cons.mpr ⟨rfl, List.forall_mem_nil _⟩⟩⟩⟩) lN (pushP_zero hf1 hl1 (hst2.mono hs1)) ?_ ?_
      all_goals clear lF lN
      · rintro j v2 ⟨rest2, vsX, ckX⟩ u h6 tk6 own hj hv2 hPj hsep F6 N6
        have hvx : vsX.length = vs.length + j := hPj.2.2.2.1
        (try k_fold)
        k_steps
        unfold Hold
        rename AllLt _ _ => lT
        refine appendL (l' := (_, tupOf #[v2, .ref D3] 0) :: (fa, listOf (out0.map Value.ref ++ [Value.ref b]).toArray (c + 1)) :: (rest2 ++ own)) (by k_asm) (by k_asm) (act_turn_ne lT hfl hPj.2.2.1 hsep) (.tail _ (.tail _ (.head _))) (sub_cons (.head _) (sub_cons (.tail _ (.head _)) fun p hp => .tail _ (.tail _ (.tail _ hp)))) (by show vsX.length ≤ 1000; omega) ?_
        intro h7 F7 N7
        refine ea1_3 (act_turn_close N7 lT hsep hPj hks2 hF' hnd2 hab2 hj hv2 ha1 hda1) ?_
        intro c' q1 q2 q3
        k_steps
        exact (turnP_next c' (by assumption) (psCons rfl (psCons rfl (psCons rfl (psCons rfl psNil)))) (by kwd_inv) q1 q2 q3)
      · rintro ⟨rest2, vsX, ckX⟩ u h6 tk6 hPe F6 N6
        refine ea0_5 (pushP_end hPe hks2) ?_
        intro hp1 hp2 hp3 hp4 hp5
        (try k_fold)
        k_steps
        exact ⟨_, _, _, (fa, listOf (out0.map Value.ref ++ [Value.ref b]).toArray _) :: (ln, listOf vsX.toArray _) :: rest2, n', rfl, by assumption, by assumption, Nat.lt_succ_of_le hn', _, out0 ++ [b], vsX, _, _, rest2, by rw [List.map_append]; rfl, hp2, hp3, fun p hp => hp1 _ (hs1 _ (hin p hp)), hp5, hm', by simp only [List.length_append, List.length_cons, List.length_nil] at hp4 ⊢; omega, List.forall_mem_cons.mpr ⟨rfl, List.forall_mem_cons.mpr ⟨rfl, List.forall_mem_cons.mpr ⟨rfl, List.forall_mem_nil _⟩⟩⟩⟩
end actions
inductive DKind (w : World) (R : List (Addr × Obj)) : Value → Bool → Prop
  | none : DKind w R .none false
  | name {v : Value} {x : Str} : ValIn w R v (.name x) → DKind w R v false
  | arr {v : Value} : ValIn w R v (.arr [.ref 3 0, .name "Fit"]) → DKind w R v true
theorem DKind.mono {w : World} {R R' : List (Addr × Obj)} (hs : ∀ p ∈ R, p ∈ R') {v : Value} {b : Bool} (h : DKind w R v b) : DKind w R' v b := by
  cases h with
  | none => exact .none
  | name h => exact .name (h.mono hs)
  | arr h => exact .arr (h.mono hs)
inductive GoalAt (w : World) (R : List (Addr × Obj)) : Value → Bool → Prop
  | none : GoalAt w R .none false
  | some {v : Value} : TargetAt w R v → GoalAt w R v true
theorem TargetAt.mono {w : World} {R R' : List (Addr × Obj)} (hs : ∀ p ∈ R, p ∈ R') {v : Value} (h : TargetAt w R v) : TargetAt w R' v := by
  obtain ⟨tg, dt, rx, h1, h2, h3, k1, k2, k3, t, nl, n, e, a, b, c⟩ := h
  exact ⟨tg, dt, rx, h1, h2, h3, k1, k2, k3, t, nl, n, e, hs _ a, hs _ b, c.mono hs⟩
theorem GoalAt.mono {w : World} {R R' : List (Addr × Obj)} (hs : ∀ p ∈ R, p ∈ R') {v : Value} {b : Bool} (h : GoalAt w R v b) : GoalAt w R' v b := by
  cases h with
  | none => exact .none
  | some h => exact .some (h.mono hs)
inductive GoalsAt (w : World) (R : List (Addr × Obj)) : List Value → List Bool → Prop
  | nil : GoalsAt w R [] []
  | snoc {vs : List Value} {bs : List Bool} {v : Value} {b : Bool} : GoalsAt w R vs bs → GoalAt w R v b → GoalsAt w R (vs ++ [v]) (bs ++ [b])
theorem GoalsAt.mono {w : World} {R R' : List (Addr × Obj)} (hs : ∀ p ∈ R, p ∈ R') {vs : List Value} {bs : List Bool} (h : GoalsAt w R vs bs) : GoalsAt w R' vs bs := by
  induction h with
  | nil => exact .nil
  | snoc _ h ih => exact .snoc ih (h.mono hs)
theorem GoalsAt.length {w : World} {R : List (Addr × Obj)} {vs : List Value} {bs : List Bool} (h : GoalsAt w R vs bs) : vs.length = bs.length := by
  induction h with
  | nil => rfl
  | snoc _ _ ih => simp [ih]
theorem GoalsAt.at {w : World} {R : List (Addr × Obj)} {vs : List Value} {bs : List Bool} (h : GoalsAt w R vs bs) : ∀ {i : Nat} {v : Value}, vs[i]? = some v → ∃ b, bs[i]? = some b ∧ GoalAt w R v b := by
  induction h with
  | nil => intro i v e; simp at e
  | snoc hq hg ih =>
    rename_i vs bs v b
    intro i u e
    have hl := hq.length
    by_cases hi : i < vs.length
    · rw [List.getElem?_append_left hi] at e
      obtain ⟨c, hc, hg'⟩ := ih e
      exact ⟨c, by rw [List.getElem?_append_left (hl ▸ hi)]; exact hc, hg'⟩
    · rw [List.getElem?_append_right (by omega)] at e
      have h0 : i - vs.length = 0 := by
        cases q : i - vs.length with
        | zero => rfl
        | succ k => rw [q] at e; simp at e
      rw [h0] at e
      simp at e
      subst e
      exact ⟨b, by rw [List.getElem?_append_right (by omega), ← hl, h0]; rfl, hg⟩
noncomputable def ActD (w : World) (R : List (Addr × Obj)) (b : Addr) (go dk : Bool) : Prop :=
  ∃ o es sv x, (b, o) ∈ R ∧ o.IsDictOf (PySem.strKind prg w) es ∧ (b == sysModules) = false ∧ valueAt es "S" = some sv ∧ ValIn w R sv (.name x) ∧ (x == Str.ofString "GoTo") = go ∧ DKind w R ((valueAt es "D").getD .none) dk
section dests
variable {w : World} {p : Program} {loose : List Str} {mean : ExcName → Option Value} {mg mb : Str → Option Value}
   {dp un : Nat} {gd : Option (List Code)} {cn : Str} {cs : Scope} {a : Addr} {ccd : Value} {cl : List (Str × Addr)} {outer : List Env} {A₀ : Around} {base h₀ : Heap} {L : Addr} {m : Str → Option Value} {news R : List (Addr × Obj)} {s : Shared}
   {Q E : Value → Shared → Prop} {sh : Addr} {kvs : List (Int × Value)}
theorem dest_spec {v : Value} {b : Bool}
   (B : Below A₀ base outer h₀) (F : Fr h₀ L s.heap m) (X : (hd.heap_39 w.params).In h₀) (N : News h₀ L s.heap news)
   (T : Top p loose mean mg mb h₀) (hk : cs.kind = .function) (hS : ShelfAt w R sh kvs) (hV : DKind w R v b) (hR : ∀ p ∈ R, p ∈ news)
   (hd : dp + 60 < recursionLimit) (hu : un + 320 < cLine)
   (ret : ∀ v h' tk' tl, Fr h₀ L h' m → News h₀ L h' (tl ++ news) → Above tl news → GoalAt w (tl ++ R) v b → Q v { s with heap := h', toks := tk' }) :
   wpAny (model prg w) (ktrTop dp un gd cn cs L a ccd cl outer) (call (.ref 480) [.ref sh, v]) Q E s := by
  cases hV with
  | none => exact dest_none B F X N T hk hS hR hd hu fun h' tk' F' N' => ret _ h' tk' [] F' N' .nil .none
  | name h => exact dest_name B F X N T hk hS h hR hd hu fun h' tk' F' N' => ret _ h' tk' [] F' N' .nil .none
  | arr h => exact dest_arr B F X N T hk hS h hR hd hu fun v h' tk' tl F' N' l1 hT => ret v h' tk' tl F' N' l1 (.some hT)
end dests
theorem out_at {out : List Addr} {i : Nat} {v : Value} (h : (out.map Value.ref).toArray[i]? = some v) : ∃ b, out[i]? = some b ∧ v = .ref b := by
  rw [List.getElem?_toArray, List.getElem?_map] at h
  cases e : out[i]? with
  | none => rw [e] at h; cases h
  | some b => rw [e] at h; cases h; exact ⟨b, rfl, rfl⟩
theorem take_filter {out : List Addr} {go : Addr → Bool} {i : Nat} {b : Addr} (h : out[i]? = some b) : (out.take (i + 1)).filter go = (out.take i).filter go ++ (if go b = true then [b] else []) := by
  rw [List.take_add_one, h, List.filter_append]
  cases e : go b <;> simp [e]
theorem goals_step {w : World} {R news tl tl' : List (Addr × Obj)} {ys : List Value} {row : List Addr} {dk : Addr → Bool} {i : Nat} {b : Addr} {v : Value} (hJ : GoalsAt w (tl ++ news) ys ((row.take i).map dk)) (hb : row[i]? = some b) (hT : GoalAt w (tl' ++ R) v (dk b)) (hR : ∀ p ∈ R, p ∈ news) :
    GoalsAt w ((tl' ++ tl) ++ news) (ys ++ [v]) ((row.take (i + 1)).map dk) := by
  rw [List.take_add_one, hb, List.map_append]
  refine .snoc (hJ.mono fun p hp => ?_) (hT.mono fun p hp => ?_)
  · rw [List.append_assoc]; exact List.mem_append.mpr (.inr hp)
  · rcases List.mem_append.mp hp with h | h
    · exact List.mem_append.mpr (.inl (List.mem_append.mpr (.inl h)))
    · exact List.mem_append.mpr (.inr (hR p h))
section goals
local macro_rules | `(tactic| kwd_less) => `(tactic| exact sub_mark (by assumption) (by kwd_less))
local macro_rules | `(tactic| walk_at "CompSrcT") => `(tactic| (k_here; refine hold ?_))
local macro_rules | `(tactic| walk_at "CompSrc") => `(tactic| (k_here; refine hold ?_))
local macro_rules | `(tactic| walk_at "CompEnd") => `(tactic| (k_here; refine hold ?_))
local macro_rules | `(tactic| walk_at "call ref") => `(tactic| (kp_kind "501"; refine hold ?_))
local macro_rules | `(tactic| walk_at "call ref") => `(tactic| (kp_kind "480"; k_dflt (apply dest_spec; dl_open; assumption; assumption; kwd_less; ktr_room; ktr_units); intro v'mz h'mz tk'mz tl'mz F'mz N'mz l1'mz hT'mz))
local macro_rules | `(tactic| walk_at "compareOp Eq str str") => `(tactic| (k_here; refine eqStr (by assumption) ?_))
variable {w : World} {p : Program} {loose : List Str} {mean : ExcName → Option Value} {mg mb : Str → Option Value}
   {dp un : Nat} {gd : Option (List Code)} {cn : Str} {cs : Scope} {a : Addr} {ccd : Value} {cl : List (Str × Addr)} {outer : List Env} {A₀ : Around} {base h₀ : Heap} {L : Addr} {m : Str → Option Value} {news R : List (Addr × Obj)} {s : Shared}
   {Q E : Value → Shared → Prop} {sh : Addr} {kvs : List (Int × Value)} {G : Addr → List Kid} {D : Addr → Prop}
theorem goals_spec {v : Value} {k : Kid} {Nn : List Int} {n : Nat} {out : List Addr} {go dk : Addr → Bool}
   (B : Below A₀ base outer h₀) (F : Fr h₀ L s.heap m) (X : (hd.heap_39 w.params).In h₀) (N : News h₀ L s.heap news)
   (T : Top p loose mean mg mb h₀) (hk : cs.kind = .function) (hS : ShelfAt w R sh kvs) (hG : GraphAt w R kvs G D) (hVD : ValD w R D) (hV : KidAt w R kvs v k) (hGN : ∀ b, ∀ k ∈ G b, KidF G D Nn k) (hkN : KidF G D Nn k)
   (hw : mach G n [(k, [])] [] = some (true, out)) (hlen : out.length ≤ 200) (hNn : Nn.length ≤ 20) (hA : ∀ b ∈ out, ActD w R b (go b) (dk b)) (hR : ∀ p ∈ R, p ∈ news)
   (hd : dp + 90 < recursionLimit) (hu : un + 420 < cLine)
   (ret : ∀ l c ys tl h' tk', Fr h₀ L h' m → News h₀ L h' ((l, listOf ys.toArray c) :: (tl ++ news)) → GoalsAt w (tl ++ news) ys ((out.filter go).map dk) → Q (.ref l) { s with heap := h', toks := tk' }) :
   wpAny (model prg w) (ktrTop dp un gd cn cs L a ccd cl outer) (call (.ref 506) [.ref sh, v]) Q E s := by
  have hRs : Sub R news := ⟨hR⟩
  refine ea8_2 ((hS.mono hR).inst) ?_
  intro dsh tb tr h1 h2 k1 k2 n0 hs1 hs2
  refine wpAny_call ?_
  k_dflt (refine' code_defC ?k1 ?k2 ?k3 ?k4 ?k5 ?kA ?kF ?kK ?k6 ?k7 ?k8 ?k9 ?kB ?kD ?_ ?c2 ?c3 ?c4; (case kA => exact rfl); (case kF => exact rfl); (case kK => assumption); (case k1 => k_asm); (case k2 => k_asm); (case k3 => k_asm); (case k4 => k_asm); (case k5 => k_asm); (case k6 => k_is); (case k7 => k_is); (case k8 => k_room); (case k9 => exact BindsTo.of_eq rfl); (case kB => exact rfl); (case kD => decide +kernel); (case c2 => exact rfl); (case c3 => exact rfl); (case c4 => exact rfl); k_whole; intro g' L' h' tk' cells' FG' F' N' Y' B' X' T' l1; (try k_lt l1); k_cells Y'; (try simp only [List.cons_append, List.nil_append] at N'); (try dsimp only); (try k_fold))
  k_steps
  unfold Hold
  refine actions_spec (by k_asm) (by k_asm) (by k_asm) (by k_asm) (by k_asm) (by first | exact rfl | assumption) hS hG hVD hV hGN hkN hw hlen hNn (fun p hp => .tail _ (hR p hp)) (by ktr_room) (by ktr_units) ?_ (fun h => nomatch h)
  intro _ l1 c1 h2 tk2 F2 N2 l2
  k_steps
  unfold Hold
  refine LCt.CompSrcT.ledger (by rfl) (by k_asm) (by k_asm) (.head _) (by simp only [List.size_toArray, List.length_map, sizeLine_eq]; omega) ?_
  intro g9
  refine compRestT_same (fun i ys => ys = ((out.take i).filter go).map Value.ref) ?_ ?_ rfl
  · rintro i v ys I oI C oC D9 m₂ h tk E' hi hP rfl hC hx F3 N3 off ne
    refine ea1_2 (out_at hP) ?_
    intro b hb er2
    subst er2
    refine ea4_7 (hA b (List.mem_of_getElem? hb)) ?_
    intro o es sv x hb1 ho hbs hsv hVx hgo hdk
    replace hb1 := hR _ hb1
    have htk := take_filter (go := go) hb
    cases hgb : go b
    · rw [hgb] at hgo
      k_steps
      unfold Hold
      exact LCg.CompEnd.intro (by assumption) (by assumption) _ (fun _ h => h) off (.inr ⟨_, .head _, rfl, _, rfl⟩) ⟨rfl, by rw [htk, hgb]; simp⟩
    · rw [hgb] at hgo
      k_steps
      unfold Hold
      exact LCg.CompEnd.intro (by assumption) (by assumption) _ (fun _ h => h) off (.inr ⟨_, .head _, rfl, _, rfl⟩) ⟨rfl, by rw [htk, hgb]; simp⟩
  · rintro ys rfl
    rw [List.size_toArray, List.length_map, List.take_length]
    have hlf : (out.filter go).length ≤ 200 := Nat.le_trans (List.length_filter_le _ _) hlen
    have hAf : ∀ b ∈ out.filter go, b ∈ out := fun b hb => (List.mem_filter.mp hb).1
    generalize eF : out.filter go = row at ret hlf hAf
    k_steps
    unfold Hold
    refine LCg.CompSrc.ledger (by rfl) (by k_asm) (by k_asm) (.head _) (by simp only [List.size_toArray, List.length_map, sizeLine_eq]; omega) ?_
    intro g9
    refine compRest_grow (fun i ys tl => GoalsAt w (tl ++ news) ys ((row.take i).map dk)) ?_ ?_ .nil
    · intro i v ys tl I oI C oC D9 m₂ h tk E' hi hP hJ hC hx F3 N3 off ne
      refine ea1_2 (out_at hP) ?_
      intro b hb er2
      subst er2
      refine ea4_7 (hA b (hAf b (List.mem_of_getElem? hb))) ?_
      intro o es sv x hb1 ho hbs hsv hVx hgo hdk
      replace hb1 := hR _ hb1
      cases hvd : valueAt es "D"
      · rw [hvd] at hdk
        k_steps
        unfold Hold
        exact compEnd_tl (by assumption) (by assumption) (by assumption) off (.inr ⟨_, List.mem_append.mpr (.inr (.head _)), rfl, _, rfl⟩) (goals_step hJ hb (by assumption) hR)
      · rw [hvd] at hdk
        k_steps
        unfold Hold
        exact compEnd_tl (by assumption) (by assumption) (by assumption) off (.inr ⟨_, List.mem_append.mpr (.inr (.head _)), rfl, _, rfl⟩) (goals_step hJ hb (by assumption) hR)
    · intro ys tl hJ
      rw [List.size_toArray, List.length_map, List.take_length] at hJ
      k_steps
      exact ret _ _ ys tl _ _ (by assumption) (news_sub (by assumption) (sub_cons (.head _) (sub_app (fun p hp => .tail _ (List.mem_append.mpr (.inl hp))) fun p hp => .tail _ (List.mem_append.mpr (.inr (.tail _ (.tail _ (.tail _ hp)))))))) hJ
end goals
set_option genInjectivity false in
set_option genSizeOf false in
structure Head where
  b : Addr
  o : Obj
  tup : Addr
  es : List (Str × Value)
  kids : List Kid
noncomputable def rowsFrom : Int → List Head → List (Int × Value)
  | _, [] => []
  | i, h :: r => (i, .ref h.tup) :: rowsFrom (i + 1) r
theorem rowsFrom_snoc (h : Head) : ∀ (hs : List Head) (i : Int), rowsFrom i (hs ++ [h]) = rowsFrom i hs ++ [(i + hs.length, .ref h.tup)]
  | [], i => by simp [rowsFrom]
  | g :: r, i => by
    rw [List.cons_append, rowsFrom, rowsFrom_snoc h r (i + 1), rowsFrom, List.cons_append, List.length_cons]
    have : i + 1 + (r.length : Int) = i + ((r.length + 1 : Nat) : Int) := by omega
    rw [this]
theorem rows_at {h : Head} : ∀ {hs : List Head} {i : Int} {j : Nat}, hs[j]? = some h → valueAt (rowsFrom i hs) (i + j) = some (.ref h.tup)
  | [], _, _, e => by simp at e
  | g :: r, i, 0, e => by
    simp at e
    subst e
    simp [rowsFrom, valueAt]
  | g :: r, i, j + 1, e => by
    have ih := rows_at (i := i + 1) (j := j) (hs := r) (by simpa using e)
    have h1 : i + 1 + (j : Int) = i + ((j + 1 : Nat) : Int) := by omega
    rw [h1] at ih
    have h2 : ¬ (i = i + ((j + 1 : Nat) : Int)) := by omega
    unfold valueAt at ih ⊢
    rw [rowsFrom, List.find?_cons]
    simp only [h2, decide_false]
    exact ih
theorem rows_none : ∀ {hs : List Head} {i k : Int}, (k < i ∨ i + hs.length ≤ k) → valueAt (rowsFrom i hs) k = none
  | [], _, _, _ => rfl
  | g :: r, i, k, e => by
    have ih := rows_none (hs := r) (i := i + 1) (k := k) (by simp only [List.length_cons] at e; omega)
    have h2 : ¬ (i = k) := by simp only [List.length_cons] at e; omega
    unfold valueAt at ih ⊢
    rw [rowsFrom, List.find?_cons]
    simp only [h2, decide_false]
    exact ih
noncomputable def kvs0 (t1 t2 t3 : Addr) : List (Int × Value) := [(1, .ref t1), (2, .ref t2), (3, .ref t3)]
theorem kvs_at {t1 t2 t3 : Addr} {hs : List Head} {k : Int} (hk : 10 ≤ k) : valueAt (kvs0 t1 t2 t3 ++ rowsFrom 10 hs) k = valueAt (rowsFrom 10 hs) k := by
  have h1 : ¬ ((1 : Int) = k) := by omega
  have h2 : ¬ ((2 : Int) = k) := by omega
  have h3 : ¬ ((3 : Int) = k) := by omega
  unfold valueAt kvs0
  simp [h1, h2, h3]
noncomputable def hled (hs : List Head) : List (Addr × Obj) := hs.map fun h => (h.b, h.o)
inductive DSome (w : World) (R : List (Addr × Obj)) : Value → Prop
  | name {v : Value} : ValIn w R v (.name "none") → DSome w R v
  | arr {v : Value} : ValIn w R v (.arr [.ref 3 0, .name "Fit"]) → DSome w R v
theorem DSome.mono {w : World} {R R' : List (Addr × Obj)} (hs : ∀ p ∈ R, p ∈ R') {v : Value} (h : DSome w R v) : DSome w R' v := by
  cases h with
  | name h => exact .name (h.mono hs)
  | arr h => exact .arr (h.mono hs)
inductive BaseEs (w : World) (R : List (Addr × Obj)) : List (Str × Value) → Prop
  | sm {v : Value} {x : Str} {i : Int} {t : Tok} : PyData.strOk x = true → ValIn w R v (.name x) → BaseEs w R [("S", v), ("M", .int i t)]
  | smd {v d : Value} {x : Str} {i : Int} {t : Tok} : PyData.strOk x = true → ValIn w R v (.name x) → DSome w R d → BaseEs w R [("S", v), ("M", .int i t), ("D", d)]
theorem BaseEs.mono {w : World} {R R' : List (Addr × Obj)} (hs : ∀ p ∈ R, p ∈ R') {es : List (Str × Value)} (h : BaseEs w R es) : BaseEs w R' es := by
  cases h with
  | sm hx h => exact .sm hx (h.mono hs)
  | smd hx h h2 => exact .smd hx (h.mono hs) (h2.mono hs)
noncomputable def OwnD (w : World) (R : List (Addr × Obj)) (b : Addr) : Prop :=
  ∃ o v x i t, (b, o) ∈ R ∧ o.IsDictOf (PySem.strKind prg w) [("S", v), ("M", .int i t)] ∧ (b == sysModules) = false ∧ ValIn w R v (.name x) ∧ PyData.strOk x = true
theorem OwnD.mono {w : World} {R R' : List (Addr × Obj)} (hs : ∀ p ∈ R, p ∈ R') {b : Addr} (h : OwnD w R b) : OwnD w R' b := by
  obtain ⟨o, v, x, i, t, h1, h2, h3, h4, h5⟩ := h
  exact ⟨o, v, x, i, t, hs _ h1, h2, h3, h4.mono hs, h5⟩
inductive KidV (w : World) (R : List (Addr × Obj)) (kvs : List (Int × Value)) (bs : List Addr) (cnt : Nat) : Value → Kid → Prop
  | odd (i : Int) (t : Tok) : KidV w R kvs bs cnt (.int i t) .odd
  | own {b : Addr} : OwnD w R b → b ∉ bs → KidV w R kvs bs cnt (.ref b) (.own b)
  | hit {x b : Addr} {i : Int} : KidAt w R kvs (.ref x) (.ref i (some b)) → b ∈ bs → 10 ≤ i → i < 10 + cnt → KidV w R kvs bs cnt (.ref x) (.ref i (some b))
  | miss {x : Addr} {i : Int} : KidAt w R kvs (.ref x) (.ref i none) → 10 + cnt ≤ i → KidV w R kvs bs cnt (.ref x) (.ref i none)
theorem KidV.mono {w : World} {R R' : List (Addr × Obj)} {kvs : List (Int × Value)} {bs : List Addr} {cnt : Nat} (hs : ∀ p ∈ R, p ∈ R') {v : Value} {k : Kid} (h : KidV w R kvs bs cnt v k) : KidV w R' kvs bs cnt v k := by
  cases h with
  | odd i t => exact .odd i t
  | own h h2 => exact .own (h.mono hs) h2
  | hit h a b c => exact .hit (h.mono hs) a b c
  | miss h a => exact .miss (h.mono hs) a
inductive KidsV (w : World) (R : List (Addr × Obj)) (kvs : List (Int × Value)) (bs : List Addr) (cnt : Nat) : List Value → List Kid → Prop
  | nil : KidsV w R kvs bs cnt [] []
  | cons {v : Value} {k : Kid} {vs : List Value} {ks : List Kid} : KidV w R kvs bs cnt v k → KidsV w R kvs bs cnt vs ks → KidsV w R kvs bs cnt (v :: vs) (k :: ks)
theorem KidsV.mono {w : World} {R R' : List (Addr × Obj)} {kvs : List (Int × Value)} {bs : List Addr} {cnt : Nat} (hs : ∀ p ∈ R, p ∈ R') {vs : List Value} {ks : List Kid} (h : KidsV w R kvs bs cnt vs ks) : KidsV w R' kvs bs cnt vs ks :=
  KidsV.rec (motive := fun vs ks _ => KidsV w R' kvs bs cnt vs ks) .nil (fun a _ r => .cons (a.mono hs) r) h
inductive NextV (w : World) (R : List (Addr × Obj)) (kvs : List (Int × Value)) (bs : List Addr) (cnt : Nat) : Value → List Kid → Prop
  | one {v : Value} {k : Kid} : KidV w R kvs bs cnt v k → k ≠ .odd → NextV w R kvs bs cnt v [k]
  | row {a : Addr} {vs : List Value} {n : Nat} {ks : List Kid} : (a, listOf vs.toArray n) ∈ R → KidsV w R kvs bs cnt vs ks → vs.length ≤ 2 → ks ≠ [] → NextV w R kvs bs cnt (.ref a) ks
theorem NextV.mono {w : World} {R R' : List (Addr × Obj)} {kvs : List (Int × Value)} {bs : List Addr} {cnt : Nat} (hs : ∀ p ∈ R, p ∈ R') {v : Value} {ks : List Kid} (h : NextV w R kvs bs cnt v ks) : NextV w R' kvs bs cnt v ks := by
  cases h with
  | one h a => exact .one (h.mono hs) a
  | row a h b c => exact .row (hs _ a) (h.mono hs) b c
noncomputable def HeadAt (w : World) (R : List (Addr × Obj)) (kvs : List (Int × Value)) (bs : List Addr) (cnt : Nat) (h : Head) : Prop :=
  (∃ t n, (h.tup, tupOf #[.int 0 t, .ref h.b] n) ∈ R) ∧ h.o.IsDictOf (PySem.strKind prg w) h.es ∧ (h.b == sysModules) = false ∧
  ((BaseEs w R h.es ∧ h.kids = []) ∨ ∃ es vN, h.es = es ++ [(Str.ofString "Next", vN)] ∧ BaseEs w R es ∧ NextV w R kvs bs cnt vN h.kids)
theorem HeadAt.mono {w : World} {R R' : List (Addr × Obj)} {kvs : List (Int × Value)} {bs : List Addr} {cnt : Nat} (hs : ∀ p ∈ R, p ∈ R') {h : Head} (x : HeadAt w R kvs bs cnt h) : HeadAt w R' kvs bs cnt h := by
  obtain ⟨⟨t, n, a⟩, b, c, d⟩ := x
  refine ⟨⟨t, n, hs _ a⟩, b, c, ?_⟩
  rcases d with ⟨d, e⟩ | ⟨es, vN, d, e, f⟩
  · exact .inl ⟨d.mono hs, e⟩
  · exact .inr ⟨es, vN, d, e.mono hs, f.mono hs⟩
noncomputable def graphOf (hs : List Head) (b : Addr) : List Kid := match hs.find? (fun h => h.b == b) with
  | some h => h.kids
  | none => []
noncomputable def dictsOf (w : World) (R : List (Addr × Obj)) (hs : List Head) (b : Addr) : Prop := b ∈ hs.map (·.b) ∨ (OwnD w R b ∧ b ∉ hs.map (·.b))
theorem graph_own {hs : List Head} {b : Addr} (h : b ∉ hs.map (·.b)) : graphOf hs b = [] := by
  unfold graphOf
  have : hs.find? (fun h => h.b == b) = none := by
    rw [List.find?_eq_none]
    intro g hg e
    exact h (List.mem_map.mpr ⟨g, hg, beq_iff_eq.mp e⟩)
  rw [this]
theorem graph_head {hs : List Head} {h : Head} (hh : h ∈ hs) (hd : (hs.map (·.b)).Nodup) : graphOf hs h.b = h.kids := by
  unfold graphOf
  have : hs.find? (fun g => g.b == h.b) = some h := by
    induction hs with
    | nil => cases hh
    | cons g r ih =>
      rw [List.map_cons, List.nodup_cons] at hd
      rw [List.find?_cons]
      rcases List.mem_cons.mp hh with rfl | hh
      · simp
      · have : (g.b == h.b) = false := by
          rw [Bool.eq_false_iff]
          intro e
          exact hd.1 (List.mem_map.mpr ⟨h, hh, (beq_iff_eq.mp e).symm⟩)
        rw [this]
        exact ih hh hd.2
  rw [this]
theorem base_next {w : World} {R : List (Addr × Obj)} {es : List (Str × Value)} (h : BaseEs w R es) : valueAt es "Next" = none := by
  cases h <;> rfl
theorem base_next2 {w : World} {R : List (Addr × Obj)} {es : List (Str × Value)} {v : Value} (h : BaseEs w R es) : valueAt (es ++ [(Str.ofString "Next", v)]) "Next" = some v := by
  cases h <;> rfl
theorem KidV.at {w : World} {R : List (Addr × Obj)} {kvs : List (Int × Value)} {bs : List Addr} {cnt : Nat} {v : Value} {k : Kid} (h : KidV w R kvs bs cnt v k) : KidAt w R kvs v k := by
  cases h with
  | odd i t => exact .odd i t
  | own h h2 => exact .own _
  | hit h a b c => exact h
  | miss h a => exact h
theorem KidsV.ats {w : World} {R : List (Addr × Obj)} {kvs : List (Int × Value)} {bs : List Addr} {cnt : Nat} : ∀ {vs : List Value} {ks : List Kid}, KidsV w R kvs bs cnt vs ks → KidsAt w R kvs vs ks
  | _, _, .nil => .nil
  | _, _, .cons h r => .cons h.at (KidsV.ats r)
noncomputable def numsOf (cnt : Nat) : List Int := (List.range cnt).map fun (i : Nat) => (10 + (i : Int) : Int)
theorem mem_nums {cnt : Nat} {i : Int} : i ∈ numsOf cnt ↔ 10 ≤ i ∧ i < 10 + cnt := by
  unfold numsOf
  rw [List.mem_map]
  constructor
  · rintro ⟨j, hj, rfl⟩
    rw [List.mem_range] at hj
    omega
  · rintro ⟨h1, h2⟩
    exact ⟨(i - 10).toNat, by rw [List.mem_range]; omega, by omega⟩
theorem KidV.fine {w : World} {R : List (Addr × Obj)} {kvs : List (Int × Value)} {hs : List Head} {v : Value} {k : Kid} (h : KidV w R kvs (hs.map (·.b)) hs.length v k) : KidF (graphOf hs) (dictsOf w R hs) (numsOf hs.length) k := by
  cases h with
  | odd i t => exact ⟨trivial, trivial, trivial⟩
  | own h h2 => exact ⟨⟨.inr ⟨h, h2⟩, graph_own h2⟩, graph_own h2, trivial⟩
  | hit h a b c => exact ⟨.inl a, mem_nums.mpr ⟨b, c⟩, trivial⟩
  | miss h a => exact ⟨trivial, trivial, fun hm => by have := mem_nums.mp hm; omega⟩
theorem kqdOk_succ : ∀ (n : Nat) (d : Dat), kqdOk n d = true → kqdOk (n + 1) d = true
  | 0, d, h => by cases d <;> simp_all [kqdOk]
  | n + 1, d, h => by
    have ih := kqdOk_succ n
    cases d with
    | tuple ds => simp only [kqdOk, List.all_eq_true] at h ⊢; exact fun x hx => ih x (h x hx)
    | list ds => simp only [kqdOk, List.all_eq_true] at h ⊢; exact fun x hx => ih x (h x hx)
    | _ => simp_all [kqdOk]
structure Tellable (n k : Nat) (d : PD) : Prop where
  small : Small d
  sz : szD d ≤ k
  ok : kqdOk n (toldD d) = true
theorem Tellable.up {n k k' : Nat} {d : PD} (h : Tellable n k d) (hk : k ≤ k') : Tellable (n + 1) k' d := ⟨h.small, Nat.le_trans h.sz hk, kqdOk_succ _ _ h.ok⟩
theorem tl_int (i : Int) : Tellable 1 1 (.int i) := ⟨.int i, Nat.le_refl _, by simp [toldD, kqdOk]; decide +kernel⟩
theorem tl_name {x : Str} (h : PyData.strOk x = true) : Tellable 1 1 (.name x) := ⟨.name x, Nat.le_refl _, by simp [toldD, kqdOk, h]; decide +kernel⟩
theorem tl_ref (n g : Int) : Tellable 1 1 (.ref n g) := ⟨.ref n g, Nat.le_refl _, by simp [toldD, kqdOk]; decide +kernel⟩
theorem su2 {a b k1 k2 : Nat} (h1 : a ≤ k1) (h2 : b ≤ k2) : a + (b + 0) + 1 ≤ k1 + k2 + 1 := Nat.succ_le_succ (Nat.add_le_add h1 h2)
theorem su3 {a b c k1 k2 k3 : Nat} (h1 : a ≤ k1) (h2 : b ≤ k2) (h3 : c ≤ k3) : a + (b + (c + 0)) + 1 ≤ k1 + k2 + k3 + 1 := by rw [Nat.add_assoc k1]; exact Nat.succ_le_succ (Nat.add_le_add h1 (Nat.add_le_add h2 h3))
theorem su4 {a b c d k1 k2 k3 k4 : Nat} (h1 : a ≤ k1) (h2 : b ≤ k2) (h3 : c ≤ k3) (h4 : d ≤ k4) : a + (b + (c + (d + 0))) + 1 ≤ k1 + k2 + k3 + k4 + 1 := by rw [Nat.add_assoc k1, Nat.add_assoc k1]; exact Nat.succ_le_succ (Nat.add_le_add h1 (by rw [Nat.add_assoc k2]; exact Nat.add_le_add h2 (Nat.add_le_add h3 h4)))
theorem tl_arr1 {n k : Nat} {d : PD} (h : Tellable n k d) : Tellable (n + 1) (k + 1) (.arr [d]) := ⟨.arr1 h.small, by simp only [szD, szDs]; exact Nat.succ_le_succ h.sz, by
  have e : kqdOk n (.str "array") = true := by cases n <;> (simp only [kqdOk]; decide +kernel)
  simp [toldD, toldDs, kqdOk, h.ok, e]⟩
theorem tl_arr2 {n k1 k2 : Nat} {d e : PD} (h : Tellable n k1 d) (h2 : Tellable n k2 e) : Tellable (n + 1) (k1 + k2 + 1) (.arr [d, e]) := ⟨.arr2 h.small h2.small, by simp only [szD, szDs]; exact su2 h.sz h2.sz, by
  have e : kqdOk n (.str "array") = true := by cases n <;> (simp only [kqdOk]; decide +kernel)
  simp [toldD, toldDs, kqdOk, h.ok, h2.ok, e]⟩
section tldict
variable {n k1 k2 k3 k4 : Nat} {a : Addr} {s m d x : PD}
theorem str_ok1 : PyData.strOk "dict" = true ∧ PyData.strOk "D" = true ∧ PyData.strOk "M" = true ∧ PyData.strOk "Next" = true ∧ PyData.strOk "S" = true := by decide +kernel
theorem pair_ok {n : Nat} {x : Str} {d : Dat} (hx : kqdOk n (.str x) = true) (h : kqdOk n d = true) : kqdOk (n + 1) (.tuple [.str x, d]) = true := by simp [kqdOk, hx, h]
theorem tl_sm (hs : Tellable n k1 s) (hm : Tellable n k2 m) : Tellable (n + 2) (k1 + k2 + 1) (.dict a [("S", s), ("M", m)]) := ⟨.sm hs.small hm.small, by simp only [szD, szEs]; exact su2 hs.sz hm.sz, by
  have e : toldD (.dict a [("S", s), ("M", m)]) = .tuple [.str "dict", .tuple [.str "M", toldD m], .tuple [.str "S", toldD s]] := by rfl
  obtain ⟨e0, e1, e2, e3, e4⟩ := str_ok1
  rw [e]
  simp only [kqdOk, List.all_cons, List.all_nil, Bool.and_true, Bool.and_eq_true]
  exact ⟨e0, ⟨e2, hm.ok⟩, e4, hs.ok⟩⟩
theorem tl_smd (hs : Tellable n k1 s) (hm : Tellable n k2 m) (hd : Tellable n k3 d) : Tellable (n + 2) (k1 + k2 + k3 + 1) (.dict a [("S", s), ("M", m), ("D", d)]) := ⟨.smd hs.small hm.small hd.small, by simp only [szD, szEs]; exact su3 hs.sz hm.sz hd.sz, by
  have e : toldD (.dict a [("S", s), ("M", m), ("D", d)]) = .tuple [.str "dict", .tuple [.str "D", toldD d], .tuple [.str "M", toldD m], .tuple [.str "S", toldD s]] := by rfl
  obtain ⟨e0, e1, e2, e3, e4⟩ := str_ok1
  rw [e]
  simp only [kqdOk, List.all_cons, List.all_nil, Bool.and_true, Bool.and_eq_true]
  exact ⟨e0, ⟨e1, hd.ok⟩, ⟨e2, hm.ok⟩, e4, hs.ok⟩⟩
theorem tl_smn (hs : Tellable n k1 s) (hm : Tellable n k2 m) (hd : Tellable n k3 x) : Tellable (n + 2) (k1 + k2 + k3 + 1) (.dict a [("S", s), ("M", m), ("Next", x)]) := ⟨.smn hs.small hm.small hd.small, by simp only [szD, szEs]; exact su3 hs.sz hm.sz hd.sz, by
  have e : toldD (.dict a [("S", s), ("M", m), ("Next", x)]) = .tuple [.str "dict", .tuple [.str "M", toldD m], .tuple [.str "Next", toldD x], .tuple [.str "S", toldD s]] := by rfl
  obtain ⟨e0, e1, e2, e3, e4⟩ := str_ok1
  rw [e]
  simp only [kqdOk, List.all_cons, List.all_nil, Bool.and_true, Bool.and_eq_true]
  exact ⟨e0, ⟨e2, hm.ok⟩, ⟨e3, hd.ok⟩, e4, hs.ok⟩⟩
theorem tl_smdn (hs : Tellable n k1 s) (hm : Tellable n k2 m) (hd : Tellable n k3 d) (hx : Tellable n k4 x) : Tellable (n + 2) (k1 + k2 + k3 + k4 + 1) (.dict a [("S", s), ("M", m), ("D", d), ("Next", x)]) := ⟨.smdn hs.small hm.small hd.small hx.small, by simp only [szD, szEs]; exact su4 hs.sz hm.sz hd.sz hx.sz, by
  have e : toldD (.dict a [("S", s), ("M", m), ("D", d), ("Next", x)]) = .tuple [.str "dict", .tuple [.str "D", toldD d], .tuple [.str "M", toldD m], .tuple [.str "Next", toldD x], .tuple [.str "S", toldD s]] := by rfl
  obtain ⟨e0, e1, e2, e3, e4⟩ := str_ok1
  rw [e]
  simp only [kqdOk, List.all_cons, List.all_nil, Bool.and_true, Bool.and_eq_true]
  exact ⟨e0, ⟨e1, hd.ok⟩, ⟨e2, hm.ok⟩, ⟨e3, hx.ok⟩, e4, hs.ok⟩⟩
end tldict
theorem ownD_val {w : World} {R : List (Addr × Obj)} {b : Addr} (h : OwnD w R b) : ∃ es, ValIn w R (.ref b) (.dict b es) ∧ Tellable 3 3 (.dict b es) := by
  obtain ⟨o, v, x, i, t, h1, h2, h3, h4, h5⟩ := h
  exact ⟨_, .dict h1 h2 h3 (.cons h4 (.cons (.int i t) .nil)), tl_sm (tl_name h5) (tl_int _)⟩
theorem KidV.val {w : World} {R : List (Addr × Obj)} {kvs : List (Int × Value)} {bs : List Addr} {cnt : Nat} {v : Value} {k : Kid} (h : KidV w R kvs bs cnt v k) : ∃ d, ValIn w R v d ∧ Tellable 3 3 d := by
  cases h with
  | odd i t => exact ⟨_, .int i t, ((tl_int i).up (Nat.le_succ _)).up (Nat.le_succ _)⟩
  | own h h2 => obtain ⟨es, a, b⟩ := ownD_val h; exact ⟨_, a, b⟩
  | hit h a b c =>
    cases h with
    | hit h1 h2 h3 h4 => exact ⟨_, .ref _ _ h1 h2, ((tl_ref _ _).up (Nat.le_succ _)).up (Nat.le_succ _)⟩
  | miss h a =>
    cases h with
    | miss h1 h2 h3 => exact ⟨_, .ref _ _ h1 h2, ((tl_ref _ _).up (Nat.le_succ _)).up (Nat.le_succ _)⟩
theorem NextV.val {w : World} {R : List (Addr × Obj)} {kvs : List (Int × Value)} {bs : List Addr} {cnt : Nat} {v : Value} {ks : List Kid} (h : NextV w R kvs bs cnt v ks) : ∃ d, ValIn w R v d ∧ Tellable 4 7 d := by
  cases h with
  | one h _ => obtain ⟨d, a, b⟩ := h.val; exact ⟨d, a, b.up (by decide)⟩
  | row a h b c =>
    cases h with
    | nil => exact absurd rfl c
    | cons h1 r =>
      obtain ⟨d1, v1, s1⟩ := h1.val
      cases r with
      | nil => exact ⟨_, .arr a (.cons v1 .nil), ⟨(tl_arr1 s1).small, Nat.le_trans (tl_arr1 s1).sz (by decide), (tl_arr1 s1).ok⟩⟩
      | cons h2 r =>
        obtain ⟨d2, v2, s2⟩ := h2.val
        cases r with
        | nil => exact ⟨_, .arr a (.cons v1 (.cons v2 .nil)), tl_arr2 s1 s2⟩
        | cons h3 r => simp only [List.length_cons] at b; omega
theorem DSome.val {w : World} {R : List (Addr × Obj)} {v : Value} (h : DSome w R v) : ∃ d, ValIn w R v d ∧ Tellable 4 7 d := by
  have e : PyData.strOk "none" = true := by decide +kernel
  have e2 : PyData.strOk "Fit" = true := by decide +kernel
  cases h with
  | name h => exact ⟨_, h, (((tl_name e).up (k' := 7) (by decide)).up (Nat.le_refl _)).up (Nat.le_refl _)⟩
  | arr h => exact ⟨_, h, ((tl_arr2 (tl_ref _ _) (tl_name e2)).up (k' := 7) (by decide)).up (Nat.le_refl _)⟩
theorem HeadAt.val {w : World} {R : List (Addr × Obj)} {kvs : List (Int × Value)} {bs : List Addr} {cnt : Nat} {h : Head} (x : HeadAt w R kvs bs cnt h) (hb : (h.b, h.o) ∈ R) : ∃ es, ValIn w R (.ref h.b) (.dict h.b es) ∧ Tellable 6 17 (.dict h.b es) := by
  obtain ⟨_, hd, lo, hc⟩ := x
  have up3 : ∀ {d : PD}, Tellable 1 1 d → Tellable 4 1 d := fun h => ((h.up (Nat.le_refl _)).up (Nat.le_refl _)).up (Nat.le_refl _)
  have le17 : ∀ {d : PD} {k : Nat}, k ≤ 17 → Tellable 6 k d → Tellable 6 17 d := fun hk h => ⟨h.small, Nat.le_trans h.sz hk, h.ok⟩
  rcases hc with ⟨hB, _⟩ | ⟨es, vN, he, hB, hN⟩
  · generalize eE : h.es = es at hd hB
    cases hB with
    | sm hx h1 => exact ⟨_, .dict hb hd lo (.cons h1 (.cons (.int _ _) .nil)), le17 (by decide) (tl_sm (up3 (tl_name hx)) (up3 (tl_int _)))⟩
    | smd hx h1 h2 =>
      obtain ⟨d, v, s⟩ := h2.val
      exact ⟨_, .dict hb hd lo (.cons h1 (.cons (.int _ _) (.cons v .nil))), le17 (by decide) (tl_smd (up3 (tl_name hx)) (up3 (tl_int _)) s)⟩
  · rw [he] at hd
    obtain ⟨dN, vn, sn⟩ := hN.val
    cases hB with
    | sm hx h1 => exact ⟨_, .dict hb hd lo (.cons h1 (.cons (.int _ _) (.cons vn .nil))), le17 (by decide) (tl_smn (up3 (tl_name hx)) (up3 (tl_int _)) sn)⟩
    | smd hx h1 h2 =>
      obtain ⟨d, v, s⟩ := h2.val
      exact ⟨_, .dict hb hd lo (.cons h1 (.cons (.int _ _) (.cons v (.cons vn .nil)))), le17 (by decide) (tl_smdn (up3 (tl_name hx)) (up3 (tl_int _)) s sn)⟩
theorem DSome.kind {w : World} {R : List (Addr × Obj)} {v : Value} (h : DSome w R v) : ∃ b, DKind w R v b := by
  cases h with
  | name h => exact ⟨_, .name h⟩
  | arr h => exact ⟨_, .arr h⟩
theorem HeadAt.act {w : World} {R : List (Addr × Obj)} {kvs : List (Int × Value)} {bs : List Addr} {cnt : Nat} {h : Head} (x : HeadAt w R kvs bs cnt h) (hb : (h.b, h.o) ∈ R) : ∃ g d, ActD w R h.b g d := by
  obtain ⟨_, hd, lo, hc⟩ := x
  rcases hc with ⟨hB, _⟩ | ⟨es, vN, he, hB, hN⟩
  · generalize eE : h.es = es at hd hB
    cases hB with
    | sm hx h1 => exact ⟨_, _, _, _, _, _, hb, hd, lo, rfl, h1, rfl, .none⟩
    | smd hx h1 h2 =>
      obtain ⟨d, hk⟩ := h2.kind
      exact ⟨_, d, _, _, _, _, hb, hd, lo, rfl, h1, rfl, hk⟩
  · rw [he] at hd
    cases hB with
    | sm hx h1 => exact ⟨_, _, _, _, _, _, hb, hd, lo, rfl, h1, rfl, .none⟩
    | smd hx h1 h2 =>
      obtain ⟨d, hk⟩ := h2.kind
      exact ⟨_, d, _, _, _, _, hb, hd, lo, rfl, h1, rfl, hk⟩
theorem ownD_act {w : World} {R : List (Addr × Obj)} {b : Addr} (h : OwnD w R b) : ∃ g d, ActD w R b g d := by
  obtain ⟨o, v, x, i, t, h1, h2, h3, h4, h5⟩ := h
  exact ⟨_, _, _, _, _, _, h1, h2, h3, rfl, h4, rfl, .none⟩
theorem NextV.at {w : World} {R : List (Addr × Obj)} {kvs : List (Int × Value)} {bs : List Addr} {cnt : Nat} {v : Value} {ks : List Kid} {es : List (Str × Value)} (h : NextV w R kvs bs cnt v ks) (e : valueAt es "Next" = some v) : NextAt w R kvs es ks := by
  cases h with
  | one h hn =>
    cases h with
    | odd i t => exact absurd rfl hn
    | own h h2 => exact .own e
    | hit h a b c => exact .ref e h
    | miss h a => exact .ref e h
  | row a h b c => exact .row e a h.ats b c
theorem NextV.fine {w : World} {R : List (Addr × Obj)} {kvs : List (Int × Value)} {hs : List Head} {v : Value} {ks : List Kid} (h : NextV w R kvs (hs.map (·.b)) hs.length v ks) : ks.length ≤ 2 ∧ ∀ k ∈ ks, KidF (graphOf hs) (dictsOf w R hs) (numsOf hs.length) k := by
  cases h with
  | one h _ => exact ⟨Nat.le_succ _, fun k hk => by rw [List.mem_singleton.mp hk]; exact h.fine⟩
  | row a h b c =>
    refine ⟨by rw [← h.ats.length]; exact b, ?_⟩
    clear c b a
    induction h with
    | nil => exact fun _ h => nomatch h
    | cons h1 r ih => exact List.forall_mem_cons.mpr ⟨h1.fine, ih⟩
theorem shelf_graph {w : World} {R : List (Addr × Obj)} {kvs : List (Int × Value)} {hs : List Head} (hH : ∀ h ∈ hs, HeadAt w R kvs (hs.map (·.b)) hs.length h) (hb : ∀ h ∈ hs, (h.b, h.o) ∈ R) (hnd : (hs.map (·.b)).Nodup) :
    GraphAt w R kvs (graphOf hs) (dictsOf w R hs) ∧ (∀ b, dictsOf w R hs b → ∃ es, ValIn w R (.ref b) (.dict b es) ∧ Tellable 6 17 (.dict b es)) ∧ (∀ b, dictsOf w R hs b → ∃ g d, ActD w R b g d) ∧
    (∀ b, ∀ k ∈ graphOf hs b, KidF (graphOf hs) (dictsOf w R hs) (numsOf hs.length) k) ∧ ∀ b, (graphOf hs b).length ≤ 2 := by
  have kids : ∀ h ∈ hs, h.kids.length ≤ 2 ∧ ∀ k ∈ h.kids, KidF (graphOf hs) (dictsOf w R hs) (numsOf hs.length) k := fun h hh => by
    obtain ⟨_, _, _, hc⟩ := hH h hh
    rcases hc with ⟨_, e⟩ | ⟨es, vN, _, _, hN⟩
    · rw [e]; exact ⟨Nat.zero_le _, fun _ h => nomatch h⟩
    · exact hN.fine
  have gcase : ∀ b, graphOf hs b = [] ∨ ∃ h ∈ hs, h.b = b ∧ graphOf hs b = h.kids := fun b => by
    by_cases e : b ∈ hs.map (·.b)
    · obtain ⟨h, hh, rfl⟩ := List.mem_map.mp e
      exact .inr ⟨h, hh, rfl, graph_head hh hnd⟩
    · exact .inl (graph_own e)
  refine ⟨fun b hD => ⟨?_, ?_⟩, fun b hD => ?_, fun b hD => ?_, fun b k hk => ?_, fun b => ?_⟩
  · rcases hD with hD | ⟨hD, hn⟩
    · obtain ⟨h, hh, rfl⟩ := List.mem_map.mp hD
      rw [show DictG w R kvs (graphOf hs) h.b = (∃ o es, (h.b, o) ∈ R ∧ o.IsDictOf (PySem.strKind prg w) es ∧ (h.b == sysModules) = false ∧ NextAt w R kvs es (graphOf hs h.b)) from rfl, graph_head hh hnd]
      obtain ⟨_, hd, lo, hc⟩ := hH h hh
      rcases hc with ⟨hB, e⟩ | ⟨es, vN, he, hB, hN⟩
      · exact ⟨_, _, hb h hh, hd, lo, by rw [e]; exact .none (base_next hB)⟩
      · exact ⟨_, _, hb h hh, hd, lo, hN.at (by rw [he]; exact base_next2 hB)⟩
    · obtain ⟨o, v, x, i, t, h1, h2, h3, h4, h5⟩ := hD
      exact ⟨o, _, h1, h2, h3, by rw [graph_own hn]; exact .none rfl⟩
  · intro k hk
    rcases gcase b with e | ⟨h, hh, _, e⟩
    · rw [e] at hk; cases hk
    · rw [e] at hk; exact ((kids h hh).2 k hk).1
  · rcases hD with hD | ⟨hD, _⟩
    · obtain ⟨h, hh, rfl⟩ := List.mem_map.mp hD
      exact (hH h hh).val (hb h hh)
    · obtain ⟨es, a, b⟩ := ownD_val hD
      exact ⟨es, a, ((b.up (k' := 17) (by decide)).up (Nat.le_refl _)).up (Nat.le_refl _)⟩
  · rcases hD with hD | ⟨hD, _⟩
    · obtain ⟨h, hh, rfl⟩ := List.mem_map.mp hD
      exact (hH h hh).act (hb h hh)
    · exact ownD_act hD
  · rcases gcase b with e | ⟨h, hh, _, e⟩
    · rw [e] at hk; cases hk
    · rw [e] at hk; exact (kids h hh).2 k hk
  · rcases gcase b with e | ⟨h, hh, _, e⟩
    · rw [e]; exact Nat.zero_le _
    · rw [e]; exact (kids h hh).1
set_option genInjectivity false in
set_option genSizeOf false in
structure ShSt where
  n : Int
  k : Int
  t1 : Tok
  t2 : Tok
  otb : Obj
  hs : List Head
  fix : List (Addr × Obj)
noncomputable def shLed (pen tb : Addr) (c : Nat) (s : ShSt) : List (Addr × Obj) := (pen, listOf #[.int s.n s.t1, .int s.k s.t2] c) :: (tb, s.otb) :: (hled s.hs ++ s.fix)
noncomputable def ShBase (w : World) (fix : List (Addr × Obj)) (t1 : Addr) : Prop :=
  ∃ (d1 : Addr) (od1 : Obj) (v1 : Value) (u1 : Tok) (n2 : Nat), (t1, tupOf #[.int 0 u1, .ref d1] n2) ∈ fix ∧ (d1, od1) ∈ fix ∧ od1.IsDictOf (PySem.strKind prg w) [("Pages", v1)] ∧ (d1 == sysModules) = false
theorem ShBase.mono {w : World} {fix fix' : List (Addr × Obj)} (hs : ∀ p ∈ fix, p ∈ fix') {t1 : Addr} (h : ShBase w fix t1) : ShBase w fix' t1 := by
  obtain ⟨d1, od1, v1, u1, n2, a, b, c, d⟩ := h
  exact ⟨d1, od1, v1, u1, n2, hs _ a, hs _ b, c, d⟩
noncomputable def Dist (l : List (Addr × Obj)) : Prop := l.Pairwise fun p q => p.1 ≠ q.1
noncomputable def HeadB (w : World) (R : List (Addr × Obj)) (h : Head) : Prop :=
  (∃ t n, (h.tup, tupOf #[.int 0 t, .ref h.b] n) ∈ R) ∧ h.o.IsDictOf (PySem.strKind prg w) h.es ∧ (h.b == sysModules) = false ∧ BaseEs w R h.es ∧ h.kids = []
theorem HeadB.mono {w : World} {R R' : List (Addr × Obj)} (hs : ∀ p ∈ R, p ∈ R') {h : Head} (x : HeadB w R h) : HeadB w R' h := by
  obtain ⟨⟨t, n, a⟩, b, c, d, e⟩ := x
  exact ⟨⟨t, n, hs _ a⟩, b, c, d.mono hs, e⟩
theorem HeadB.at {w : World} {R : List (Addr × Obj)} {kvs : List (Int × Value)} {bs : List Addr} {cnt : Nat} {h : Head} (x : HeadB w R h) : HeadAt w R kvs bs cnt h := ⟨x.1, x.2.1, x.2.2.1, .inl x.2.2.2⟩
structure sh1P (w : World) (pen tb t1 t2 t3 : Addr) (c : Nat) (news : List (Addr × Obj)) (i : Nat) (s : ShSt) : Prop where
  a1 : 0 ≤ s.k
  a2 : s.k ≤ 1 + 3 * i
  a3 : s.hs.length = i
  a4 : s.otb.IsDictOf (PySem.intKind prg w) (kvs0 t1 t2 t3 ++ rowsFrom 10 s.hs)
  a5 : ShBase w s.fix t1
  a6 : Dist (shLed pen tb c s)
  a7 : (∀ p ∈ news, p ∈ s.fix)
  a8 : ∀ h ∈ s.hs, HeadB w s.fix h ∧ @LT.lt Nat _ pen h.b
theorem small_range : ∀ cnt : Nat, cnt ≤ 5 → Builtin.Range.small 0 cnt 1 = true ∧ Builtin.Range.rangeSize 0 cnt 1 = (cnt : Int) := by decide +kernel
theorem dist_filter {l : List (Addr × Obj)} {h₀ h : Heap} {L : Addr} (N : News h₀ L h l) : ∃ l', (∀ p ∈ l, p ∈ l') ∧ (∀ p ∈ l', p ∈ l) ∧ Dist l' := by
  induction l with
  | nil => exact ⟨[], fun _ h => h, fun _ h => h, List.Pairwise.nil⟩
  | cons p l ih =>
    obtain ⟨l', a, b, c⟩ := ih fun q hq => N q (.tail _ hq)
    by_cases e : ∃ q ∈ l', q.1 = p.1
    · obtain ⟨q, hq, e⟩ := e
      have h1 := (N q (.tail _ (b q hq))).1
      have h2 := (N p (.head _)).1
      rw [e, h2] at h1
      have : q = p := Prod.ext e (Option.some.inj h1).symm
      subst this
      refine ⟨l', fun r hr => ?_, fun r hr => .tail _ (b r hr), c⟩
      rcases List.mem_cons.mp hr with rfl | hr
      · exact hq
      · exact a r hr
    · refine ⟨p :: l', fun r hr => ?_, fun r hr => ?_, List.pairwise_cons.mpr ⟨fun q hq e2 => e ⟨q, hq, e2.symm⟩, c⟩⟩
      · rcases List.mem_cons.mp hr with rfl | hr
        · exact .head _
        · exact .tail _ (a r hr)
      · rcases List.mem_cons.mp hr with rfl | hr
        · exact .head _
        · exact .tail _ (b r hr)
theorem sh_pack {w : World} {g h : Heap} {L pen tb t1 t2 t3 d1 : Addr} {n k : Int} {u t1' t2' tc : Tok} {c n2 : Nat} {ci : Int} {m' : Str → Option Value} {full news : List (Addr × Obj)} {otb od1 : Obj} {v1 : Value}
    (lF : Fr g L h m') (e1 : m' "pen" = some (.ref pen)) (e2 : m' "table" = some (.ref tb)) (e3 : m' "count" = some (.int ci tc)) (lN : News g L h full)
    (hp : (pen, listOf #[.int n t1', .int k t2'] c) ∈ full) (ht : (tb, otb) ∈ full) (hd : otb.IsDictOf (PySem.intKind prg w) (kvs0 t1 t2 t3)) (lo : (tb == sysModules) = false)
    (h1 : (t1, tupOf #[.int 0 u, .ref d1] n2) ∈ full) (h2 : (d1, od1) ∈ full) (hd1 : od1.IsDictOf (PySem.strKind prg w) [("Pages", v1)]) (lo1 : (d1 == sysModules) = false)
    (ne1 : @Ne Nat t1 pen) (ne2 : @Ne Nat t1 tb) (ne3 : @Ne Nat d1 pen) (ne4 : @Ne Nat d1 tb) (lt5 : @LT.lt Nat _ pen tb) (hk0 : 0 ≤ k) (hk1 : k ≤ 1) (hc0 : 1 ≤ ci) (hc1 : ci ≤ 5)
    (hin : ∀ p ∈ news, p ∈ full) (hnp : ∀ p ∈ news, p.1 ≠ pen) (hnt : ∀ p ∈ news, p.1 ≠ tb) :
    ∃ (cnt : Nat) (tb t1 t2 t3 : Addr) (s : ShSt), @LT.lt Nat _ pen tb ∧ ci = cnt ∧ 1 ≤ cnt ∧ cnt ≤ 5 ∧ (tb == sysModules) = false ∧ m' "pen" = some (.ref pen) ∧ m' "table" = some (.ref tb) ∧ (∃ tc : Tok, m' "count" = some (.int ci tc)) ∧ (∀ p ∈ shLed pen tb c s, p ∈ full) ∧ sh1P w pen tb t1 t2 t3 c news 0 s := by
  obtain ⟨cnt, hcnt⟩ : ∃ cnt : Nat, ci = cnt := ⟨ci.toNat, by omega⟩
  obtain ⟨l, ha, hb, hc⟩ := dist_filter lN
  have memf : ∀ p ∈ l, p.1 ≠ pen → p.1 ≠ tb → p ∈ l.filter (fun p => p.1 != pen && p.1 != tb) := fun p hp a b => List.mem_filter.mpr ⟨hp, by simp [a, b]⟩
  have off : ∀ p ∈ l.filter (fun p => p.1 != pen && p.1 != tb), p.1 ≠ pen ∧ p.1 ≠ tb := fun p hp => by
    have := (List.mem_filter.mp hp).2
    simpa using this
  refine ⟨cnt, tb, t1, t2, t3, ⟨n, k, t1', t2', otb, [], l.filter (fun p => p.1 != pen && p.1 != tb)⟩, lt5, hcnt, by omega, by omega, lo, e1, e2, ⟨_, e3⟩, ?_, hk0, by simpa using hk1, rfl, by simpa [rowsFrom] using hd, ⟨d1, od1, v1, u, n2, memf _ (ha _ h1) ne1 ne2, memf _ (ha _ h2) ne3 ne4, hd1, lo1⟩, ?_, fun p hp => memf _ (ha _ (hin p hp)) (hnp p hp) (hnt p hp), fun _ h => nomatch h⟩
  · exact sub_cons hp (sub_cons ht (sub_app sub_nil fun p hp => hb _ (List.mem_filter.mp hp).1))
  · refine List.pairwise_cons.mpr ⟨fun q hq => ?_, List.pairwise_cons.mpr ⟨fun q hq => ?_, ?_⟩⟩
    · rcases List.mem_cons.mp hq with rfl | hq
      · exact Nat.ne_of_lt lt5
      · exact (off q (by simpa [hled] using hq)).1.symm
    · exact (off q (by simpa [hled] using hq)).2.symm
    · exact List.Pairwise.filter _ hc
theorem sh_open {pen tb : Addr} {c : Nat} {s : ShSt} {own : List (Addr × Obj)} (hd : Dist (shLed pen tb c s)) (hsep : ∀ p ∈ shLed pen tb c s, ∀ q ∈ own, p.1 ≠ q.1) :
    (∀ p ∈ (hled s.hs ++ s.fix) ++ own, p.1 ≠ pen) ∧ (∀ p ∈ (hled s.hs ++ s.fix) ++ own, p.1 ≠ tb) := by
  have h1 := List.pairwise_cons.mp hd
  have h2 := List.pairwise_cons.mp h1.2
  refine ⟨fun p hp => ?_, fun p hp => ?_⟩
  · rcases List.mem_append.mp hp with hp | hp
    · exact (h1.1 p (.tail _ hp)).symm
    · exact (hsep _ (.head _) p hp).symm
  · rcases List.mem_append.mp hp with hp | hp
    · exact (h2.1 p hp).symm
    · exact (hsep _ (.tail _ (.head _)) p hp).symm
section items
variable {w : World} {A : Around} {E : Value → Shared → Prop} {s : Shared} {value slice : PySem.Expr} {h₀ : Heap} {L l : Addr} {n : Nat} {news : List (Addr × Obj)} {k : Int} {u : Tok} {Q : Value → Shared → Prop}
theorem itemT2 {a b : Value} (N : News h₀ L s.heap news) (hm : (l, tupOf #[a, b] n) ∈ news) (h0 : 0 ≤ k) (h1 : k < 2) (h : ∀ v, v = a ∨ v = b → Q v s)
    (hs : subscripted slice false (.ref l) (.int k u) = operate [.ref l, .int k u] (getItem (.ref l) (.int k u)) := by with_unfolding_all rfl) :
    wpAny (model prg w) A (subscriptTail value slice (.ref l) (.int k u)) Q E s := by
  have ht : IsTup s.heap l #[a, b] := ⟨_, (N _ hm).1, rfl, _, rfl⟩
  have hk : k = 0 ∨ k = 1 := by omega
  rcases hk with rfl | rfl
  · exact tail_any ht.typeIs slot_tuple_getitem.lookup (PyProof.Rows.getItem_tuple (j := 0) ht (by decide) (by decide) rfl rfl (h _ (.inl rfl))) hs
  · exact tail_any ht.typeIs slot_tuple_getitem.lookup (PyProof.Rows.getItem_tuple (j := 1) ht (by decide) (by decide) rfl rfl (h _ (.inr rfl))) hs
theorem itemT2s {x y : Str} {tx ty : Tok} (N : News h₀ L s.heap news) (hm : (l, tupOf #[.str x tx, .str y ty] n) ∈ news) (h0 : 0 ≤ k) (h1 : k < 2) (hx : PyData.strOk x = true) (hy : PyData.strOk y = true) (h : ∀ z t, PyData.strOk z = true → Q (.str z t) s)
    (hs : subscripted slice false (.ref l) (.int k u) = operate [.ref l, .int k u] (getItem (.ref l) (.int k u)) := by with_unfolding_all rfl) :
    wpAny (model prg w) A (subscriptTail value slice (.ref l) (.int k u)) Q E s :=
  itemT2 N hm h0 h1 (fun v hv => by rcases hv with rfl | rfl <;> exact h _ _ (by assumption)) hs
theorem itemL2 {a b : Value} (N : News h₀ L s.heap news) (hm : (l, listOf #[a, b] n) ∈ news) (h0 : 0 ≤ k) (h1 : k < 2) (h : ∀ v, v = a ∨ v = b → Q v s)
    (hs : subscripted slice false (.ref l) (.int k u) = operate [.ref l, .int k u] (getItem (.ref l) (.int k u)) := by with_unfolding_all rfl) :
    wpAny (model prg w) A (subscriptTail value slice (.ref l) (.int k u)) Q E s := by
  have hk : k = 0 ∨ k = 1 := by omega
  rcases hk with rfl | rfl
  · exact itemL (vs := [a, b]) N hm (by decide) (by decide) rfl (h _ (.inl rfl)) hs
  · exact itemL (vs := [a, b]) N hm (by decide) (by decide) rfl (h _ (.inr rfl)) hs
theorem itemL3 {a b c : Value} (N : News h₀ L s.heap news) (hm : (l, listOf #[a, b, c] n) ∈ news) (h0 : 0 ≤ k) (h1 : k < 3) (h : ∀ v, v = a ∨ v = b ∨ v = c → Q v s)
    (hs : subscripted slice false (.ref l) (.int k u) = operate [.ref l, .int k u] (getItem (.ref l) (.int k u)) := by with_unfolding_all rfl) :
    wpAny (model prg w) A (subscriptTail value slice (.ref l) (.int k u)) Q E s := by
  have hk : k = 0 ∨ k = 1 ∨ k = 2 := by omega
  rcases hk with rfl | rfl | rfl
  · exact itemL (vs := [a, b, c]) N hm (by decide) (by decide) rfl (h _ (.inl rfl)) hs
  · exact itemL (vs := [a, b, c]) N hm (by decide) (by decide) rfl (h _ (.inr (.inl rfl))) hs
  · exact itemL (vs := [a, b, c]) N hm (by decide) (by decide) rfl (h _ (.inr (.inr rfl))) hs
theorem gtB {M : Model} {d j : Int} {t v : Tok} {b : Bool} (e : decide (j < d) = b) (h : Q (.bool b) s) : wpAny (model prg w) A (compareOp .Gt (.int d t) (.int j v)) Q E s :=
  PyProof.Rows.gt_int (by rw [e]; exact h)
end items
theorem gtC {w : World} {A : Around} {E : Value → Shared → Prop} {s : Shared} {Q : Value → Shared → Prop} {d j : Int} {t v : Tok} (h : ∀ b, Q (.bool b) s) : wpAny (model prg w) A (compareOp .Gt (.int d t) (.int j v)) Q E s := PyProof.Rows.gt_int (h _)
theorem rows_len : ∀ (hs : List Head) (i : Int), (rowsFrom i hs).length = hs.length
  | [], _ => rfl
  | h :: r, i => by rw [rowsFrom, List.length_cons, rows_len r, List.length_cons]
theorem table_size {t1 t2 t3 : Addr} {hs : List Head} (h : hs.length ≤ 100) : (kvs0 t1 t2 t3 ++ rowsFrom 10 hs).length ≤ sizeLine := by
  rw [List.length_append, rows_len, sizeLine_eq]
  simp only [kvs0, List.length_cons, List.length_nil]
  omega
theorem stored_new {K : Type} [DecidableEq K] {kvs : List (K × Value)} {k : K} {v : Value} (h : valueAt kvs k = none) : stored kvs k v = kvs ++ [(k, v)] := by
  unfold stored
  have : kvs.any (fun kv => decide (kv.1 = k)) = false := by
    rw [Bool.eq_false_iff]
    intro e
    obtain ⟨kv, hm, he⟩ := List.any_eq_true.mp e
    unfold valueAt at h
    cases q : kvs.find? (fun kv => decide (kv.1 = k)) with
    | none => exact (List.find?_eq_none.mp q) kv hm he
    | some x => rw [q] at h; cases h
  rw [this]
  rfl
theorem dist_heads {pen tb : Addr} {o1 o2 o1' o2' : Obj} {l : List (Addr × Obj)} (h : Dist ((pen, o1) :: (tb, o2) :: l)) : Dist ((pen, o1') :: (tb, o2') :: l) := by
  have h1 := List.pairwise_cons.mp h
  have h2 := List.pairwise_cons.mp h1.2
  refine List.pairwise_cons.mpr ⟨fun q hq => ?_, List.pairwise_cons.mpr ⟨fun q hq => h2.1 q hq, h2.2⟩⟩
  rcases List.mem_cons.mp hq with rfl | hq
  · exact h1.1 (tb, o2) (.head _)
  · exact h1.1 q (.tail _ hq)
theorem sh1_close {w : World} {g h : Heap} {L pen tb t1 t2 t3 b tup : Addr} {c i nt : Nat} {n k n' k' : Int} {ta tb' tc td t0 : Tok} {otb o' ob : Obj} {hs : List Head} {fix own rest news full new : List (Addr × Obj)} {es : List (Str × Value)}
    (hP : sh1P w pen tb t1 t2 t3 c news i ⟨n, k, ta, tb', otb, hs, fix⟩) (hsep : ∀ p ∈ shLed pen tb c ⟨n, k, ta, tb', otb, hs, fix⟩, ∀ q ∈ own, p.1 ≠ q.1) (eR : (hled hs ++ fix) ++ own = rest)
    (N : News g L h full) (hpen : (pen, listOf #[.int n' tc, .int k' td] c) ∈ full) (ht : (tb, o') ∈ full) (hb : (b, ob) ∈ full) (hrest : ∀ p ∈ rest, p ∈ full) (hnewf : ∀ p ∈ new, p ∈ full)
    (hbp : @LT.lt Nat _ pen b) (hbt : @LT.lt Nat _ tb b) (hbr : AllLt b rest) (hnew : ∀ p ∈ new, @LT.lt Nat _ b p.1) (htup : (tup, tupOf #[.int 0 t0, .ref b] nt) ∈ new) (hob : ob.IsDictOf (PySem.strKind prg w) es) (lo : (b == sysModules) = false) (hB : BaseEs w new es)
    (hd : o'.IsDictOf (PySem.intKind prg w) (stored (kvs0 t1 t2 t3 ++ rowsFrom 10 hs) (10 + (0 + (i : Int))) (.ref tup))) (hk0 : 0 ≤ k') (hk1 : k' ≤ k + 3) :
    ∃ c' : ShSt, News g L h (shLed pen tb c c' ++ own) ∧ (∀ p ∈ shLed pen tb c c', ∀ q ∈ own, p.1 ≠ q.1) ∧ sh1P w pen tb t1 t2 t3 c news (i + 1) c' := by
  obtain ⟨a1, a2, a3, a4, a5, a6, a7, a8⟩ := hP
  dsimp only at a1 a2 a3 a4 a5 a7 a8
  subst eR
  have Nn : News g L h new := fun p hp => N p (hnewf p hp)
  obtain ⟨nd, n1, n2, n3⟩ := dist_filter Nn
  have ltR : ∀ q ∈ (hled hs ++ fix) ++ own, @LT.lt Nat _ q.1 b := ktn_ltOf hbr
  have ltN : ∀ p ∈ nd, @LT.lt Nat _ b p.1 := fun p hp => hnew p (n2 p hp)
  have inNew : ∀ p ∈ new, p ∈ nd ++ fix := fun p hp => List.mem_append.mpr (.inl (n1 p hp))
  have inFix : ∀ p ∈ fix, p ∈ nd ++ fix := fun p hp => List.mem_append.mpr (.inr hp)
  have hled' : hled (hs ++ [⟨b, ob, tup, es, []⟩]) = hled hs ++ [(b, ob)] := by simp [hled]
  have cases4 : ∀ p ∈ shLed pen tb c ⟨n', k', tc, td, o', hs ++ [⟨b, ob, tup, es, []⟩], nd ++ fix⟩, p = (pen, listOf #[.int n' tc, .int k' td] c) ∨ p = (tb, o') ∨ p ∈ hled hs ++ fix ∨ p = (b, ob) ∨ p ∈ nd := fun p hp => by
    unfold shLed at hp
    dsimp only at hp
    rw [hled'] at hp
    simp only [List.mem_cons, List.mem_append, List.not_mem_nil, or_false] at hp ⊢
    rcases hp with h | h | (h | h) | (h | h) <;> simp [h]
  refine ⟨⟨n', k', tc, td, o', hs ++ [⟨b, ob, tup, es, []⟩], nd ++ fix⟩, fun p hp => ?_, fun p hp q hq => ?_, hk0, by dsimp only; omega, by simp [a3], ?_, a5.mono inFix, ?_, fun p hp => inFix p (a7 p hp), ?_⟩
  · rcases List.mem_append.mp hp with hp | hp
    · rcases cases4 p hp with rfl | rfl | h | rfl | h
      · exact N _ hpen
      · exact N _ ht
      · exact N _ (hrest _ (List.mem_append.mpr (.inl h)))
      · exact N _ hb
      · exact N _ (hnewf _ (n2 _ h))
    · exact N _ (hrest _ (List.mem_append.mpr (.inr hp)))
  · have lq := ltR q (List.mem_append.mpr (.inr hq))
    rcases cases4 p hp with rfl | rfl | h | rfl | h
    · exact hsep _ (.head _) q hq
    · exact hsep _ (.tail _ (.head _)) q hq
    · exact hsep _ (.tail _ (.tail _ h)) q hq
    · exact Nat.ne_of_gt lq
    · exact Nat.ne_of_gt (Nat.lt_trans lq (ltN p h))
  · have hnone : valueAt (kvs0 t1 t2 t3 ++ rowsFrom 10 hs) (10 + (0 + (i : Int))) = none := by
      rw [kvs_at (by omega), rows_none (.inr (by omega))]
    rw [stored_new hnone, List.append_assoc] at hd
    dsimp only
    rw [rowsFrom_snoc, a3]
    have : (10 : Int) + (0 + (i : Int)) = 10 + (i : Int) := by omega
    rw [this] at hd
    exact hd
  · have perm : (shLed pen tb c ⟨n', k', tc, td, o', hs ++ [⟨b, ob, tup, es, []⟩], nd ++ fix⟩).Perm (((b, ob) :: nd) ++ ((pen, listOf #[.int n' tc, .int k' td] c) :: (tb, o') :: (hled hs ++ fix))) := by
      unfold shLed
      dsimp only
      rw [hled']
      refine .trans ?_ (List.perm_append_comm)
      rw [List.cons_append, List.cons_append]
      refine .cons _ (.cons _ ?_)
      rw [List.append_assoc, List.append_assoc]
      refine List.Perm.append_left _ ?_
      rw [List.singleton_append]
      refine .trans (.cons _ List.perm_append_comm) ?_
      exact (List.perm_middle).symm
    refine (List.Perm.pairwise_iff (fun {x y} h => Ne.symm h) perm).mpr (List.pairwise_append.mpr ⟨List.pairwise_cons.mpr ⟨fun q hq => Nat.ne_of_lt (ltN q hq), n3⟩, dist_heads a6, fun p hp q hq => ?_⟩)
    have lp : @LT.lt Nat _ q.1 b := by
      rcases List.mem_cons.mp hq with rfl | hq
      · exact hbp
      · rcases List.mem_cons.mp hq with rfl | hq
        · exact hbt
        · exact ltR q (List.mem_append.mpr (.inl hq))
    rcases List.mem_cons.mp hp with rfl | hp
    · exact Nat.ne_of_gt lp
    · exact Nat.ne_of_gt (Nat.lt_trans lp (ltN p hp))
  · intro x hx
    rcases List.mem_append.mp hx with hx | hx
    · exact ⟨(a8 x hx).1.mono inFix, (a8 x hx).2⟩
    · rw [List.mem_singleton.mp hx]
      exact ⟨⟨⟨t0, nt, inNew _ htup⟩, hob, lo, hB.mono inNew, rfl⟩, hbp⟩
structure sh2P (w : World) (pen tb t1 : Addr) (c : Nat) (news : List (Addr × Obj)) (otb : Obj) (bt : List (Addr × Addr)) (kvs : List (Int × Value)) (i : Nat) (s : ShSt) : Prop where
  a1 : 0 ≤ s.k
  a2 : s.k ≤ 20 + 10 * i
  a3 : s.otb = otb
  a4 : s.hs.map (fun h => (h.b, h.tup)) = bt
  a5 : ShBase w s.fix t1
  a6 : Dist (shLed pen tb c s)
  a7 : (∀ p ∈ news, p ∈ s.fix)
  a8 : (∀ h ∈ s.hs, @LT.lt Nat _ pen h.b)
  a9 : (∀ j h, s.hs[j]? = some h → j < i → HeadAt w s.fix kvs (bt.map (·.1)) bt.length h)
  a10 : ∀ j h, s.hs[j]? = some h → i ≤ j → HeadB w s.fix h
theorem sh2_init {w : World} {pen tb t1 t2 t3 : Addr} {c cnt : Nat} {news : List (Addr × Obj)} {s : ShSt} (hc : cnt ≤ 5) (h : sh1P w pen tb t1 t2 t3 c news cnt s) :
    s.hs.length = cnt ∧ s.otb.IsDictOf (PySem.intKind prg w) (kvs0 t1 t2 t3 ++ rowsFrom 10 s.hs) ∧ sh2P w pen tb t1 c news s.otb (s.hs.map (fun h => (h.b, h.tup))) (kvs0 t1 t2 t3 ++ rowsFrom 10 s.hs) 0 s := by
  obtain ⟨a1, a2, a3, a4, a5, a6, a7, a8⟩ := h
  exact ⟨a3, a4, a1, by omega, rfl, rfl, a5, a6, a7, fun h hh => (a8 h hh).2, fun _ _ _ h => absurd h (Nat.not_lt_zero _), fun j h e _ => (a8 h (List.mem_of_getElem? e)).1⟩
theorem sh2_open {w : World} {g hp : Heap} {L pen tb t1 : Addr} {c i : Nat} {news own : List (Addr × Obj)} {otb : Obj} {bt : List (Addr × Addr)} {kvs : List (Int × Value)} {s : ShSt} (hP : sh2P w pen tb t1 c news otb bt kvs i s) (hi : i < bt.length) (hsep : ∀ p ∈ shLed pen tb c s, ∀ q ∈ own, p.1 ≠ q.1) (N : News g L hp (shLed pen tb c s ++ own)) :
    ∃ pre h post, s.hs = pre ++ h :: post ∧ pre.length = i ∧ (h.b, h.tup) ∈ bt ∧ @LT.lt Nat _ pen h.b ∧ HeadB w s.fix h ∧ s.hs[i]? = some h ∧
      (∀ p ∈ (tb, s.otb) :: ((hled pre ++ hled post) ++ s.fix) ++ own, p.1 ≠ pen) ∧ (∀ p ∈ (tb, s.otb) :: ((hled pre ++ hled post) ++ s.fix) ++ own, p.1 ≠ h.b) ∧
      News g L hp ((pen, listOf #[.int s.n s.t1, .int s.k s.t2] c) :: (h.b, h.o) :: ((tb, s.otb) :: ((hled pre ++ hled post) ++ s.fix) ++ own)) := by
  obtain ⟨a1, a2, a3, a4, a5, a6, a7, a8, a9, a10⟩ := hP
  have hl : s.hs.length = bt.length := by rw [← a4, List.length_map]
  have hi' : i < s.hs.length := by omega
  obtain ⟨h, eh⟩ : ∃ h, s.hs[i]? = some h := ⟨_, List.getElem?_eq_getElem hi'⟩
  have split : s.hs = s.hs.take i ++ h :: s.hs.drop (i + 1) := by
    have e2 : s.hs.drop i = h :: s.hs.drop (i + 1) := by
      rw [List.drop_eq_getElem_cons hi']
      congr 1
      rw [List.getElem?_eq_getElem hi'] at eh
      exact Option.some.inj eh
    rw [← e2, List.take_append_drop]
  have hm : h ∈ s.hs := List.mem_of_getElem? eh
  have perm : (shLed pen tb c s).Perm ((pen, listOf #[.int s.n s.t1, .int s.k s.t2] c) :: (h.b, h.o) :: (tb, s.otb) :: ((hled (s.hs.take i) ++ hled (s.hs.drop (i + 1))) ++ s.fix)) := by
    unfold shLed
    refine .cons _ ?_
    refine .trans ?_ (List.Perm.swap _ _ _)
    refine .cons _ ?_
    have : hled s.hs = hled (s.hs.take i) ++ (h.b, h.o) :: hled (s.hs.drop (i + 1)) := by
      conv => lhs; rw [split]
      simp [hled]
    rw [this]
    rw [← List.cons_append]
    exact List.Perm.append_right _ List.perm_middle
  have hd := (List.Perm.pairwise_iff (fun {x y} h => Ne.symm h) perm).mp a6
  have d1 := List.pairwise_cons.mp hd
  have d2 := List.pairwise_cons.mp d1.2
  have inP : ∀ p ∈ (h.b, h.o) :: (tb, s.otb) :: ((hled (s.hs.take i) ++ hled (s.hs.drop (i + 1))) ++ s.fix), p ∈ shLed pen tb c s := fun p hp => perm.mem_iff.mpr (.tail _ hp)
  refine ⟨s.hs.take i, h, s.hs.drop (i + 1), split, by rw [List.length_take]; omega, by rw [← a4]; exact List.mem_map.mpr ⟨h, hm, rfl⟩, a8 h hm, a10 i h eh (Nat.le_refl _), eh, fun p hp => ?_, fun p hp => ?_, fun p hp => N p ?_⟩
  · rcases List.mem_append.mp hp with hp | hp
    · exact (d1.1 p (.tail _ hp)).symm
    · exact (hsep _ (.head _) p hp).symm
  · rcases List.mem_append.mp hp with hp | hp
    · exact (d2.1 p hp).symm
    · exact (hsep (h.b, h.o) (inP _ (.head _)) p hp).symm
  · rw [← List.cons_append, ← List.cons_append] at hp
    rcases List.mem_append.mp hp with hp | hp
    · exact List.mem_append.mpr (.inl (perm.mem_iff.mpr hp))
    · exact List.mem_append.mpr (.inr hp)
theorem eqC {w : World} {A : Around} {E : Value → Shared → Prop} {s : Shared} {Q : Value → Shared → Prop} {d j : Int} {t v : Tok} (h : ∀ b, Q (.bool b) s) : wpAny (model prg w) A (compareOp .Eq (.int d t) (.int j v)) Q E s := PyProof.Rows.eq_int (h _)
set_option genInjectivity false in
set_option genSizeOf false in
structure InSt where
  n : Int
  k : Int
  t1 : Tok
  t2 : Tok
  vs : List Value
  ck : Nat
  ks : List Kid
  nd : List (Addr × Obj)
noncomputable def inLed (pen rw : Addr) (c : Nat) (base : List (Addr × Obj)) (s : InSt) : List (Addr × Obj) := (pen, listOf #[.int s.n s.t1, .int s.k s.t2] c) :: (rw, listOf s.vs.toArray s.ck) :: (s.nd ++ base)
structure inP (w : World) (rw : Addr) (R : List (Addr × Obj)) (kvs : List (Int × Value)) (bs : List Addr) (cnt : Nat) (kb : Int) (j : Nat) (s : InSt) : Prop where
  a1 : 0 ≤ s.k
  a2 : s.k ≤ kb + 4 * j
  a3 : s.vs.length = j
  a4 : (∀ p ∈ s.nd, @LT.lt Nat _ rw p.1)
  a5 : KidsV w (s.nd ++ R) kvs bs cnt s.vs s.ks
theorem in_open {pen rw : Addr} {c : Nat} {base own : List (Addr × Obj)} {s : InSt} (hb : ∀ p ∈ base, @LT.lt Nat _ p.1 rw) (hpb : ∀ p ∈ base, p.1 ≠ pen) (hpr : @LT.lt Nat _ pen rw) (hnd : ∀ p ∈ s.nd, @LT.lt Nat _ rw p.1) (hsep : ∀ p ∈ inLed pen rw c base s, ∀ q ∈ own, p.1 ≠ q.1) :
    (∀ p ∈ (s.nd ++ base) ++ own, p.1 ≠ pen) ∧ (∀ p ∈ (s.nd ++ base) ++ own, p.1 ≠ rw) := by
  refine ⟨fun p hp => ?_, fun p hp => ?_⟩
  · rcases List.mem_append.mp hp with hp | hp
    · rcases List.mem_append.mp hp with hp | hp
      · exact Nat.ne_of_gt (Nat.lt_trans hpr (hnd p hp))
      · exact hpb p hp
    · exact (hsep _ (.head _) p hp).symm
  · rcases List.mem_append.mp hp with hp | hp
    · rcases List.mem_append.mp hp with hp | hp
      · exact Nat.ne_of_gt (hnd p hp)
      · exact Nat.ne_of_lt (hb p hp)
    · exact (hsep _ (.tail _ (.head _)) p hp).symm
theorem kidsV_snoc {w : World} {R : List (Addr × Obj)} {kvs : List (Int × Value)} {bs : List Addr} {cnt : Nat} {v : Value} {k : Kid} (hk : KidV w R kvs bs cnt v k) : ∀ {vs : List Value} {ks : List Kid}, KidsV w R kvs bs cnt vs ks → KidsV w R kvs bs cnt (vs ++ [v]) (ks ++ [k])
  | _, _, .nil => .cons hk .nil
  | _, _, .cons h r => .cons h (kidsV_snoc hk r)
theorem in_close {w : World} {g h : Heap} {L pen rw z : Addr} {c j ck' : Nat} {n' k' kb : Int} {tc td : Tok} {base R own rest full new : List (Addr × Obj)} {kvs : List (Int × Value)} {bs : List Addr} {cnt : Nat} {s : InSt} {v : Value}
    (hP : inP w rw R kvs bs cnt kb j s) (hsep : ∀ p ∈ inLed pen rw c base s, ∀ q ∈ own, p.1 ≠ q.1) (eR : (s.nd ++ base) ++ own = rest) (N : News g L h full) (hpen : (pen, listOf #[.int n' tc, .int k' td] c) ∈ full) (hrw : (rw, listOf (s.vs.toArray.push v) ck') ∈ full) (hrest : ∀ p ∈ rest, p ∈ full) (hnewf : ∀ p ∈ new, p ∈ full)
    (hzr : @LT.lt Nat _ rw z) (hz : AllLt z rest) (hnew : ∀ p ∈ new, @LE.le Nat _ z p.1) (hk0 : 0 ≤ k') (hk1 : k' ≤ s.k + 4) (hkid : ∃ k, KidV w (new ++ (s.nd ++ R)) kvs bs cnt v k) :
    ∃ c' : InSt, News g L h (inLed pen rw c base c' ++ own) ∧ (∀ p ∈ inLed pen rw c base c', ∀ q ∈ own, p.1 ≠ q.1) ∧ inP w rw R kvs bs cnt kb (j + 1) c' := by
  subst eR
  rw [List.push_toArray] at hrw
  obtain ⟨a1, a2, a3, a4, a5⟩ := hP
  obtain ⟨k, hk⟩ := hkid
  have ltz := ktn_ltOf hz
  have cs : ∀ p ∈ inLed pen rw c base ⟨n', k', tc, td, s.vs ++ [v], ck', s.ks ++ [k], new ++ s.nd⟩, p = (pen, listOf #[.int n' tc, .int k' td] c) ∨ p = (rw, listOf (s.vs ++ [v]).toArray ck') ∨ p ∈ new ∨ p ∈ s.nd ++ base := fun p hp => by
    unfold inLed at hp
    dsimp only at hp
    simp only [List.mem_cons, List.mem_append] at hp ⊢
    rcases hp with h | h | (h | h) | h <;> simp [h]
  refine ⟨⟨n', k', tc, td, s.vs ++ [v], ck', s.ks ++ [k], new ++ s.nd⟩, fun p hp => ?_, fun p hp q hq => ?_, hk0, by dsimp only; omega, by simp [a3], fun p hp => ?_, ?_⟩
  · rcases List.mem_append.mp hp with hp | hp
    · rcases cs p hp with rfl | rfl | h | h
      · exact N _ hpen
      · exact N _ hrw
      · exact N _ (hnewf _ h)
      · exact N _ (hrest _ (List.mem_append.mpr (.inl h)))
    · exact N _ (hrest _ (List.mem_append.mpr (.inr hp)))
  · rcases cs p hp with rfl | rfl | h | h
    · exact hsep _ (.head _) q hq
    · exact hsep _ (.tail _ (.head _)) q hq
    · exact Nat.ne_of_gt (Nat.lt_of_lt_of_le (ltz q (List.mem_append.mpr (.inr hq))) (hnew p h))
    · exact hsep _ (.tail _ (.tail _ h)) q hq
  · rcases List.mem_append.mp hp with h | h
    · exact Nat.lt_of_lt_of_le hzr (hnew p h)
    · exact a4 p h
  · dsimp only
    rw [List.append_assoc]
    exact kidsV_snoc hk (a5.mono fun p hp => List.mem_append.mpr (.inr hp))
theorem kid_ref {w : World} {R : List (Addr × Obj)} {t1 t2 t3 : Addr} {hs : List Head} {x dx : Addr} {h1 h2 i : Int} {k1 k2 u1 u2 : Tok} {n : Nat} (hx : (x, instObj 254 dx) ∈ R) (hd : (dx, dictOf [⟨h1, .str "number" k1, .int i u1⟩, ⟨h2, .str "generation" k2, .int 0 u2⟩] n) ∈ R) (hi : 10 ≤ i)
    (hh : ∀ h ∈ hs, ∃ t n, (h.tup, tupOf #[.int 0 t, .ref h.b] n) ∈ R) : ∃ k, KidV w R (kvs0 t1 t2 t3 ++ rowsFrom 10 hs) (hs.map (·.b)) hs.length (.ref x) k ∧ k ≠ .odd := by
  by_cases e : i < 10 + hs.length
  · have hj : (i - 10).toNat < hs.length := by omega
    have eh := List.getElem?_eq_getElem hj
    have hv := rows_at (i := 10) eh
    have ei : (10 : Int) + ((i - 10).toNat : Nat) = i := by omega
    rw [ei] at hv
    obtain ⟨t, n, ht⟩ := hh _ (List.mem_of_getElem? eh)
    exact ⟨_, .hit (.hit hx hd (by rw [kvs_at hi]; exact hv) ht) (List.mem_map.mpr ⟨_, List.mem_of_getElem? eh, rfl⟩) hi e, nofun⟩
  · exact ⟨_, .miss (.miss hx hd (by rw [kvs_at hi]; exact rows_none (.inr (by omega)))) (by omega), nofun⟩
theorem nat_of {h : Heap} {r : Addr} {d : Int} {t u v : Tok} (_ : IsRange h r 0 d 1 t u v) (h0 : 0 ≤ d) (h1 : d < 3) : ∃ nn : Nat, d = nn ∧ nn ≤ 2 := ⟨d.toNat, by omega, by omega⟩
theorem in_pack {w : World} {g h : Heap} {L pen rw : Addr} {c : Nat} {n k kb : Int} {t1 t2 : Tok} {m' : Str → Option Value} {base R : List (Addr × Obj)} {kvs : List (Int × Value)} {bs : List Addr} {cnt : Nat}
    (lF : Fr g L h m') (e1 : m' "row" = some (.ref rw)) (lN : News g L h ((rw, listOf #[] 0) :: (pen, listOf #[.int n t1, .int k t2] c) :: base)) (lO : @LT.lt Nat _ pen rw ∧ AllLt rw base) (hk0 : 0 ≤ k) (hk1 : k ≤ kb) :
    ∃ (rw : Addr) (s : InSt), m' "row" = some (.ref rw) ∧ @LT.lt Nat _ pen rw ∧ (∀ p ∈ base, @LT.lt Nat _ p.1 rw) ∧ News g L h (inLed pen rw c base s) ∧ inP w rw R kvs bs cnt kb 0 s :=
  ⟨rw, ⟨n, k, t1, t2, [], 0, [], []⟩, e1, lO.1, ktn_ltOf lO.2, news_sub lN (sub_cons (.tail _ (.head _)) (sub_cons (.head _) fun p hp => .tail _ (.tail _ hp))), hk0, by simpa using hk1, rfl, (fun _ h => nomatch h), .nil⟩
theorem sh2_close {w : World} {g hp : Heap} {L pen tb t1 : Addr} {c i : Nat} {n' k' : Int} {tc td : Tok} {news own full new : List (Addr × Obj)} {otb o' : Obj} {bt : List (Addr × Addr)} {kvs : List (Int × Value)} {s : ShSt} {pre post : List Head} {h : Head}
    (hP : sh2P w pen tb t1 c news otb bt kvs i s) (ehs : s.hs = pre ++ h :: post) (hpre : pre.length = i) (hsep : ∀ p ∈ shLed pen tb c s, ∀ q ∈ own, p.1 ≠ q.1)
    (N : News g L hp full) (hpen : (pen, listOf #[.int n' tc, .int k' td] c) ∈ full) (hb : (h.b, o') ∈ full) (hrest : ∀ p ∈ (tb, s.otb) :: ((hled pre ++ hled post) ++ s.fix) ++ own, p ∈ full) (hnewf : ∀ p ∈ new, p ∈ full)
    (hz : ∀ p ∈ new, @LT.lt Nat _ pen p.1 ∧ @LT.lt Nat _ h.b p.1 ∧ ∀ q ∈ (tb, s.otb) :: ((hled pre ++ hled post) ++ s.fix) ++ own, @LT.lt Nat _ q.1 p.1)
    (hk0 : 0 ≤ k') (hk1 : k' ≤ 20 + 10 * i + 10) (hH : ∃ es' ks, HeadAt w (new ++ s.fix) kvs (bt.map (·.1)) bt.length ⟨h.b, o', h.tup, es', ks⟩) :
    ∃ c' : ShSt, News g L hp (shLed pen tb c c' ++ own) ∧ (∀ p ∈ shLed pen tb c c', ∀ q ∈ own, p.1 ≠ q.1) ∧ sh2P w pen tb t1 c news otb bt kvs (i + 1) c' := by
  obtain ⟨a1, a2, a3, a4, a5, a6, a7, a8, a9, a10⟩ := hP
  obtain ⟨es', ks, hH⟩ := hH
  have Nn : News g L hp new := fun p hp => N p (hnewf p hp)
  obtain ⟨nd, n1, n2, n3⟩ := dist_filter Nn
  have inNew : ∀ p ∈ new ++ s.fix, p ∈ nd ++ s.fix := fun p hp => (List.mem_append.mp hp).elim (fun h => List.mem_append.mpr (.inl (n1 p h))) fun h => List.mem_append.mpr (.inr h)
  have inFix : ∀ p ∈ s.fix, p ∈ nd ++ s.fix := fun p hp => List.mem_append.mpr (.inr hp)
  have hm : h ∈ s.hs := by rw [ehs]; simp
  -- the old ledger, its head pulled out
  have perm0 : (shLed pen tb c s).Perm ((pen, listOf #[.int s.n s.t1, .int s.k s.t2] c) :: (h.b, h.o) :: (tb, s.otb) :: ((hled pre ++ hled post) ++ s.fix)) := by
    unfold shLed
    refine .cons _ (.trans ?_ (List.Perm.swap _ _ _))
    refine .cons _ ?_
    have : hled s.hs = hled pre ++ (h.b, h.o) :: hled post := by rw [ehs]; simp [hled]
    rw [this, ← List.cons_append]
    exact List.Perm.append_right _ List.perm_middle
  have d0 := (List.Perm.pairwise_iff (fun {x y} h => Ne.symm h) perm0).mp a6
  have d1 := List.pairwise_cons.mp d0
  have d2 := List.pairwise_cons.mp d1.2
  have perm1 : (shLed pen tb c ⟨n', k', tc, td, s.otb, pre ++ ⟨h.b, o', h.tup, es', ks⟩ :: post, nd ++ s.fix⟩).Perm (nd ++ ((pen, listOf #[.int n' tc, .int k' td] c) :: (h.b, o') :: (tb, s.otb) :: ((hled pre ++ hled post) ++ s.fix))) := by
    unfold shLed
    dsimp only
    have : hled (pre ++ ⟨h.b, o', h.tup, es', ks⟩ :: post) = hled pre ++ (h.b, o') :: hled post := by simp [hled]
    rw [this]
    refine .trans (.cons _ (.cons _ (?_ : List.Perm _ (nd ++ ((h.b, o') :: ((hled pre ++ hled post) ++ s.fix)))))) ?_
    · rw [← List.append_assoc]
      refine .trans (List.Perm.append_right _ List.perm_append_comm) ?_
      rw [List.append_assoc]
      refine List.Perm.append_left _ ?_
      rw [← List.cons_append]
      exact List.Perm.append_right _ List.perm_middle
    · refine .trans (.cons _ List.perm_middle.symm) ?_
      refine .trans List.perm_middle.symm ?_
      refine List.Perm.append_left _ (.cons _ ?_)
      exact List.Perm.swap _ _ _
  have memc : ∀ p ∈ shLed pen tb c ⟨n', k', tc, td, s.otb, pre ++ ⟨h.b, o', h.tup, es', ks⟩ :: post, nd ++ s.fix⟩, p ∈ nd ∨ p = (pen, listOf #[.int n' tc, .int k' td] c) ∨ p = (h.b, o') ∨ p ∈ (tb, s.otb) :: ((hled pre ++ hled post) ++ s.fix) := fun p hp => by
    have := perm1.mem_iff.mp hp
    rcases List.mem_append.mp this with h | h
    · exact .inl h
    · rcases List.mem_cons.mp h with h | h
      · exact .inr (.inl h)
      · rcases List.mem_cons.mp h with h | h
        · exact .inr (.inr (.inl h))
        · exact .inr (.inr (.inr h))
  refine ⟨⟨n', k', tc, td, s.otb, pre ++ ⟨h.b, o', h.tup, es', ks⟩ :: post, nd ++ s.fix⟩, fun p hp => ?_, fun p hp q hq => ?_, hk0, by dsimp only; omega, a3, ?_, a5.mono inFix, ?_, fun p hp => inFix p (a7 p hp), ?_, ?_, ?_⟩
  · rcases List.mem_append.mp hp with hp | hp
    · rcases memc p hp with h | rfl | rfl | h
      · exact N _ (hnewf _ (n2 _ h))
      · exact N _ hpen
      · exact N _ hb
      · exact N _ (hrest _ (List.mem_append.mpr (.inl h)))
    · exact N _ (hrest _ (List.mem_append.mpr (.inr hp)))
  · rcases memc p hp with h1 | rfl | rfl | h1
    · exact Nat.ne_of_gt ((hz p (n2 p h1)).2.2 q (List.mem_append.mpr (.inr hq)))
    · exact hsep _ (.head _) q hq
    · exact hsep (h.b, h.o) (perm0.mem_iff.mpr (.tail _ (.head _))) q hq
    · exact hsep p (perm0.mem_iff.mpr (.tail _ (.tail _ h1))) q hq
  · rw [← a4, ehs]; simp
  · refine (List.Perm.pairwise_iff (fun {x y} h => Ne.symm h) perm1).mpr (List.pairwise_append.mpr ⟨n3, List.pairwise_cons.mpr ⟨fun q hq => ?_, List.pairwise_cons.mpr ⟨fun q hq => d2.1 q hq, d2.2⟩⟩, fun p hp q hq => ?_⟩)
    · rcases List.mem_cons.mp hq with rfl | hq
      · exact d1.1 (h.b, h.o) (.head _)
      · exact d1.1 q (.tail _ hq)
    · obtain ⟨z1, z2, z3⟩ := hz p (n2 p hp)
      rcases List.mem_cons.mp hq with rfl | hq
      · exact Nat.ne_of_gt z1
      · rcases List.mem_cons.mp hq with rfl | hq
        · exact Nat.ne_of_gt z2
        · exact Nat.ne_of_gt (z3 q (List.mem_append.mpr (.inl hq)))
  · intro x hx
    dsimp only at hx
    rcases List.mem_append.mp hx with hx | hx
    · exact a8 x (by rw [ehs]; exact List.mem_append.mpr (.inl hx))
    · rcases List.mem_cons.mp hx with rfl | hx
      · exact a8 h hm
      · exact a8 x (by rw [ehs]; exact List.mem_append.mpr (.inr (.tail _ hx)))
  · intro j x ej hj
    dsimp only at ej ⊢
    by_cases e : j < i
    · refine (a9 j x ?_ e).mono inFix
      rw [ehs, List.getElem?_append_left (hpre ▸ e)]
      rwa [List.getElem?_append_left (hpre ▸ e)] at ej
    · have e2 : j = i := Nat.le_antisymm (Nat.le_of_lt_succ hj) (Nat.le_of_not_lt e)
      subst e2
      rw [List.getElem?_append_right (Nat.le_of_eq hpre)] at ej
      have e0 : j - pre.length = 0 := by rw [hpre]; exact Nat.sub_self _
      rw [e0] at ej
      simp only [List.getElem?_cons_zero, Option.some.injEq] at ej
      subst ej
      exact hH.mono inNew
  · intro j x ej hj
    dsimp only at ej ⊢
    have hlt : pre.length < j := hpre ▸ hj
    refine (a10 j x ?_ (Nat.le_of_succ_le hj)).mono inFix
    rw [ehs, List.getElem?_append_right (Nat.le_of_lt hlt)]
    rw [List.getElem?_append_right (Nat.le_of_lt hlt)] at ej
    obtain ⟨d, hd⟩ : ∃ d, j - pre.length = d + 1 := ⟨j - pre.length - 1, (Nat.sub_add_cancel (Nat.sub_pos_of_lt hlt)).symm⟩
    rw [hd] at ej ⊢
    simpa using ej
theorem head_tup {w : World} {R : List (Addr × Obj)} {kvs : List (Int × Value)} {bs : List Addr} {cnt : Nat} {h : Head} (x : HeadAt w R kvs bs cnt h) : ∃ t n, (h.tup, tupOf #[.int 0 t, .ref h.b] n) ∈ R := x.1
theorem sh2_tups {w : World} {pen tb t1 : Addr} {c i : Nat} {news : List (Addr × Obj)} {otb : Obj} {bt : List (Addr × Addr)} {kvs : List (Int × Value)} {s : ShSt} (hP : sh2P w pen tb t1 c news otb bt kvs i s) : ∀ x ∈ bt, ∃ t n, (x.2, tupOf #[.int 0 t, .ref x.1] n) ∈ s.fix := by
  obtain ⟨a1, a2, a3, a4, a5, a6, a7, a8, a9, a10⟩ := hP
  intro x hx
  rw [← a4] at hx
  obtain ⟨h, hh, rfl⟩ := List.mem_map.mp hx
  obtain ⟨j, ej⟩ := List.mem_iff_getElem?.mp hh
  by_cases e : j < i
  · exact (a9 j h ej e).1
  · exact (a10 j h ej (by omega)).1
theorem sh2_bs {w : World} {pen tb t1 rw : Addr} {c i : Nat} {news own rest : List (Addr × Obj)} {otb : Obj} {bt : List (Addr × Addr)} {kvs : List (Int × Value)} {s : ShSt} {pre post : List Head} {h : Head}
    (hP : sh2P w pen tb t1 c news otb bt kvs i s) (ehs : s.hs = pre ++ h :: post) (eR : (tb, s.otb) :: ((hled pre ++ hled post) ++ s.fix) ++ own = rest) (hbr : ∀ p ∈ (h.b, h.o) :: rest, @LT.lt Nat _ p.1 rw) : ∀ x ∈ bt.map (·.1), @LT.lt Nat _ x rw := by
  obtain ⟨a1, a2, a3, a4, _⟩ := hP
  intro x hx
  rw [← a4, List.map_map, ehs] at hx
  obtain ⟨g, hg, rfl⟩ := List.mem_map.mp hx
  subst eR
  have mem : ∀ {l : List Head}, g ∈ l → (g.b, g.o) ∈ hled l := fun hm => List.mem_map.mpr ⟨g, hm, rfl⟩
  rcases List.mem_append.mp hg with hg | hg
  · exact hbr (g.b, g.o) (.tail _ (.tail _ (List.mem_append.mpr (.inl (List.mem_append.mpr (.inl (List.mem_append.mpr (.inl (mem hg)))))))))
  · rcases List.mem_cons.mp hg with rfl | hg
    · exact hbr _ (.head _)
    · exact hbr (g.b, g.o) (.tail _ (.tail _ (List.mem_append.mpr (.inl (List.mem_append.mpr (.inl (List.mem_append.mpr (.inr (mem hg)))))))))
theorem not_bs {bs : List Addr} {rw b : Addr} (h : ∀ x ∈ bs, @LT.lt Nat _ x rw) (hb : @LT.lt Nat _ rw b) : b ∉ bs := fun hm => absurd (h b hm) (Nat.lt_asymm hb)
theorem own_kid {w : World} {R : List (Addr × Obj)} {kvs : List (Int × Value)} {bs : List Addr} {cnt : Nat} {b : Addr} {o : Obj} {v : Value} {x : Str} {i : Int} {t : Tok} (hb : (b, o) ∈ R) (ho : o.IsDictOf (PySem.strKind prg w) [("S", v), ("M", .int i t)]) (lo : (b == sysModules) = false) (hV : ValIn w R v (.name x)) (hx : PyData.strOk x = true) (hn : b ∉ bs) : ∃ k, KidV w R kvs bs cnt (.ref b) k :=
  ⟨_, .own ⟨o, v, x, i, t, hb, ho, lo, hV, hx⟩ hn⟩
theorem odd_kid {w : World} {R : List (Addr × Obj)} {kvs : List (Int × Value)} {bs : List Addr} {cnt : Nat} {i : Int} {t : Tok} : ∃ k, KidV w R kvs bs cnt (.int i t) k := ⟨_, .odd i t⟩
section nenil
variable {prog : Program} {w : World} {A : Around} {E : Value → Shared → Prop} {s : Shared} {h₀ : Heap} {L a b : Addr} {news : List (Addr × Obj)} {Q : Value → Shared → Prop}
theorem neNil {vs : List Value} {ka kb : Nat} {c : Bool} (N : News h₀ L s.heap news) (ha : (a, listOf vs.toArray ka) ∈ news) (hb : (b, listOf #[] kb) ∈ news) (hu : A.units + 64 < cLine) (e : vs.isEmpty = !c) (h : Q (.bool c) s) : wpAny (model prog w) A (compareOp .NotEq (.ref a) (.ref b)) Q E s := by
  cases vs with
  | nil =>
    cases c with
    | true => simp at e
    | false =>
      refine kqd_ne N (xs := []) (ys := []) (ds := []) (es := []) ha rfl rfl .nil (fun p hp => hp) hb rfl rfl .nil (fun p hp => hp) (fun _ h => nomatch h) (fun _ h => nomatch h) hu ?_
      rw [decide_eq_true rfl]
      exact h
  | cons v vs =>
    cases c with
    | false => simp at e
    | true => exact SeqAt.RcNeAt.lists_lengths (listAt N ha) (listAt (vs := []) N hb) (by simp) (by omega) prog w E Q h
end nenil
theorem kid_ref2 {w : World} {new nd fix : List (Addr × Obj)} {t1 t2 t3 : Addr} {hs : List Head} {x dx : Addr} {h1 h2 i : Int} {k1 k2 u1 u2 : Tok} {n : Nat} (hx : (x, instObj 254 dx) ∈ new) (hd : (dx, dictOf [⟨h1, .str "number" k1, .int i u1⟩, ⟨h2, .str "generation" k2, .int 0 u2⟩] n) ∈ new) (hi : 10 ≤ i)
    (hh : ∀ x ∈ hs.map (fun h => (h.b, h.tup)), ∃ t n, (x.2, tupOf #[.int 0 t, .ref x.1] n) ∈ fix) :
    ∃ k, KidV w (new ++ (nd ++ fix)) (kvs0 t1 t2 t3 ++ rowsFrom 10 hs) ((hs.map (fun h => (h.b, h.tup))).map (·.1)) (hs.map (fun h => (h.b, h.tup))).length (.ref x) k := by
  obtain ⟨k, q, _⟩ := kid_ref (w := w) (R := new ++ (nd ++ fix)) (t1 := t1) (t2 := t2) (t3 := t3) (hs := hs) (List.mem_append.mpr (.inl hx)) (List.mem_append.mpr (.inl hd)) hi fun h hm => by
    obtain ⟨t, n, q⟩ := hh _ (List.mem_map.mpr ⟨h, hm, rfl⟩)
    exact ⟨t, n, List.mem_append.mpr (.inr (List.mem_append.mpr (.inr q)))⟩
  refine ⟨k, ?_⟩
  rw [List.map_map, List.length_map]
  exact q
theorem rows_eq : ∀ {hs hs' : List Head} {i : Int}, hs.map (fun h => (h.b, h.tup)) = hs'.map (fun h => (h.b, h.tup)) → rowsFrom i hs = rowsFrom i hs'
  | [], [], _, _ => rfl
  | [], _ :: _, _, e => by simp at e
  | _ :: _, [], _, e => by simp at e
  | g :: r, g' :: r', i, e => by
    simp only [List.map_cons, List.cons.injEq, Prod.mk.injEq] at e
    rw [rowsFrom, rowsFrom, rows_eq e.2, e.1.2]
theorem sh2_row {w : World} {pen tb t1 t1' t2 t3 : Addr} {c i : Nat} {news : List (Addr × Obj)} {otb : Obj} {hs : List Head} {kvs : List (Int × Value)} {s : ShSt} {h : Head} (hP : sh2P w pen tb t1 c news otb (hs.map (fun h => (h.b, h.tup))) kvs i s) (e : s.hs[i]? = some h) :
    valueAt (kvs0 t1' t2 t3 ++ rowsFrom 10 hs) (10 + (0 + (i : Int))) = some (.ref h.tup) := by
  rw [kvs_at (by omega), ← rows_eq hP.4]
  have := rows_at (i := 10) e
  rw [Int.zero_add]
  exact this
theorem base_len {w : World} {R : List (Addr × Obj)} {es : List (Str × Value)} (h : BaseEs w R es) : es.length ≤ 3 := by cases h <;> exact Nat.le_of_ble_eq_true rfl
theorem head_none {w : World} {new fix : List (Addr × Obj)} {kvs : List (Int × Value)} {bs : List Addr} {cnt : Nat} {h : Head} (hB : HeadB w fix h) : ∃ es' ks, HeadAt w (new ++ fix) kvs bs cnt ⟨h.b, h.o, h.tup, es', ks⟩ :=
  ⟨h.es, h.kids, (hB.mono fun p hp => List.mem_append.mpr (.inr hp)).at⟩
theorem head_row {w : World} {nd fix : List (Addr × Obj)} {kvs : List (Int × Value)} {bs : List Addr} {cnt ck : Nat} {h : Head} {o' : Obj} {rw : Addr} {vs : List Value} {ks : List Kid} (hB : HeadB w fix h) (ho : o'.IsDictOf (PySem.strKind prg w) (stored h.es "Next" (.ref rw))) (hk : KidsV w (nd ++ fix) kvs bs cnt vs ks) (hl : vs.length ≤ 2) (hne : vs ≠ []) :
    ∃ es' ks, HeadAt w (((rw, listOf vs.toArray ck) :: nd) ++ fix) kvs bs cnt ⟨h.b, o', h.tup, es', ks⟩ := by
  obtain ⟨⟨t, n, ht⟩, _, lo, hBE, _⟩ := hB
  rw [stored_new (base_next hBE)] at ho
  refine ⟨_, ks, ⟨t, n, List.mem_append.mpr (.inr ht)⟩, ho, lo, .inr ⟨_, _, rfl, hBE.mono fun p hp => List.mem_append.mpr (.inr hp), .row (.head _) (hk.mono fun p hp => .tail _ hp) hl ?_⟩⟩
  rintro rfl
  cases hk
  exact hne rfl
theorem head_one {w : World} {nd fix : List (Addr × Obj)} {kvs : List (Int × Value)} {bs : List Addr} {cnt : Nat} {h : Head} {o' : Obj} {q : Addr × Obj} {v : Value} {k : Kid} (hB : HeadB w fix h) (ho : o'.IsDictOf (PySem.strKind prg w) (stored h.es "Next" v)) (hk : KidV w (nd ++ fix) kvs bs cnt v k) (hne : k ≠ .odd) :
    ∃ es' ks, HeadAt w ((q :: nd) ++ fix) kvs bs cnt ⟨h.b, o', h.tup, es', ks⟩ := by
  obtain ⟨⟨t, n, ht⟩, _, lo, hBE, _⟩ := hB
  rw [stored_new (base_next hBE)] at ho
  exact ⟨_, [k], ⟨t, n, List.mem_append.mpr (.inr ht)⟩, ho, lo, .inr ⟨_, _, rfl, hBE.mono fun p hp => List.mem_append.mpr (.inr hp), .one (hk.mono fun p hp => .tail _ hp) hne⟩⟩
theorem kidV_cases {w : World} {R : List (Addr × Obj)} {kvs : List (Int × Value)} {bs : List Addr} {cnt : Nat} {v : Value} {k : Kid} (h : KidV w R kvs bs cnt v k) :
    (∃ i t, v = .int i t) ∨ (k ≠ .odd ∧ ∃ b o es, v = .ref b ∧ (b, o) ∈ R ∧ o.IsDictOf (PySem.strKind prg w) es) ∨ (k ≠ .odd ∧ ∃ x dx es n, v = .ref x ∧ (x, instObj 254 dx) ∈ R ∧ (dx, dictOf es n) ∈ R) := by
  cases h with
  | odd i t => exact .inl ⟨i, t, rfl⟩
  | own h _ =>
    obtain ⟨o, v, x, i, t, h1, h2, _⟩ := h
    exact .inr (.inl ⟨nofun, _, o, _, rfl, h1, h2⟩)
  | hit h _ _ _ =>
    cases h with
    | hit h1 h2 _ _ => exact .inr (.inr ⟨nofun, _, _, _, _, rfl, h1, h2⟩)
  | miss h _ =>
    cases h with
    | miss h1 h2 _ => exact .inr (.inr ⟨nofun, _, _, _, _, rfl, h1, h2⟩)
section shitems
variable {w : World} {A : Around} {E : Value → Shared → Prop} {s : Shared} {value slice : PySem.Expr} {h₀ : Heap} {L l : Addr} {n : Nat} {news : List (Addr × Obj)} {u : Tok} {Q : Value → Shared → Prop}
theorem itemTup1 {a b : Value} (N : News h₀ L s.heap news) (hm : (l, tupOf #[a, b] n) ∈ news) (h : Q b s)
    (hs : subscripted slice false (.ref l) (.int 1 u) = operate [.ref l, .int 1 u] (getItem (.ref l) (.int 1 u)) := by with_unfolding_all rfl) :
    wpAny (model prg w) A (subscriptTail value slice (.ref l) (.int 1 u)) Q E s := by
  have ht : IsTup s.heap l #[a, b] := ⟨_, (N _ hm).1, rfl, _, rfl⟩
  exact tail_any ht.typeIs slot_tuple_getitem.lookup (PyProof.Rows.getItem_tuple (j := 1) ht (by decide) (by decide) rfl rfl h) hs
theorem eqB {A : Around} {d j : Int} {t v : Tok} (b : Bool) (e : (d == j) = b) (h : Q (.bool b) s) : wpAny (model prg w) A (compareOp .Eq (.int d t) (.int j v)) Q E s := PyProof.Rows.eq_int (by rw [e]; exact h)
end shitems
theorem in_done {w : World} {g h : Heap} {L pen rw : Addr} {c : Nat} {rest2 : List (Addr × Obj)} {hd0 : Head} {R : List (Addr × Obj)} {kvs : List (Int × Value)} {bs : List Addr} {cnt : Nat} {kb : Int} {nn : Nat} {s : InSt} {q1 q2 : Addr × Obj}
    (hP : inP w rw R kvs bs cnt kb nn s) (N : News g L h (inLed pen rw c ((hd0.b, hd0.o) :: rest2) s)) (hpr : @LT.lt Nat _ pen rw) (hpb : @LT.lt Nat _ pen hd0.b) (hbr : ∀ p ∈ (hd0.b, hd0.o) :: rest2, @LT.lt Nat _ p.1 rw) (hr1 : ∀ p ∈ rest2, p.1 ≠ pen) (hr2 : ∀ p ∈ rest2, p.1 ≠ hd0.b) (h1 : q1 ∈ rest2) (h2 : q2 ∈ rest2) :
    ∃ rest, News g L h ((hd0.b, hd0.o) :: (pen, listOf #[.int s.n s.t1, .int s.k s.t2] c) :: (rw, listOf s.vs.toArray s.ck) :: rest) ∧ (∀ p ∈ rest, p.1 ≠ pen) ∧ (∀ p ∈ rest, p.1 ≠ hd0.b) ∧ q1 ∈ rest ∧ q2 ∈ rest ∧ @LT.lt Nat _ hd0.b rw ∧ (∀ p ∈ rest2, p ∈ rest) ∧ (∀ p ∈ s.nd, p ∈ rest) ∧
      (∀ p ∈ (rw, listOf s.vs.toArray s.ck) :: s.nd, @LT.lt Nat _ pen p.1 ∧ @LT.lt Nat _ hd0.b p.1 ∧ ∀ q ∈ rest2, @LT.lt Nat _ q.1 p.1) := by
  obtain ⟨a1, a2, a3, a4, a5⟩ := hP
  have hb0 := hbr _ (.head _)
  refine ⟨s.nd ++ rest2, news_sub N ?_, fun p hp => ?_, fun p hp => ?_, List.mem_append.mpr (.inr h1), List.mem_append.mpr (.inr h2), hb0, fun p hp => List.mem_append.mpr (.inr hp), fun p hp => List.mem_append.mpr (.inl hp), fun p hp => ?_⟩
  · unfold inLed
    exact sub_cons (.tail _ (.tail _ (List.mem_append.mpr (.inr (.head _))))) (sub_cons (.head _) (sub_cons (.tail _ (.head _)) (sub_app (fun p hp => .tail _ (.tail _ (List.mem_append.mpr (.inl hp)))) fun p hp => .tail _ (.tail _ (List.mem_append.mpr (.inr (.tail _ hp)))))))
  · rcases List.mem_append.mp hp with hp | hp
    · exact Nat.ne_of_gt (Nat.lt_trans hpr (a4 p hp))
    · exact hr1 p hp
  · rcases List.mem_append.mp hp with hp | hp
    · exact Nat.ne_of_gt (Nat.lt_trans hb0 (a4 p hp))
    · exact hr2 p hp
  · rcases List.mem_cons.mp hp with rfl | hp
    · exact ⟨hpr, hb0, fun q hq => hbr q (.tail _ hq)⟩
    · exact ⟨Nat.lt_trans hpr (a4 p hp), Nat.lt_trans hb0 (a4 p hp), fun q hq => Nat.lt_trans (hbr q (.tail _ hq)) (a4 p hp)⟩
theorem sh_end {w : World} {g hp : Heap} {L pen tb t1 t2 t3 sh dsh tr r1 dr1 : Addr} {c cnt : Nat} {news R : List (Addr × Obj)} {otb otr : Obj} {hs : List Head} {s : ShSt} {h1 h2 h3 h4 : Int} {k1 k2 k3 k4 u3 u4 : Tok} {n n1 : Nat} (_ : News g L hp R) (hc : cnt = hs.length) (htb : otb.IsDictOf (PySem.intKind prg w) (kvs0 t1 t2 t3 ++ rowsFrom 10 hs)) (lo : (tb == sysModules) = false)
    (hP : sh2P w pen tb t1 c news otb (hs.map (fun h => (h.b, h.tup))) (kvs0 t1 t2 t3 ++ rowsFrom 10 hs) cnt s) (hR : ∀ p ∈ shLed pen tb c s, p ∈ R)
    (m1 : (sh, instObj 363 dsh) ∈ R) (m2 : (dsh, dictOf [⟨h1, .str "table" k1, .ref tb⟩, ⟨h2, .str "trailer" k2, .ref tr⟩] n) ∈ R) (m3 : (tr, otr) ∈ R) (htr : otr.IsDictOf (PySem.strKind prg w) [("Root", .ref r1)]) (lo2 : (tr == sysModules) = false) (m4 : (r1, instObj 254 dr1) ∈ R) (m5 : (dr1, dictOf [⟨h3, .str "number" k3, .int 1 u3⟩, ⟨h4, .str "generation" k4, .int 0 u4⟩] n1) ∈ R) :
    (∀ p ∈ news, p ∈ R) ∧ ShelfAt w R sh (kvs0 t1 t2 t3 ++ rowsFrom 10 s.hs) ∧ (∀ h ∈ s.hs, HeadAt w R (kvs0 t1 t2 t3 ++ rowsFrom 10 s.hs) (s.hs.map (·.b)) s.hs.length h) ∧ (∀ h ∈ s.hs, (h.b, h.o) ∈ R) ∧ (s.hs.map (·.b)).Nodup ∧ s.hs.length = cnt := by
  obtain ⟨a1, a2, a3, a4, a5, a6, a7, a8, a9, a10⟩ := hP
  have er : rowsFrom 10 hs = rowsFrom 10 s.hs := (rows_eq a4).symm
  have hl : s.hs.length = hs.length := by have := congrArg List.length a4; simpa using this
  have hF : ∀ p ∈ s.fix, p ∈ R := fun p hp => hR p (by unfold shLed; exact .tail _ (.tail _ (List.mem_append.mpr (.inr hp))))
  have hbs : (hs.map (fun h => (h.b, h.tup))).map (·.1) = s.hs.map (·.b) := by rw [← a4, List.map_map]; rfl
  have hH : ∀ h ∈ s.hs, (h.b, h.o) ∈ R := fun h hh => hR _ (by unfold shLed; exact .tail _ (.tail _ (List.mem_append.mpr (.inl (List.mem_map.mpr ⟨h, hh, rfl⟩)))))
  rw [er] at htb a9
  rw [hbs, List.length_map, ← hl] at a9
  refine ⟨fun p hp => hF p (a7 p hp), ?_, fun h hh => ?_, hH, ?_, by omega⟩
  · obtain ⟨d1, od1, v1, u1, n2, b1, b2, b3, b4⟩ := a5
    exact ⟨dsh, tb, tr, otb, otr, h1, h2, k1, k2, n, r1, dr1, h3, h4, k3, k4, u3, u4, n1, m1, m2, by have := hR (tb, s.otb) (.tail _ (.head _)); rwa [a3] at this, htb, lo, m3, htr, lo2, m4, m5, d1, t1, od1, v1, u1, n2, rfl, hF _ b1, hF _ b2, b3, b4⟩
  · obtain ⟨j, ej⟩ := List.mem_iff_getElem?.mp hh
    have hj : j < s.hs.length := by
      rcases Nat.lt_or_ge j s.hs.length with h | h
      · exact h
      · rw [List.getElem?_eq_none h] at ej; cases ej
    exact (a9 j h ej (by omega)).mono hF
  · have d2 := (List.pairwise_cons.mp (List.pairwise_cons.mp a6).2).2
    have d3 := (List.pairwise_append.mp d2).1
    unfold hled at d3
    rw [List.pairwise_map] at d3
    rw [List.nodup_iff_pairwise_ne, List.pairwise_map]
    exact d3
theorem KidsV.inv {w : World} {R : List (Addr × Obj)} {kvs : List (Int × Value)} {bs : List Addr} {cnt : Nat} {v : Value} {ks : List Kid} (h : KidsV w R kvs bs cnt [v] ks) : ∃ k, KidV w R kvs bs cnt v k := by
  cases h with
  | cons h r => exact ⟨_, h⟩
noncomputable def JoinQ (g : Heap) (L : Addr) (mm : Str → Option Value) (gg : Obj → List (Addr × Obj)) (c : Nat) (k : Int) (P : Int → Prop) (s : Shared) (v : Value) (s' : Shared) : Prop :=
  ∃ d t n' k' t1 t2 h tk, v = .int d t ∧ P d ∧ s' = { s with heap := h, toks := tk } ∧ Fr g L h mm ∧ News g L h (gg (listOf #[.int n' t1, .int k' t2] c)) ∧ k ≤ k' ∧ k' ≤ k + 2
theorem joinQ_mk {g : Heap} {L : Addr} {mm : Str → Option Value} {gg : Obj → List (Addr × Obj)} {c : Nat} {k : Int} {P : Int → Prop} {s : Shared} {d : Int} {t : Tok} {n' k' : Int} {t1 t2 : Tok} {h : Heap} {tk : Nat} (hP : P d) (F : Fr g L h mm) (N : News g L h (gg (listOf #[.int n' t1, .int k' t2] c))) (a : k ≤ k') (b : k' ≤ k + 2) : JoinQ g L mm gg c k P s (.int d t) { s with heap := h, toks := tk } := ⟨_, _, _, _, _, _, _, _, rfl, hP, rfl, F, N, a, b⟩
theorem joinInt {M : Model} {A : Around} {E : Value → Shared → Prop} {s : Shared} {x : Sem Value} {Q : Value → Shared → Prop} {g : Heap} {L pen : Addr} {mm : Str → Option Value} {news : List (Addr × Obj)} {gg : Obj → List (Addr × Obj)} {n k : Int} {t1 t2 : Tok} {c : Nat} (P : Int → Prop) (_ : Fr g L s.heap mm) (_ : News g L s.heap news) (_ : UpdF pen (listOf #[.int n t1, .int k t2] c) news gg)
    (h1 : wpAny M A x (JoinQ g L mm gg c k P s) E s) (h2 : ∀ d t n' k' t1 t2 h tk, P d → k ≤ k' → k' ≤ k + 2 → Fr g L h mm → News g L h (gg (listOf #[.int n' t1, .int k' t2] c)) → Q (.int d t) { s with heap := h, toks := tk }) : wpAny M A x Q E s := by
  refine wpAny_mono h1 (fun v s' q => ?_) fun _ _ e => e
  obtain ⟨d, t, n', k', t1', t2', h, tk, rfl, hP, rfl, F, N, a, b⟩ := q
  exact h2 d t n' k' t1' t2' h tk hP a b F N
theorem nb1 {k : Int} (h : 0 ≤ k) : 0 ≤ k + 1 := by omega
theorem nb2 {k : Int} (h : 0 ≤ k) : 0 ≤ k + 1 + 1 := nb1 (nb1 h)
theorem nb3 {k : Int} (h : 0 ≤ k) : 0 ≤ k + 1 + 1 + 1 := nb1 (nb2 h)
theorem ub1 {k : Int} (h : k ≤ 904) : k + 1 < 1000 := by omega
theorem ub2 {k : Int} (h : k ≤ 904) : k + 1 + 1 < 1000 := by omega
theorem ub0 {k : Int} (h : k ≤ 904) : k < 1000 := Int.lt_of_le_of_lt h (by decide)
theorem st1 {k : Int} : k ≤ k + 1 := by omega
theorem st2 {k : Int} : k + 1 + 1 ≤ k + 2 := by omega
theorem st3 {k : Int} : k + 1 + 1 + 1 ≤ k + 3 := by omega
theorem st4 {k : Int} : k ≤ k + 1 + 1 := Int.le_trans st1 st1
theorem st5 {k : Int} : k + 1 ≤ k + 2 := Int.le_trans st1 st2
theorem st6 {k : Int} : k + 1 + 1 ≤ k + 3 := Int.le_trans st1 st3
theorem le904 {k : Int} (h : k ≤ 900) : k ≤ 904 := Int.le_trans h (by decide)
theorem le904b {a k : Int} (h : a ≤ k + 2) (b : k ≤ 900) : a ≤ 904 := by omega
theorem le904c {a k c : Int} (h : a ≤ k + 2) (h2 : k ≤ c + 2) (b : c ≤ 900) : a ≤ 904 := by omega
theorem le4c {a k c : Int} (h : a ≤ k + 2) (h2 : k ≤ c + 2) : a ≤ c + 4 := by omega
theorem bdA {k : Int} {i : Nat} (h : k ≤ 1 + 3 * (i : Int)) (hi : i < 5) : k ≤ 900 := by omega
theorem bdB {k : Int} {i : Nat} (h : k ≤ 20 + 10 * (i : Int)) (hi : i < 5) : k ≤ 900 := by omega
theorem bdC {k : Int} {i j : Nat} (h : k ≤ 20 + 10 * (i : Int) + 1 + 4 * (j : Int)) (hi : i < 5) (hj : j ≤ 2) : k ≤ 900 := by omega
theorem bdD {k : Int} {i j : Nat} (h : k ≤ 20 + 10 * (i : Int) + 1 + 4 * (j : Int)) (hj : j ≤ 2) : k + 1 ≤ 20 + 10 * (i : Int) + 10 := by omega
theorem bdE {k c : Int} (h : k + 1 ≤ c) : k ≤ c := Int.le_trans st1 h
theorem bdF {k : Int} {i : Nat} (h : k ≤ 20 + 10 * (i : Int)) : k + 1 ≤ 20 + 10 * (i : Int) + 1 := by omega
theorem dr1 {d : Int} (h : 0 ≤ d) : 0 < 1 + d := by omega
theorem dr2 {d : Int} (h : d < 5) : 1 + d < 100 := by omega
theorem dr3 {d : Int} {i : Nat} (h : 0 ≤ d) : 0 ≤ 0 + (i : Int) + 1 + d := by omega
theorem dr4 {d : Int} (h : 0 ≤ d) : 10 ≤ 10 + d := by omega
section shelf
local macro_rules | `(tactic| dl_carried) => `(tactic| first | (with_reducible first | assumption | exact Int.le_refl _ | exact st1 | exact st2 | exact st3 | exact st4 | exact st5 | exact st6 | ((first | refine nb3 ?_ | refine nb2 ?_ | refine nb1 ?_ | refine ub2 ?_ | refine ub1 ?_ | refine ub0 ?_ | refine dr1 ?_ | refine dr2 ?_ | refine dr3 ?_ | refine dr4 ?_); assumption)) | decide | omega)
local macro_rules | `(tactic| walk_at "exec For Name Call cons nil") => `(tactic| (k_here; (rename Fr _ _ _ _ => lF'mz); (with_unfolding_all refine' For_invVF lF'mz ?k1 ?k2 ?_; (case k1 => exact rfl); (case k2 => exact rfl); k_whole)))
local macro_rules | `(tactic| walk_at "pyIter ref") => `(tactic| (k_here; refine hold ?_))
local macro_rules | `(tactic| walk_at "call ref") => `(tactic| (kp_kind "520"; k_dflt (apply draw_use; dl_open; k_updF; dl_carried; dl_carried; dl_carried; dl_carried; ktr_room; ktr_units); intro d'mz n'mz t'mz t1'mz t2'mz h'mz tk'mz F'mz N'mz d0'mz d1'mz; (try dsimp only at N'mz)))
local macro_rules | `(tactic| walk_at "subscriptTail") => `(tactic| (k_here; (with_reducible show wpAny _ _ (subscriptTail _ _ (Value.ref _) (Value.int _ _)) _ _ _); k_dflt (refine itemL2 (by k_asm) (by k_mem) (by assumption) (by assumption) ?_); intro v'mz hv'mz))
local macro_rules | `(tactic| walk_at "subscriptTail") => `(tactic| (k_here; (with_reducible show wpAny _ _ (subscriptTail _ _ (Value.ref _) (Value.int _ _)) _ _ _); k_dflt (refine itemT2s (by k_asm) (by k_mem) (by assumption) (by assumption) (by decide +kernel) (by decide +kernel) ?_); intro x'mz t'mz hx'mz))
local macro_rules | `(tactic| walk_at "subscriptTail") => `(tactic| (k_here; (with_reducible show wpAny _ _ (subscriptTail _ _ (Value.ref _) (Value.int _ _)) _ _ _); k_dflt (refine itemL3 (by k_asm) (by k_mem) (by assumption) (by assumption) ?_); intro v'mz hv'mz))
local macro_rules | `(tactic| walk_at "compareOp Eq int int") => `(tactic| (k_here; refine hold ?_))
local macro_rules | `(tactic| walk_at "call builtin:len") => `(tactic| (k_here; refine hold ?_))
local macro_rules | `(tactic| walk_at "compareOp NotEq ref ref") => `(tactic| (k_here; refine hold ?_))
local macro_rules | `(tactic| walk_at "compareOp Gt int int") => `(tactic| (k_here; refine hold ?_))
local macro_rules | `(tactic| walk_at "setItem ref str") => `(tactic| (k_here; k_dflt (apply kda_set (knd := PySem.strKind _ _); k_asm; k_asm; k_updF; k_asm; exact strKind_is _ _ _ _; exact Nat.le_of_ble_eq_true rfl); intro h'mz o'mz F'mz N'mz hd'mz; (try dsimp only at N'mz)))
local macro_rules | `(tactic| walk_at "setItem ref int") => `(tactic| (k_here; k_dflt (apply kda_set (knd := PySem.intKind _ _); k_asm; k_asm; k_updF; k_asm; exact intKind_is _ _ _ _; assumption); intro h'mz o'mz F'mz N'mz hd'mz; (try dsimp only at N'mz)))
local macro_rules | `(tactic| walk_at "setItem ref str") => `(tactic| (k_here; (with_reducible show wpAny _ _ (setItem _ (Value.str (Str.ofString "Next") _) _) _ _ _); k_dflt (apply kda_set (knd := PySem.strKind _ _); k_asm; k_asm; k_updF; k_asm; exact strKind_is _ _ _ _; assumption); intro h'mz o'mz F'mz N'mz hd'mz; (try dsimp only at N'mz)))
local macro_rules | `(tactic| walk_at "subscriptTail") => `(tactic| (k_here; (with_reducible show wpAny _ _ (subscriptTail _ _ (Value.ref _) (Value.int 0 _)) _ _ _); k_dflt (refine itemL (by k_asm) (by k_mem) (by decide) (by decide) (by rfl) ?_ (by with_unfolding_all rfl))))
local macro_rules | `(tactic| walk_at "subscriptTail Name Constant ref int") => `(tactic| (k_here; (with_reducible show wpAny _ _ (subscriptTail _ _ (Value.ref _) (Value.int 0 _)) _ _ _); k_dflt (refine itemL (by k_asm) (by k_mem) (by decide) (by decide) (by rfl) ?_ (by with_unfolding_all rfl))))
local macro_rules | `(tactic| walk_at "subscriptTail") => `(tactic| (k_here; (with_reducible show wpAny _ _ (subscriptTail _ _ (Value.ref _) (Value.int 1 _)) _ _ _); k_dflt (refine itemTup1 (by k_asm) (by k_mem) ?_)))
local macro_rules | `(tactic| walk_at "subscriptTail") => `(tactic| (k_here; (with_reducible show wpAny _ _ (subscriptTail _ _ (Value.ref _) (Value.int (10 + _) _)) _ _ _); k_dflt (refine kda_item (knd := PySem.intKind _ _) (by k_asm) (by k_mem) (by assumption) (intKind_is _ _ _ _) (by assumption) ?_)))
local macro_rules | `(tactic| walk_at "call builtin:isinstance") => `(tactic| (k_here; (with_reducible show wpAny _ _ (call _ [Value.ref _, Value.type _]) _ _ _); k_dflt (refine' kia_one kitx_dict ?X ?c ?ee ?nb ?_; (case c => exact kitAt_od (by k_asm) (by k_mem) (by assumption)); (case X => k_in); (case ee => kit_is); (case nb => kit_nb); k_whole; intro _)))
local macro_rules | `(tactic| kwd_inv) => `(tactic| (intro zmz h1mz h2mz h3mz; refine Eq.trans ?_ ((by assumption : ∀ zmz, [Str.ofString "row", Str.ofString "turn", Str.ofString "later"].contains zmz = false → _ = _) zmz h3mz); simp only [List.contains_cons, List.contains_nil, Bool.or_false, Bool.or_eq_false_iff, beq_eq_false_iff_ne, ne_eq] at h3mz; simp only [List.mem_cons, List.not_mem_nil, or_false, forall_eq_or_imp, forall_eq, ne_eq] at h2mz; refine Eq.trans ?_ (Eq.trans ((by assumption : ∀ zmz, zmz ≠ Str.ofString "turn" → [Str.ofString "later"].contains zmz = false → _ = _) zmz (by simp [h3mz]) (by simp [h3mz])) ?_) <;> simp [h1mz, h2mz, h3mz, kstB]))
local macro_rules | `(tactic| walk_at "eval IfExp") => `(tactic| (k_here; (with_reducible show wpAny _ _ (PySem.eval (PySem.Expr.IfExp (PySem.Expr.Compare (PySem.Expr.Call _ _ _ _) _ _ _) _ _ _) _) _ _ _); refine hold ?_))
local macro_rules | `(tactic| walk_at "call type:range") => `(tactic| (k_here; (rename Fr _ _ _ _ => F'mz); (rename News _ _ _ _ => N'mz); (with_unfolding_all refine range1_rows F'mz N'mz ?_); intro _ _ _ _ _ _ _ _ _))
variable {w : World} {p : Program} {loose : List Str} {mean : ExcName → Option Value} {mg mb : Str → Option Value}
   {dp un : Nat} {gd : Option (List Code)} {cn : Str} {cs : Scope} {a : Addr} {ccd : Value} {cl : List (Str × Addr)} {outer : List Env} {A₀ : Around} {base h₀ : Heap} {L : Addr} {m : Str → Option Value} {news R : List (Addr × Obj)} {s : Shared}
   {Q E : Value → Shared → Prop}
theorem shelf_spec {pen : Addr} {n : Int} {t1 t2 : Tok} {c : Nat}
   (B : Below A₀ base outer h₀) (F : Fr h₀ L s.heap m) (X : (hd.heap_39 w.params).In h₀) (N : News h₀ L s.heap ((pen, listOf #[.int n t1, .int 0 t2] c) :: news))
   (T : Top p loose mean mg mb h₀) (hk : cs.kind = .function) (hoff : ∀ q ∈ news, q.1 < pen)
   (hd : dp + 90 < recursionLimit) (hu : un + 420 < cLine)
   (ret : ∀ sh t1 t2 t3 hs R h' tk', Fr h₀ L h' m → News h₀ L h' R → (∀ p ∈ news, p ∈ R) → ShelfAt w R sh (kvs0 t1 t2 t3 ++ rowsFrom 10 hs) → (∀ h ∈ hs, HeadAt w R (kvs0 t1 t2 t3 ++ rowsFrom 10 hs) (hs.map (·.b)) hs.length h) → (∀ h ∈ hs, (h.b, h.o) ∈ R) → (hs.map (·.b)).Nodup → 1 ≤ hs.length → hs.length ≤ 5 → Q (.ref sh) { s with heap := h', toks := tk' }) :
   wpAny (model prg w) (ktrTop dp un gd cn cs L a ccd cl outer) (call (.ref 527) [.ref pen]) Q E s := by
  refine wpAny_call ?_
  k_dflt ktr_enter
  refine absQ ?_
  intro K0 hK0
  k_steps
  unfold Hold
  rename Fr _ _ _ _ => lF
  rename News _ _ _ _ => lN
  rename IsRange _ _ _ _ _ _ _ _ => lR
  refine ea6_10 (sh_pack (w := w) (news := news) (c := c) lF rfl rfl rfl lN (by k_mem) (by k_mem) (by assumption) (by assumption) (by k_mem) (by k_mem) (by assumption) (by assumption) (by k_ne) (by k_ne) (by k_ne) (by k_ne) (by omega) (by dl_carried) (by dl_carried) (by dl_carried) (by dl_carried) (by kwd_less) (fun p hp => Nat.ne_of_lt (hoff p hp)) (fun p hp => Nat.ne_of_lt (by exact ktn_ltOf (by tbn_find) p hp))) ?_
  intro cnt tb ta1 ta2 ta3 c0 hpt hcnt hc0 hc1 lo em1 em2 em3 hled hsh
  obtain ⟨tc0, em3⟩ := em3
  rw [hcnt] at lR
  refine loopRK (σ := ShSt) (fun _ => [("pen", .ref pen), ("table", .ref tb), ("count", .int _ _)]) ["head"] (shLed pen tb c) (fun i s => sh1P w pen tb ta1 ta2 ta3 c news i s) c0 (by rfl) lR (small_range cnt hc1).1 (small_range cnt hc1).2 hled lF (List.forall_mem_cons.mpr ⟨em1, List.forall_mem_cons.mpr ⟨em2, List.forall_mem_cons.mpr ⟨em3, List.forall_mem_nil _⟩⟩⟩) lN hsh ?_ ?_ (fun _ => List.forall_mem_cons.mpr ⟨show Str.ofString _ ≠ Str.ofString _ by decide, List.forall_mem_cons.mpr ⟨show Str.ofString _ ≠ Str.ofString _ by decide, List.forall_mem_cons.mpr ⟨show Str.ofString _ ≠ Str.ofString _ by decide, List.forall_mem_nil _⟩⟩⟩)
  all_goals clear lF lN lR hled hsh em1 em2 em3
  all_goals (repeat (rename _ < _ ∧ _ => zz9; clear zz9))
  · rintro i t ⟨n, k, t1, t2, otb, hs, fix⟩ u h tk own K1 hu1 hK1 hi hP hsep F3 N3
    have hPk := hP
    obtain ⟨hk0, hk1, hlen, htb, hbase, hdist, hnf, hheads⟩ := hP
    refine ea0_2 (sh_open hdist hsep) ?_
    intro hr1 hr2
    dsimp only at hk0 hk1 hlen htb hr1 hr2
    dsimp only [shLed] at N3
    rw [List.cons_append, List.cons_append] at N3
    generalize eR : (hled hs ++ fix) ++ own = rest at N3 hr1 hr2
    have htsz : (kvs0 ta1 ta2 ta3 ++ rowsFrom 10 hs).length ≤ sizeLine := table_size (by rw [hlen]; exact Nat.le_of_lt (Nat.lt_of_lt_of_le hi (Nat.le_trans hc1 (by decide))))
    have hkB : k ≤ 904 := le904 (bdA hk1 (Nat.lt_of_lt_of_le hi hc1))
    (try k_fold)
    k_steps
    unfold Hold
    refine gtC ?_
    intro bb
    cases bb
    · k_steps
      rename News _ _ _ _ => N9
      refine ea1_3 (sh1_close (new := [_, _, _]) (es := [(Str.ofString "S", .ref _), (Str.ofString "M", .int _ _)]) hPk hsep eR N9 (.tail _ (.tail _ (.tail _ (.tail _ (.tail _ (.head _)))))) (.tail _ (.tail _ (.tail _ (.tail _ (.tail _ (.tail _ (.head _))))))) (.tail _ (.tail _ (.tail _ (.tail _ (.head _))))) (fun p hp => .tail _ (.tail _ (.tail _ (.tail _ (.tail _ (.tail _ (.tail _ (hp)))))))) (sub_cons (.head _) (sub_cons (.tail _ (.head _)) (sub_cons (.tail _ (.tail _ (.head _))) (sub_nil)))) (by tbn_below) (by tbn_below) (by tbn_find) (gtCons (by tbn_below) (gtCons (by tbn_below) (gtCons (by tbn_below) gtNil))) (.head _) (by assumption) (by assumption) (.sm (by assumption) (.name _ (.tail _ (.head _)) (.tail _ (.tail _ (.head _))))) (by assumption) (by dl_carried) (by dl_carried)) ?_
      intro c' q1 q2 q3
      exact hK1 _ _ (turnP_next c' (by assumption) (psCons rfl (psCons rfl (psCons rfl psNil))) (by intro z h1 h2 h3; refine Eq.trans ?_ (hu1 z h3); (try simp only [List.contains_cons, List.contains_nil, Bool.or_false, Bool.or_eq_false_iff, beq_eq_false_iff_ne, ne_eq] at h3); (try simp only [List.mem_cons, List.not_mem_nil, or_false, forall_eq_or_imp, forall_eq, ne_eq] at h2); first | rfl | (simp [h1, h2, h3, kstB]; done)) q1 q2 q3)
    · k_steps
      rename News _ _ _ _ => N9
      rename _ = Value.ref _ ∨ _ = Value.ref _ => hv
      refine ea1_3 (sh1_close (new := [_, _, _, _, _, _, _, _, _, _]) (es := [(Str.ofString "S", .ref _), (Str.ofString "M", .int _ _), (Str.ofString "D", _)]) hPk hsep eR N9 (.tail _ (.tail _ (.tail _ (.tail _ (.tail _ (.tail _ (.tail _ (.tail _ (.tail _ (.tail _ (.tail _ (.tail _ (.tail _ (.head _)))))))))))))) (.tail _ (.tail _ (.tail _ (.tail _ (.tail _ (.tail _ (.tail _ (.tail _ (.tail _ (.tail _ (.tail _ (.tail _ (.tail _ (.tail _ (.head _))))))))))))))) (.tail _ (.tail _ (.tail _ (.tail _ (.tail _ (.tail _ (.tail _ (.tail _ (.tail _ (.tail _ (.tail _ (.tail _ (.head _))))))))))))) (fun p hp => .tail _ (.tail _ (.tail _ (.tail _ (.tail _ (.tail _ (.tail _ (.tail _ (.tail _ (.tail _ (.tail _ (.tail _ (.tail _ (.tail _ (.tail _ (hp)))))))))))))))) (sub_cons (.head _) (sub_cons (.tail _ (.tail _ (.head _))) (sub_cons (.tail _ (.tail _ (.tail _ (.head _)))) (sub_cons (.tail _ (.tail _ (.tail _ (.tail _ (.head _))))) (sub_cons (.tail _ (.tail _ (.tail _ (.tail _ (.tail _ (.head _)))))) (sub_cons (.tail _ (.tail _ (.tail _ (.tail _ (.tail _ (.tail _ (.head _))))))) (sub_cons (.tail _ (.tail _ (.tail _ (.tail _ (.tail _ (.tail _ (.tail _ (.head _)))))))) (sub_cons (.tail _ (.tail _ (.tail _ (.tail _ (.tail _ (.tail _ (.tail _ (.tail _ (.head _))))))))) (sub_cons (.tail _ (.tail _ (.tail _ (.tail _ (.tail _ (.tail _ (.tail _ (.tail _ (.tail _ (.head _)))))))))) (sub_cons (.tail _ (.tail _ (.tail _ (.tail _ (.tail _ (.tail _ (.tail _ (.tail _ (.tail _ (.tail _ (.head _))))))))))) (sub_nil))))))))))) (by tbn_below) (by tbn_below) (by tbn_find) (gtCons (by tbn_below) (gtCons (by tbn_below) (gtCons (by tbn_below) (gtCons (by tbn_below) (gtCons (by tbn_below) (gtCons (by tbn_below) (gtCons (by tbn_below) (gtCons (by tbn_below) (gtCons (by tbn_below) (gtCons (by tbn_below) gtNil)))))))))) (.head _) (by assumption) (by assumption) ?hB (by assumption) (by dl_carried) (by dl_carried)) ?_
      case hB =>
        rcases hv with rfl | rfl
        · exact .smd (by assumption) (.name _ (.tail _ (.tail _ (.tail _ (.tail _ (.tail _ (.tail _ (.tail _ (.tail _ (.head _))))))))) (.tail _ (.tail _ (.tail _ (.tail _ (.tail _ (.tail _ (.tail _ (.tail _ (.tail _ (.head _))))))))))) (.arr (.arr (.tail _ (.tail _ (.tail _ (.head _)))) (.cons (.ref _ _ (.tail _ (.tail _ (.tail _ (.tail _ (.tail _ (.tail _ (.head _))))))) (.tail _ (.tail _ (.tail _ (.tail _ (.tail _ (.tail _ (.tail _ (.head _))))))))) (.cons (.name _ (.tail _ (.tail _ (.tail _ (.tail _ (.head _))))) (.tail _ (.tail _ (.tail _ (.tail _ (.tail _ (.head _))))))) .nil))))
        · exact .smd (by assumption) (.name _ (.tail _ (.tail _ (.tail _ (.tail _ (.tail _ (.tail _ (.tail _ (.tail _ (.head _))))))))) (.tail _ (.tail _ (.tail _ (.tail _ (.tail _ (.tail _ (.tail _ (.tail _ (.tail _ (.head _))))))))))) (.name (.name _ (.tail _ (.head _)) (.tail _ (.tail _ (.head _)))))
      intro c' q1 q2 q3
      exact hK1 _ _ (turnP_next c' (by assumption) (psCons rfl (psCons rfl (psCons rfl psNil))) (by intro z h1 h2 h3; refine Eq.trans ?_ (hu1 z h3); (try simp only [List.contains_cons, List.contains_nil, Bool.or_false, Bool.or_eq_false_iff, beq_eq_false_iff_ne, ne_eq] at h3); (try simp only [List.mem_cons, List.not_mem_nil, or_false, forall_eq_or_imp, forall_eq, ne_eq] at h2); first | rfl | (simp [h1, h2, h3, kstB]; done)) q1 q2 q3)
  · intro s1 u h tk hu1 hP1 F1 N1
    (try k_fold)
    k_steps
    unfold Hold
    rename Fr _ _ _ _ => lF
    rename News _ _ _ _ => lN
    rename IsRange _ _ _ _ _ _ _ _ => lR
    rw [hcnt] at lR
    refine ea0_3 (sh2_init hc1 hP1) ?_
    intro hslen htb2 hs2
    refine loopRK (σ := ShSt) (fun _ => [("pen", .ref pen), ("table", .ref tb), ("count", .int _ _)]) ["row", "turn", "later"] (shLed pen tb c) (fun i s => sh2P w pen tb ta1 c news s1.otb (s1.hs.map (fun h => (h.b, h.tup))) (kvs0 ta1 ta2 ta3 ++ rowsFrom 10 s1.hs) i s) s1 (by rfl) lR (small_range cnt hc1).1 (small_range cnt hc1).2 (fun _ h => h) lF (List.forall_mem_cons.mpr ⟨rfl, List.forall_mem_cons.mpr ⟨rfl, List.forall_mem_cons.mpr ⟨rfl, List.forall_mem_nil _⟩⟩⟩) lN hs2 ?_ ?_ (fun _ => List.forall_mem_cons.mpr ⟨show Str.ofString _ ≠ Str.ofString _ by decide, List.forall_mem_cons.mpr ⟨show Str.ofString _ ≠ Str.ofString _ by decide, List.forall_mem_cons.mpr ⟨show Str.ofString _ ≠ Str.ofString _ by decide, List.forall_mem_nil _⟩⟩⟩)
    all_goals clear lF lN lR hP1 hs2
    all_goals (repeat (rename _ < _ ∧ _ => zz9; clear zz9))
    · rintro i t s2 u h tk own K2 hu2 hK2 hi hP hsep F3 N3
      refine ea3_9 (sh2_open hP (by rw [List.length_map]; omega) hsep N3) ?_
      intro pre hd0 post ehs hprel hbt hpb hB ehi hr1 hr2 N4
      clear N3
      have hk0 := hP.1
      have hk1 := hP.2
      have hotb := hP.3
      have hkB : s2.k ≤ 904 := le904 (bdB hk1 (Nat.lt_of_lt_of_le hi hc1))
      obtain ⟨⟨t0, nt, htup⟩, hob, lo2, hBE, hkids⟩ := hB
      generalize eR : (tb, s2.otb) :: ((hled pre ++ hled post) ++ s2.fix) ++ own = rest2 at N4 hr1 hr2
      (try k_fold)
      k_steps
      unfold Hold
      rename Fr _ _ _ _ => lF
      rename News _ _ _ _ => lN
      rename IsRange _ _ _ _ _ _ _ _ => lR
      rename _ < _ ∧ _ < _ ∧ AllLt _ _ => lO
      refine ea1_2 (nat_of lR (by assumption) (by assumption)) ?_
      intro nn hnn hnn2
      have hbt2 := sh2_tups hP
      have hva := sh2_row (t1' := ta1) (t2 := ta2) (t3 := ta3) hP ehi
      refine ea2_5 (in_pack (w := w) (base := (hd0.b, hd0.o) :: rest2) (R := s2.fix) (kvs := kvs0 ta1 ta2 ta3 ++ rowsFrom 10 s1.hs) (bs := (s1.hs.map (fun h => (h.b, h.tup))).map (·.1)) (cnt := (s1.hs.map (fun h => (h.b, h.tup))).length) (kb := 20 + 10 * i + 1) lF rfl lN lO (nb1 hk0) (bdF hk1)) ?_
      intro rw i0 em hpr hbr lN2 hi0
      have hbs := sh2_bs hP ehs eR hbr
      rw [hnn] at lR
      refine loopRK (σ := InSt) (fun _ => [("pen", .ref pen), ("table", .ref tb), ("count", .int _ _), ("at", .int _ _), ("row", .ref rw)]) ["later"] (inLed pen rw c ((hd0.b, hd0.o) :: rest2)) (inP w rw s2.fix (kvs0 ta1 ta2 ta3 ++ rowsFrom 10 s1.hs) ((s1.hs.map (fun h => (h.b, h.tup))).map (·.1)) (s1.hs.map (fun h => (h.b, h.tup))).length (20 + 10 * i + 1)) i0 (by rfl) lR (small_range nn (Nat.le_trans hnn2 (by decide))).1 (small_range nn (Nat.le_trans hnn2 (by decide))).2 (fun _ h => h) lF (List.forall_mem_cons.mpr ⟨rfl, List.forall_mem_cons.mpr ⟨rfl, List.forall_mem_cons.mpr ⟨rfl, List.forall_mem_cons.mpr ⟨rfl, List.forall_mem_cons.mpr ⟨em, List.forall_mem_nil _⟩⟩⟩⟩⟩) lN2 hi0 ?_ ?_ (fun _ => List.forall_mem_cons.mpr ⟨show Str.ofString _ ≠ Str.ofString _ by decide, List.forall_mem_cons.mpr ⟨show Str.ofString _ ≠ Str.ofString _ by decide, List.forall_mem_cons.mpr ⟨show Str.ofString _ ≠ Str.ofString _ by decide, List.forall_mem_cons.mpr ⟨show Str.ofString _ ≠ Str.ofString _ by decide, List.forall_mem_cons.mpr ⟨show Str.ofString _ ≠ Str.ofString _ by decide, List.forall_mem_nil _⟩⟩⟩⟩⟩)
      all_goals clear lF lN lR lN2 hi0 em lO
      all_goals (repeat (rename _ < _ ∧ _ => zz9; clear zz9))
      · rintro j tj si u h tk own2 K3 hu3 hK3 hj hPi hsep2 F5 N5
        refine ea0_2 (in_open hbr (List.forall_mem_cons.mpr ⟨Nat.ne_of_gt hpb, hr1⟩) hpr hPi.4 hsep2) ?_
        intro q1 q2
        have hki0 := hPi.1
        have hki1 := hPi.2
        have hvl := hPi.3
        have hkB2 : si.k ≤ 900 := bdC hki1 (Nat.lt_of_lt_of_le hi hc1) (Nat.le_of_lt (Nat.lt_of_lt_of_le hj hnn2))
        have hkB3 := le904 hkB2
        dsimp only [inLed] at N5
        rw [List.cons_append, List.cons_append] at N5
        generalize eR2 : (si.nd ++ ((hd0.b, hd0.o) :: rest2)) ++ own2 = rest3 at N5 q1 q2
        (try k_fold)
        k_steps
        unfold Hold
        refine joinInt (pen := pen) (fun d => 0 ≤ d) (by k_asm) (by k_asm) (by k_updF) ?_ ?_
        · refine wpAny_IfExp ?_
          k_steps
          unfold Hold
          refine gtC ?_
          intro b1
          cases b1
          · k_steps
            exact joinQ_mk (by dl_carried) (by assumption) (by assumption) (by dl_carried) (by dl_carried)
          · k_steps
            exact joinQ_mk (by dl_carried) (by assumption) (by assumption) (by dl_carried) (by dl_carried)
        intro dJ tJ nJ kJ t1J t2J hJ tkJ hdJ hkJ0 hkJ1 FJ NJ
        have hkJB : kJ ≤ 904 := le904b hkJ1 hkB2
        have hkJN : 0 ≤ kJ := Int.le_trans hki0 hkJ0
        (try dsimp only at NJ)
        k_steps
        unfold Hold
        refine joinInt (pen := pen) (fun d => 0 ≤ d ∧ d < 3) (by k_asm) (by k_asm) (by k_updF) ?_ ?_
        · refine wpAny_IfExp ?_
          k_steps
          unfold Hold
          refine eqC ?_
          intro b2
          cases b2
          · k_steps
            exact joinQ_mk (by dl_carried) (by assumption) (by assumption) (by dl_carried) (by dl_carried)
          · k_steps
            exact joinQ_mk ⟨by assumption, by assumption⟩ (by assumption) (by assumption) (by dl_carried) (by dl_carried)
        rintro dI tI nI kI t1I t2I hI tkI ⟨hdI0, hdI1⟩ hkI0 hkI1 FI NI
        have hkIB : kI ≤ 904 := le904c hkI1 hkJ1 hkB2
        have hkIN : 0 ≤ kI := Int.le_trans hkJN hkI0
        (try dsimp only at NI)
        k_steps
        rename News _ _ _ _ => N9
        rename pen < _ ∧ rw < _ ∧ AllLt _ _ => lz
        rename _ = _ ∨ _ = _ ∨ _ = _ => hv
        refine ea1_3 (in_close (new := [_, _, _, _, _]) hPi hsep2 eR2 N9 (.tail _ (.tail _ (.tail _ (.tail _ (.tail _ (.tail _ (.head _))))))) (.tail _ (.tail _ (.tail _ (.tail _ (.tail _ (.tail _ (.tail _ (.head _)))))))) (fun p hp => (.tail _ (.tail _ (.tail _ (.tail _ (.tail _ (.tail _ (.tail _ (.tail _ (hp)))))))))) (sub_cons (.tail _ (.head _)) (sub_cons (.tail _ (.tail _ (.head _))) (sub_cons (.tail _ (.tail _ (.tail _ (.head _)))) (sub_cons (.tail _ (.tail _ (.tail _ (.tail _ (.head _))))) (sub_cons (.tail _ (.tail _ (.tail _ (.tail _ (.tail _ (.head _)))))) (sub_nil)))))) lz.2.1 lz.2.2 (geCons (by tbn_below) (geCons (by tbn_below) (geCons (by tbn_below) (geCons (by tbn_below) (geCons (by tbn_below) geNil))))) (by dl_carried) (le4c hkI1 hkJ1) ?hkid) ?_
        case hkid =>
          rcases hv with rfl | rfl | rfl
          · exact (kid_ref2 (.tail _ (.tail _ (.tail _ (.head _)))) (.tail _ (.tail _ (.tail _ (.tail _ (.head _))))) (by dl_carried) hbt2)
          · exact (own_kid (.tail _ (.tail _ (.head _))) (by assumption) (by assumption) (.name _ (.head _) (.tail _ (.head _))) (by decide +kernel) (not_bs hbs (by tbn_below)))
          · exact odd_kid
        intro c' q1 q2 q3
        exact hK3 _ _ (turnP_next c' (by assumption) (psCons rfl (psCons rfl (psCons rfl (psCons rfl (psCons rfl psNil))))) (by intro z h1 h2 h3; refine Eq.trans ?_ (hu3 z h3); (try simp only [List.contains_cons, List.contains_nil, Bool.or_false, Bool.or_eq_false_iff, beq_eq_false_iff_ne, ne_eq] at h3); (try simp only [List.mem_cons, List.not_mem_nil, or_false, forall_eq_or_imp, forall_eq, ne_eq] at h2); first | rfl | (simp [h1, h2, h3, kstB]; done)) q1 q2 q3)
      · rintro ⟨nI, kI, t1I, t2I, vs, ckI, ksI, nd⟩ u3 h tk hu3 hPj F6 N6
        obtain ⟨hkj0, hkj1, hvl, hndj, hkids2⟩ := id hPj
        dsimp only at hkj0 hkj1
        have hkIB := le904 (bdC hkj1 (Nat.lt_of_lt_of_le hi hc1) hnn2)
        have hkID := bdD hkj1 hnn2
        have hkIE := bdE hkID
        have hesz : hd0.es.length ≤ sizeLine := by rw [sizeLine_eq]; have := base_len hBE; omega
        have htbI : Obj.IsDictOf (PySem.intKind prg w) s2.otb (kvs0 ta1 ta2 ta3 ++ rowsFrom 10 s1.hs) := by rw [hotb]; exact htb2
        have hin2 : ∀ p ∈ (tb, s2.otb) :: ((hled pre ++ hled post) ++ s2.fix) ++ own, p ∈ rest2 := fun p hp => eR ▸ hp
        refine ea1_9 (in_done (q1 := (tb, s2.otb)) (q2 := (hd0.tup, tupOf #[.int 0 t0, .ref hd0.b] nt)) hPj N6 hpr hpb hbr hr1 hr2 (hin2 _ (.head _)) (hin2 _ (.tail _ (List.mem_append.mpr (.inl (List.mem_append.mpr (.inr htup))))))) ?_
        intro rest4 N7 hX1 hX2 htbm htupm hbrw hin4 hnd4 hz4
        have hz5 : ∀ p ∈ (rw, listOf vs.toArray ckI) :: nd, @LT.lt Nat _ pen p.1 ∧ @LT.lt Nat _ hd0.b p.1 ∧ ∀ q ∈ (tb, s2.otb) :: ((hled pre ++ hled post) ++ s2.fix) ++ own, @LT.lt Nat _ q.1 p.1 := fun p hp => ⟨(hz4 p hp).1, (hz4 p hp).2.1, fun q hq => (hz4 p hp).2.2 q (hin2 q hq)⟩
        have hB9 : HeadB w s2.fix hd0 := ⟨⟨t0, nt, htup⟩, hob, lo2, hBE, hkids⟩
        have hin9 : ∀ p ∈ nd ++ s2.fix, p ∈ rest4 := fun p hp => (List.mem_append.mp hp).elim (hnd4 p) fun h => hin4 p (hin2 p (.tail _ (List.mem_append.mpr (.inl (List.mem_append.mpr (.inr h))))))
        dsimp only at hkj0 hkj1 hvl hkids2 N7
        clear N6 hz4 hPj
        (try k_fold)
        k_steps
        unfold Hold
        refine lenL (by k_asm) (.tail _ (.tail _ (.head _))) (by rw [hvl]; exact Nat.le_trans hnn2 (by decide)) ?_
        intro t9 tk9
        rcases vs with _ | ⟨v1, _ | ⟨v2, _ | ⟨v3, vs⟩⟩⟩
        · k_steps
          unfold Hold
          refine eqB false (by rfl) ?_
          k_steps
          unfold Hold
          refine neNil (vs := []) (c := false) (by k_asm) (.tail _ (.tail _ (.tail _ (.head _)))) (.head _) (by ktr_units) (by rfl) ?_
          k_steps
          rename News _ _ _ _ => N9
          refine ea1_3 (sh2_close (new := (rw, _) :: nd) hP ehs hprel hsep N9 (.tail _ (.tail _ (.head _))) (.tail _ (.head _)) (fun p hp => (.tail _ (.tail _ (.tail _ (.tail _ (hin4 p (hin2 p hp))))))) (sub_cons (.tail _ (.tail _ (.tail _ (.head _)))) (fun p hp => (.tail _ (.tail _ (.tail _ (.tail _ (hnd4 p hp))))))) hz5 (by dl_carried) (by dl_carried) (head_none hB9)) ?_
          intro c' q1 q2 q3
          exact hK2 _ _ (turnP_next c' (by assumption) (psCons rfl (psCons rfl (psCons rfl psNil))) (by kwd_inv) q1 q2 q3)
        · rcases hkids2.inv with ⟨k9, hk9⟩
          rcases kidV_cases hk9 with ⟨i9, t8, rfl⟩ | ⟨hne, b9, o9, es9, rfl, hb9, ho9⟩ | ⟨hne, x9, dx9, es9, n9, rfl, hx9, hd9⟩
          · k_steps
            unfold Hold
            refine eqB true (by rfl) ?_
            k_steps
            unfold Hold
            refine neNil (vs := [.int i9 t8]) (c := true) (by k_asm) (.tail _ (.tail _ (.tail _ (.head _)))) (.head _) (by ktr_units) (by rfl) ?_
            k_steps
            rename News _ _ _ _ => N9
            refine ea1_3 (sh2_close (new := (rw, _) :: nd) hP ehs hprel hsep N9 (.tail _ (.tail _ (.head _))) (.tail _ (.head _)) (fun p hp => (.tail _ (.tail _ (.tail _ (.tail _ (hin4 p (hin2 p hp))))))) (sub_cons (.tail _ (.tail _ (.tail _ (.head _)))) (fun p hp => (.tail _ (.tail _ (.tail _ (.tail _ (hnd4 p hp))))))) hz5 (by dl_carried) (by dl_carried) (head_row hB9 (by assumption) hkids2 (by exact Nat.le_of_ble_eq_true rfl) (List.cons_ne_nil _ _))) ?_
            intro c' q1 q2 q3
            exact hK2 _ _ (turnP_next c' (by assumption) (psCons rfl (psCons rfl (psCons rfl psNil))) (by kwd_inv) q1 q2 q3)
          · replace hb9 := hin9 _ hb9
            k_steps
            unfold Hold
            refine eqB true (by rfl) ?_
            k_steps
            unfold Hold
            refine eqC ?_
            intro b8
            cases b8
            · k_steps
              unfold Hold
              refine neNil (vs := [.ref b9]) (c := true) (by k_asm) (.tail _ (.tail _ (.tail _ (.head _)))) (.head _) (by ktr_units) (by rfl) ?_
              k_steps
              rename News _ _ _ _ => N9
              refine ea1_3 (sh2_close (new := (rw, _) :: nd) hP ehs hprel hsep N9 (.tail _ (.tail _ (.head _))) (.tail _ (.head _)) (fun p hp => (.tail _ (.tail _ (.tail _ (.tail _ (hin4 p (hin2 p hp))))))) (sub_cons (.tail _ (.tail _ (.tail _ (.head _)))) (fun p hp => (.tail _ (.tail _ (.tail _ (.tail _ (hnd4 p hp))))))) hz5 (by dl_carried) (by dl_carried) (head_row hB9 (by assumption) hkids2 (by exact Nat.le_of_ble_eq_true rfl) (List.cons_ne_nil _ _))) ?_
              intro c' q1 q2 q3
              exact hK2 _ _ (turnP_next c' (by assumption) (psCons rfl (psCons rfl (psCons rfl psNil))) (by kwd_inv) q1 q2 q3)
            · k_steps
              rename News _ _ _ _ => N9
              refine ea1_3 (sh2_close (new := (rw, _) :: nd) hP ehs hprel hsep N9 (.tail _ (.head _)) (.head _) (fun p hp => (.tail _ (.tail _ (.tail _ (hin4 p (hin2 p hp)))))) (sub_cons (.tail _ (.tail _ (.head _))) (fun p hp => (.tail _ (.tail _ (.tail _ (hnd4 p hp)))))) hz5 (by dl_carried) (by dl_carried) (head_one hB9 (by assumption) hk9 hne)) ?_
              intro c' q1 q2 q3
              exact hK2 _ _ (turnP_next c' (by assumption) (psCons rfl (psCons rfl (psCons rfl psNil))) (by kwd_inv) q1 q2 q3)
          · replace hx9 := hin9 _ hx9
            replace hd9 := hin9 _ hd9
            k_steps
            unfold Hold
            refine eqB true (by rfl) ?_
            k_steps
            unfold Hold
            refine eqC ?_
            intro b8
            cases b8
            · k_steps
              unfold Hold
              refine neNil (vs := [.ref x9]) (c := true) (by k_asm) (.tail _ (.tail _ (.tail _ (.head _)))) (.head _) (by ktr_units) (by rfl) ?_
              k_steps
              rename News _ _ _ _ => N9
              refine ea1_3 (sh2_close (new := (rw, _) :: nd) hP ehs hprel hsep N9 (.tail _ (.tail _ (.head _))) (.tail _ (.head _)) (fun p hp => (.tail _ (.tail _ (.tail _ (.tail _ (hin4 p (hin2 p hp))))))) (sub_cons (.tail _ (.tail _ (.tail _ (.head _)))) (fun p hp => (.tail _ (.tail _ (.tail _ (.tail _ (hnd4 p hp))))))) hz5 (by dl_carried) (by dl_carried) (head_row hB9 (by assumption) hkids2 (by exact Nat.le_of_ble_eq_true rfl) (List.cons_ne_nil _ _))) ?_
              intro c' q1 q2 q3
              exact hK2 _ _ (turnP_next c' (by assumption) (psCons rfl (psCons rfl (psCons rfl psNil))) (by kwd_inv) q1 q2 q3)
            · k_steps
              rename News _ _ _ _ => N9
              refine ea1_3 (sh2_close (new := (rw, _) :: nd) hP ehs hprel hsep N9 (.tail _ (.head _)) (.head _) (fun p hp => (.tail _ (.tail _ (.tail _ (hin4 p (hin2 p hp)))))) (sub_cons (.tail _ (.tail _ (.head _))) (fun p hp => (.tail _ (.tail _ (.tail _ (hnd4 p hp)))))) hz5 (by dl_carried) (by dl_carried) (head_one hB9 (by assumption) hk9 hne)) ?_
              intro c' q1 q2 q3
              exact hK2 _ _ (turnP_next c' (by assumption) (psCons rfl (psCons rfl (psCons rfl psNil))) (by kwd_inv) q1 q2 q3)
        · k_steps
          unfold Hold
          refine eqB false (by rfl) ?_
          k_steps
          unfold Hold
          refine neNil (vs := [v1, v2]) (c := true) (by k_asm) (.tail _ (.tail _ (.tail _ (.head _)))) (.head _) (by ktr_units) (by rfl) ?_
          k_steps
          rename News _ _ _ _ => N9
          refine ea1_3 (sh2_close (new := (rw, _) :: nd) hP ehs hprel hsep N9 (.tail _ (.tail _ (.head _))) (.tail _ (.head _)) (fun p hp => (.tail _ (.tail _ (.tail _ (.tail _ (hin4 p (hin2 p hp))))))) (sub_cons (.tail _ (.tail _ (.tail _ (.head _)))) (fun p hp => (.tail _ (.tail _ (.tail _ (.tail _ (hnd4 p hp))))))) hz5 (by dl_carried) (by dl_carried) (head_row hB9 (by assumption) hkids2 (by exact Nat.le_of_ble_eq_true rfl) (List.cons_ne_nil _ _))) ?_
          intro c' q1 q2 q3
          exact hK2 _ _ (turnP_next c' (by assumption) (psCons rfl (psCons rfl (psCons rfl psNil))) (by kwd_inv) q1 q2 q3)
        · exfalso
          simp only [List.length_cons] at hvl
          omega
    · rintro s3 u h tk hu2 hP2 F2 N2
      (try k_fold)
      k_steps
      refine hK0 _ _ ?_
      k_steps
      rename News _ _ _ _ => N9
      obtain ⟨z1, z2, z3, z4, z5, z6⟩ := sh_end N9 hslen.symm htb2 lo hP2 (fun p hp => .tail _ (.tail _ (.tail _ (.tail _ (.tail _ hp))))) (.head _) (.tail _ (.head _)) (.tail _ (.tail _ (.tail _ (.tail _ (.head _))))) (by assumption) (by assumption) (.tail _ (.tail _ (.head _))) (.tail _ (.tail _ (.tail _ (.head _))))
      exact ret _ ta1 ta2 ta3 s3.hs _ _ _ (by assumption) N9 z1 z2 z3 z4 z5 (by omega) (by omega)
end shelf
theorem walk_D {G : Addr → List Kid} {D : Addr → Prop} (hG : ∀ b, D b → ∀ k ∈ G b, KidD G D k) : ∀ f k above r o, walkK G f k above = some (r, o) → KidD G D k → ∀ b ∈ o, D b := by
  intro f
  induction f with
  | zero => intro k above r o h; cases k <;> (rw [walkK] at h; cases h)
  | succ f ih =>
    have all : ∀ ks above r o, walkL (walkK G f) ks above = some (r, o) → (∀ k ∈ ks, KidD G D k) → ∀ b ∈ o, D b := by
      intro ks
      induction ks with
      | nil => intro above r o h _; rw [walkL] at h; cases h; exact fun _ h => nomatch h
      | cons k ks ihk =>
        intro above r o h hk
        rw [walkL] at h
        cases e : walkK G f k above with
        | none => rw [e] at h; cases h
        | some p =>
          obtain ⟨r1, o1⟩ := p
          rw [e] at h
          have l1 := ih _ _ _ _ e (hk _ (.head _))
          cases r1 with
          | false => cases h; exact l1
          | true =>
            cases e2 : walkL (walkK G f) ks above with
            | none => simp [e2] at h
            | some p2 =>
              have l2 := ihk _ _ _ e2 fun k h => hk k (.tail _ h)
              simp only [e2, Option.map_some, Option.some.injEq, Prod.mk.injEq] at h
              obtain ⟨rfl, rfl⟩ := h
              exact fun b hb => (List.mem_append.mp hb).elim (l1 b) (l2 b)
    intro k above r o h hk
    cases k with
    | odd => rw [walkK] at h; cases h; exact fun _ h => nomatch h
    | own b =>
      obtain ⟨hD, e⟩ : D b ∧ G b = [] := hk
      rw [walkK, e, walkL] at h
      cases h
      exact List.forall_mem_cons.mpr ⟨hD, fun _ h => nomatch h⟩
    | ref i ob =>
      by_cases hi : i ∈ above
      · cases ob <;> (rw [walkK, if_pos hi] at h; cases h; exact fun _ h => nomatch h)
      · cases ob with
        | none => rw [walkK, if_neg hi] at h; cases h; exact fun _ h => nomatch h
        | some b =>
          have hD : D b := hk
          rw [walkK, if_neg hi] at h
          cases e : walkL (walkK G f) (G b) (above ++ [i]) with
          | none => simp [e] at h
          | some p =>
            have := all _ _ _ _ e (hG b hD)
            simp only [e, Option.map_some, Option.some.injEq, Prod.mk.injEq] at h
            obtain ⟨rfl, rfl⟩ := h
            exact List.forall_mem_cons.mpr ⟨hD, this⟩
theorem GraphAt.mono {w : World} {R R' : List (Addr × Obj)} {kvs : List (Int × Value)} {G : Addr → List Kid} {D : Addr → Prop} (hs : ∀ p ∈ R, p ∈ R') (h : GraphAt w R kvs G D) : GraphAt w R' kvs G D := fun b hb => by
  obtain ⟨⟨o, es, a, b', c, d⟩, e⟩ := h b hb
  exact ⟨⟨o, es, hs _ a, b', c, d.mono hs⟩, e⟩
theorem ActD.mono {w : World} {R R' : List (Addr × Obj)} {b : Addr} {g d : Bool} (hs : ∀ p ∈ R, p ∈ R') (h : ActD w R b g d) : ActD w R' b g d := by
  obtain ⟨o, es, sv, x, a, b', c, e, f, i, j⟩ := h
  exact ⟨o, es, sv, x, hs _ a, b', c, e, f.mono hs, i, j.mono hs⟩
structure LawF (w : World) (R : List (Addr × Obj)) (sh : Addr) (kvs : List (Int × Value)) (G : Addr → List Kid) (D : Addr → Prop) (Nn : List Int) (k : Kid) (r : Bool) (out : List Addr) (n : Nat) (go dk : Addr → Bool) (ef : Addr → List (Str × PD)) : Prop where
  shelf : ShelfAt w R sh kvs
  graph : GraphAt w R kvs G D
  vald : ValD w R D
  kidf : ∀ b, ∀ k ∈ G b, KidF G D Nn k
  kid0 : KidF G D Nn k
  kid : ∀ R' (x dx : Addr) (h1 h2 : Int) (k1 k2 u1 u2 : Tok) (n : Nat), (∀ p ∈ R, p ∈ R') → (x, instObj 254 dx) ∈ R' → (dx, dictOf [⟨h1, .str "number" k1, .int 10 u1⟩, ⟨h2, .str "generation" k2, .int 0 u2⟩] n) ∈ R' → KidAt w R' kvs (.ref x) k
  walk : walkK G 7 k [] = some (r, out)
  mach : mach G n [(k, [])] [] = some (r, out)
  len : out.length ≤ 127
  nums : Nn.length ≤ 20
  act : ∀ b ∈ out, ActD w R b (go b) (dk b)
  tell : ∀ b ∈ out, ValIn w R (.ref b) (.dict b (ef b)) ∧ Tellable 6 17 (.dict b (ef b))
theorem LawF.mono {w : World} {R R' : List (Addr × Obj)} {sh : Addr} {kvs : List (Int × Value)} {G : Addr → List Kid} {D : Addr → Prop} {Nn : List Int} {k : Kid} {r : Bool} {out : List Addr} {n : Nat} {go dk : Addr → Bool} {ef : Addr → List (Str × PD)}
    (hs : ∀ p ∈ R, p ∈ R') (h : LawF w R sh kvs G D Nn k r out n go dk ef) : LawF w R' sh kvs G D Nn k r out n go dk ef :=
  ⟨h.shelf.mono hs, h.graph.mono hs, fun b hb => (h.vald b hb).imp fun _ q => q.mono hs, h.kidf, h.kid0, fun R2 x dx h1 h2 k1 k2 u1 u2 n q => h.kid R2 x dx h1 h2 k1 k2 u1 u2 n fun p hp => q p (hs p hp), h.walk, h.mach, h.len, h.nums, fun b hb => (h.act b hb).mono hs, fun b hb => ⟨(h.tell b hb).1.mono hs, (h.tell b hb).2⟩⟩
theorem law_pack {w : World} {R : List (Addr × Obj)} {sh t1 t2 t3 : Addr} {hs : List Head} (hS : ShelfAt w R sh (kvs0 t1 t2 t3 ++ rowsFrom 10 hs)) (hH : ∀ h ∈ hs, HeadAt w R (kvs0 t1 t2 t3 ++ rowsFrom 10 hs) (hs.map (·.b)) hs.length h) (hb : ∀ h ∈ hs, (h.b, h.o) ∈ R) (hnd : (hs.map (·.b)).Nodup)
    (h1 : 1 ≤ hs.length) (h5 : hs.length ≤ 5) : ∃ G D Nn k r out n go dk ef, LawF w R sh (kvs0 t1 t2 t3 ++ rowsFrom 10 hs) G D Nn k r out n go dk ef := by
  obtain ⟨a1, a2, a3, a4, a5⟩ := shelf_graph hH hb hnd
  obtain ⟨g, rest, rfl⟩ : ∃ g rest, hs = g :: rest := by
    cases hs with
    | nil => simp at h1
    | cons g rest => exact ⟨g, rest, rfl⟩
  have hgb : g.b ∈ (g :: rest).map (·.b) := .head _
  have hk0 : KidF (graphOf (g :: rest)) (dictsOf w R (g :: rest)) (numsOf (g :: rest).length) (.ref 10 (some g.b)) := ⟨.inl hgb, mem_nums.mpr ⟨by omega, by simp only [List.length_cons]; omega⟩, trivial⟩
  have hNl : (numsOf (g :: rest).length).length ≤ 5 := by unfold numsOf; rw [List.length_map, List.length_range]; exact h5
  obtain ⟨⟨r, out⟩, hw⟩ := walk_ends (G := graphOf (g :: rest)) (N := numsOf (g :: rest).length) (fun b k hk => (a4 b k hk).2.1) 7 (.ref 10 (some g.b)) [] List.nodup_nil (fun _ h => nomatch h) (by simp only [List.length_nil]; omega) hk0.2.1
  obtain ⟨n, hm⟩ := mach_walk hw
  have hlen := walk_len a5 _ _ _ _ _ hw
  have hD := walk_D (fun b hb k hk => (a1 b hb).2 k hk) _ _ _ _ _ hw hk0.1
  obtain ⟨ga, hga⟩ := Classical.axiomOfChoice (r := fun (b : Addr) (p : Bool × Bool) => dictsOf w R (g :: rest) b → ActD w R b p.1 p.2) fun b => by
    by_cases e : dictsOf w R (g :: rest) b
    · obtain ⟨x, y, q⟩ := a3 b e
      exact ⟨(x, y), fun _ => q⟩
    · exact ⟨(false, false), fun h => absurd h e⟩
  obtain ⟨ef, hef⟩ := Classical.axiomOfChoice (r := fun (b : Addr) (es : List (Str × PD)) => dictsOf w R (g :: rest) b → ValIn w R (.ref b) (.dict b es) ∧ Tellable 6 17 (.dict b es)) fun b => by
    by_cases e : dictsOf w R (g :: rest) b
    · obtain ⟨x, q⟩ := a2 b e
      exact ⟨x, fun _ => q⟩
    · exact ⟨[], fun h => absurd h e⟩
  refine ⟨_, _, _, _, r, out, n, fun b => (ga b).1, fun b => (ga b).2, ef, hS, a1, fun b hb => (a2 b hb).imp fun _ q => q.1, a4, hk0, ?_, hw, hm, by omega, by omega, fun b hb => hga b (hD b hb), fun b hb => hef b (hD b hb)⟩
  intro R' x dx i1 i2 k1 k2 u1 u2 n' hin hx hd
  obtain ⟨⟨t, nt, htup⟩, _⟩ := hH g (.head _)
  exact .hit hx hd (by rw [kvs_at (by omega)]; exact rows_at (i := 10) (j := 0) rfl) (hin _ htup)
noncomputable abbrev toldB (ef : Addr → List (Str × PD)) (b : Addr) : Dat := toldD (.dict b (ef b))
theorem told_step {tl tl' : List (Addr × Obj)} {ys : List Value} {row : List Addr} {ef : Addr → List (Str × PD)} {i : Nat} {b : Addr} {v : Value} (hJ : DatAll tl ys ((row.take i).map (toldB ef))) (hb : row[i]? = some b) (hT : DatIn tl' v (toldB ef b)) :
    DatAll (tl' ++ tl) (ys ++ [v]) ((row.take (i + 1)).map (toldB ef)) := by
  rw [List.take_add_one, hb, List.map_append]
  exact (hJ.mono fun p hp => List.mem_append.mpr (.inr hp)).append (.one (hT.mono fun p hp => List.mem_append.mpr (.inl hp)))
theorem bools_reads {h : Heap} : ∀ bs : List Bool, ∃ as, ReadsAll h (bs.map Value.bool) (bs.map PyData.bool) as
  | [] => ⟨_, ReadsAll.nil⟩
  | b :: bs => by
    obtain ⟨as, q⟩ := bools_reads (h := h) bs
    exact ⟨_, ReadsAll.cons (Reads.bool b) q⟩
theorem bools_eqv : ∀ bs : List Bool, PyData.eqvAll (bs.map PyData.bool) (bs.map PyData.bool) = true
  | [] => by simp [PyData.eqvAll]
  | b :: bs => by simp [PyData.eqvAll, PyData.eqv, bools_eqv bs]
theorem bools_lay : ∀ bs : List Bool, PyData.canLayAll0 (bs.map PyData.bool) = true ∧ PyData.depthAll (bs.map PyData.bool) ≤ 1
  | [] => by simp [PyData.canLayAll0, PyData.depthAll]
  | b :: bs => by
    have := bools_lay bs
    simp only [List.map_cons, PyData.canLayAll0, PyData.canLay0, PyData.depthAll, PyData.depth, this.1, Bool.and_self, true_and]
    omega
section lawcmp
variable {prog : Program} {w : World} {A : Around} {E : Value → Shared → Prop} {s : Shared} {h₀ : Heap} {L a b : Addr} {news : List (Addr × Obj)} {Q : Value → Shared → Prop}
theorem neBools {bs : List Bool} {ka kb : Nat} (N : News h₀ L s.heap news) (ha : (a, listOf (bs.map Value.bool).toArray ka) ∈ news) (hb : (b, listOf (bs.map Value.bool).toArray kb) ∈ news) (hu : A.units + 64 < cLine) (h : Q (.bool false) s) : wpAny (model prog w) A (compareOp .NotEq (.ref a) (.ref b)) Q E s := by
  obtain ⟨as, ra⟩ := bools_reads (h := s.heap) bs
  have l := bools_lay bs
  have sh : SeqAt.shaped (.list (bs.map PyData.bool)) = true := by
    unfold SeqAt.shaped
    simp only [PyData.canLay0, PyData.depth, l.1, Bool.true_and]
    exact decide_eq_true (by have := l.2; omega)
  refine ne_dataH (reads_list_at (N.get ha) rfl rfl (by simpa using ra)) (reads_list_at (N.get hb) rfl rfl (by simpa using ra)) sh sh hu ?_
  have e : PyData.eqv (.list (bs.map PyData.bool)) (.list (bs.map PyData.bool)) = true := by simp only [PyData.eqv]; exact bools_eqv bs
  rw [e]
  exact h
theorem neTold {xs ys : List Value} {ka kb : Nat} {row : List Addr} {ef : Addr → List (Str × PD)} {n₁ n₂ : List (Addr × Obj)} (N : News h₀ L s.heap news) (ha : (a, listOf xs.toArray ka) ∈ news) (Da : DatAll n₁ xs (row.map (toldB ef))) (sa : ∀ p ∈ n₁, p ∈ news) (hb : (b, listOf ys.toArray kb) ∈ news) (Db : DatAll n₂ ys (row.map (toldB ef))) (sb : ∀ p ∈ n₂, p ∈ news)
    (hk : ∀ b ∈ row, kqdOk 6 (toldB ef b) = true) (hu : A.units + 64 < cLine) (h : Q (.bool false) s) : wpAny (model prog w) A (compareOp .NotEq (.ref a) (.ref b)) Q E s := by
  have hk8 : ∀ d ∈ row.map (toldB ef), kqdOk 8 d = true := fun d hd => by
    obtain ⟨b, hb, rfl⟩ := List.mem_map.mp hd
    exact kqdOk_succ _ _ (kqdOk_succ _ _ (hk b hb))
  refine kqd_ne N ha rfl rfl Da sa hb rfl rfl Db sb hk8 hk8 hu ?_
  simpa using h
theorem eqNil {ka kb : Nat} (N : News h₀ L s.heap news) (ha : (a, listOf (List.toArray []) ka) ∈ news) (hb : (b, listOf (List.toArray []) kb) ∈ news) (hu : A.units + 64 < cLine) (h : Q (.bool true) s) : wpAny (model prog w) A (compareOp .Eq (.ref a) (.ref b)) Q E s := by
  refine kqd_eq N ha rfl rfl .nil (fun p hp => hp) hb rfl rfl .nil (fun p hp => hp) (fun _ h => nomatch h) (fun _ h => nomatch h) hu ?_
  rw [decide_eq_true rfl]
  exact h
end lawcmp
section caught
open PySem.Spec PySem.Calls
variable {w : World} {A₀ : Around} {E : Value → Shared → Prop} {s' : Shared} {h₀ h : Heap} {outer : List Env} {L a e t : Addr} {m : Str → Option Value} {name : Str} {scope : Scope} {cd : Value}
  {b₀ : Stmt} {suite : List Stmt} {pos np : Pos} {rest : List ExceptHandler} {Q : Flow → Shared → Prop} {p : Program} {loose : List Str} {mean : ExcName → Option Value} {mg mb : Str → Option Value} {x : Str}
theorem caught_X (K : Below A₀ h₀ outer h₀) (F : Fr h₀ L h m) (hsm : h.UpToSlots s'.heap) (hfl : Heap.FlyingW h₀ (envOf name scope L a cd :: outer) e (.ref 59) (.ref t) s'.heap)
    (X : (hd.heap_39 w.params).In h₀) (T : TopRead p loose mg mb h₀) (ex : nsIn (hd.heap_39 w.params) mainGlobals x = some (some (.ref 59)))
    (k : ∀ h', Fr h₀ L h' m → wpAny (model prg w) ((A₀.deeper (envOf name scope L a cd)).mark (some (.ref e))) (execs (b₀ :: suite) (envOf name scope L a cd)) Q E { s' with heap := h' })
    (hk : scope.kind = .function := by rfl) (hx : (envOf name scope L a cd).kindOf x = some .globalImplicit := by rfl) (hd : (x == ("__debug__" : Str)) = false := by decide)
    (hE : PassesOwnAt (model prg w) ((A₀.deeper (envOf name scope L a cd)).mark (some (.ref e))) (A₀.deeper (envOf name scope L a cd)) (envOf name scope L a cd) E := by passes_own) :
    wpAny (model prg w) (A₀.deeper (envOf name scope L a cd)) (noteFrame (.ref e) (envOf name scope L a cd))
      (fun _ s₂ => wpAny (model prg w) (A₀.deeper (envOf name scope L a cd)) (setFlight (.ref e) none) (fun _ s₃ =>
        wpAny (model prg w) (A₀.deeper (envOf name scope L a cd)) (handleBy (.ref e) (envOf name scope L a cd) (.ExceptHandler (some (.Name x np)) none (b₀ :: suite) pos :: rest)) Q E s₃) E s₂) E s' := by
  obtain ⟨nm, q, N0, bs, hdct, sn, sub, ab, col, dd, k0, k1, k2, k3, k5, hK⟩ := k_exc59 (w := w)
  refine wpAny_looks_onW (Around.frames_deeper K.stack) rfl hfl fun h₄ hheld₄ hsm₄ => ?_
  refine wpAny_landsW hheld₄ fun h₅ hheld hsm₅' => ?_
  have hsm₅ := hsm₄.trans hsm₅'
  have F₅ := F.of_stays hheld.1 (hsm.trans hsm₅)
  obtain ⟨ob, hob, hobc⟩ := hheld.there
  refine wpAny_handleBy_cons (codeAny_handlers_test (name_K F₅ X T ex ?_ hk hx hd)) (by intro q; cases q)
  refine wpAny_excMatches_sub_self (X.keeps F₅.keep _ _ hK) hob hobc (by decide) (codeAny_handlers_suite ?_)
  refine lands_againW hheld fun h₆ hfl₆ hsm₆ => ?_
  have F₆ := F.of_stays hfl₆.1 ((hsm.trans hsm₅).trans hsm₆)
  exact wpAny_passesOwnAt hE (k h₆ F₆)
end caught
theorem law_first {w : World} {g h : Heap} {L ab x dx due sh : Addr} {R : List (Addr × Obj)} {kvs : List (Int × Value)} {G : Addr → List Kid} {D : Addr → Prop} {Nn : List Int} {k : Kid} {r : Bool} {out : List Addr} {n : Nat} {go dk : Addr → Bool} {ef : Addr → List (Str × PD)} {h1 h2 : Int} {k1 k2 u1 u2 : Tok} {n1 : Nat}
    (N : News g L h ((ab, listOf #[] 0) :: (x, instObj 254 dx) :: (dx, dictOf [⟨h1, .str "number" k1, .int 10 u1⟩, ⟨h2, .str "generation" k2, .int 0 u2⟩] n1) :: (due, listOf #[] 0) :: R)) (la : ∀ p ∈ R, p.1 < due) (lb : @LT.lt Nat _ due dx ∧ AllLt dx R) (lx : @LT.lt Nat _ dx x) (lc : @LT.lt Nat _ x ab)
    (hL : LawF w R sh kvs G D Nn k r out n go dk ef) :
    ∃ R1, News g L h ((due, listOf (List.toArray []) 0) :: (ab, listOf (List.toArray []) 0) :: R1) ∧ LawF w R1 sh kvs G D Nn k r out n go dk ef ∧ KidAt w R1 kvs (.ref x) k ∧ ∀ p ∈ (ab, listOf (List.toArray []) 0) :: R1, p.1 ≠ due := by
  refine ⟨(x, instObj 254 dx) :: (dx, dictOf [⟨h1, .str "number" k1, .int 10 u1⟩, ⟨h2, .str "generation" k2, .int 0 u2⟩] n1) :: R, news_sub N (sub_cons (.tail _ (.tail _ (.tail _ (.head _)))) (sub_cons (.head _) (sub_cons (.tail _ (.head _)) (sub_cons (.tail _ (.tail _ (.head _))) fun p hp => .tail _ (.tail _ (.tail _ (.tail _ hp))))))), hL.mono fun p hp => .tail _ (.tail _ hp), hL.kid _ _ _ _ _ _ _ _ _ _ (fun p hp => .tail _ (.tail _ hp)) (.head _) (.tail _ (.head _)), ?_⟩
  have h1 := lb.1
  refine List.forall_mem_cons.mpr ⟨Nat.ne_of_gt (Nat.lt_trans h1 (Nat.lt_trans lx lc)), List.forall_mem_cons.mpr ⟨Nat.ne_of_gt (Nat.lt_trans h1 lx), List.forall_mem_cons.mpr ⟨Nat.ne_of_gt h1, fun p hp => Nat.ne_of_lt (la p hp)⟩⟩⟩
theorem law_next {w : World} {g h : Heap} {L x dx sh : Addr} {R1 l : List (Addr × Obj)} {kvs : List (Int × Value)} {G : Addr → List Kid} {D : Addr → Prop} {Nn : List Int} {k : Kid} {r : Bool} {out : List Addr} {n : Nat} {go dk : Addr → Bool} {ef : Addr → List (Str × PD)} {h1 h2 : Int} {k1 k2 u1 u2 : Tok} {n1 : Nat}
    (_ : News g L h ((x, instObj 254 dx) :: (dx, dictOf [⟨h1, .str "number" k1, .int 10 u1⟩, ⟨h2, .str "generation" k2, .int 0 u2⟩] n1) :: l)) (hin : ∀ p ∈ R1, p ∈ l) (hL : LawF w R1 sh kvs G D Nn k r out n go dk ef) :
    ∃ R2, LawF w R2 sh kvs G D Nn k r out n go dk ef ∧ KidAt w R2 kvs (.ref x) k ∧ (∀ p ∈ R2, p ∈ (x, instObj 254 dx) :: (dx, dictOf [⟨h1, .str "number" k1, .int 10 u1⟩, ⟨h2, .str "generation" k2, .int 0 u2⟩] n1) :: l) ∧ ∀ p ∈ R1, p ∈ R2 := by
  refine ⟨(x, instObj 254 dx) :: (dx, dictOf [⟨h1, .str "number" k1, .int 10 u1⟩, ⟨h2, .str "generation" k2, .int 0 u2⟩] n1) :: R1, hL.mono fun p hp => .tail _ (.tail _ hp), hL.kid _ _ _ _ _ _ _ _ _ _ (fun p hp => .tail _ (.tail _ hp)) (.head _) (.tail _ (.head _)), sub_cons (.head _) (sub_cons (.tail _ (.head _)) fun p hp => .tail _ (.tail _ (hin p hp))), fun p hp => .tail _ (.tail _ hp)⟩
theorem law_mid {w : World} {g h : Heap} {L lg la due : Addr} {cg ca cd : Nat} {ys : List Value} {bs : List Bool} {out : List Addr} {tl news R1 : List (Addr × Obj)} (N : News g L h ((lg, listOf ys.toArray cg) :: (tl ++ news))) (hG : GoalsAt w (tl ++ news) ys bs) (m1 : (la, listOf (out.map Value.ref).toArray ca) ∈ news) (m2 : (due, listOf ([] ++ out.map Value.ref).toArray cd) ∈ news) (hR : ∀ p ∈ R1, p ∈ news) :
    ∃ RX, News g L h ((la, listOf (out.map Value.ref).toArray ca) :: (due, listOf (out.map Value.ref).toArray cd) :: (lg, listOf ys.toArray cg) :: RX) ∧ GoalsAt w RX ys bs ∧ ∀ p ∈ R1, p ∈ RX :=
  ⟨tl ++ news, news_sub N (sub_cons (.tail _ (List.mem_append.mpr (.inr m1))) (sub_cons (.tail _ (List.mem_append.mpr (.inr m2))) (sub_cons (.head _) fun p hp => .tail _ hp))), hG, fun p hp => List.mem_append.mpr (.inr (hR p hp))⟩
theorem goal_at {w : World} {R : List (Addr × Obj)} {ys : List Value} {bs : List Bool} {i : Nat} {v : Value} (hG : GoalsAt w R ys bs) (h : ys.toArray[i]? = some v) : ∃ b, bs[i]? = some b ∧ GoalAt w R v b := hG.at (by simpa using h)
theorem law_re {g h : Heap} {L : Addr} {l RX : List (Addr × Obj)} {p1 p2 p3 : Addr × Obj} (N : News g L h l) (m1 : p1 ∈ l) (m2 : p2 ∈ l) (m3 : p3 ∈ l) (hs : ∀ p ∈ RX, p ∈ l) : ∃ RX', News g L h (p1 :: p2 :: p3 :: RX') ∧ (∀ p ∈ RX, p ∈ RX') ∧ ∀ p ∈ l, p ∈ RX' :=
  ⟨l, news_sub N (sub_cons m1 (sub_cons m2 (sub_cons m3 fun _ h => h))), hs, fun _ h => h⟩
theorem neDat {prog : Program} {w : World} {A : Around} {E : Value → Shared → Prop} {s : Shared} {h₀ : Heap} {L : Addr} {news n₁ n₂ : List (Addr × Obj)} {u v : Value} {d : Dat} {Q : Value → Shared → Prop} (N : News h₀ L s.heap news) (Du : DatIn n₁ u d) (s1 : ∀ p ∈ n₁, p ∈ news) (Dv : DatIn n₂ v d) (s2 : ∀ p ∈ n₂, p ∈ news) (hk : kqdOk 8 d = true) (hu : A.units + 64 < cLine) (h : Q (.bool false) s) :
    wpAny (model prog w) A (compareOp .NotEq u v) Q E s := by
  obtain ⟨as, ra⟩ := kqd_in N 8 (Du.mono s1) hk
  obtain ⟨bs, rb⟩ := kqd_in N 8 (Dv.mono s2) hk
  have l := kqd_lay 8 d hk
  have sh : SeqAt.shaped (kqdP d) = true := by
    unfold SeqAt.shaped
    rw [l.1, Bool.true_and]
    exact decide_eq_true (Nat.le_trans l.2 (by decide))
  refine ne_dataH ra rb sh sh hu ?_
  have e : PyData.eqv (kqdP d) (kqdP d) = true := (kqd_eqv 8 d d 8 hk hk).mpr rfl
  rw [e]
  exact h
section islist
variable {w : World} {A : Around} {E : Value → Shared → Prop} {s : Shared} {h₀ : Heap} {L : Addr} {m : Str → Option Value} {news R : List (Addr × Obj)} {Q : Value → Shared → Prop}
theorem isList_D {v : Value} {db : Bool} (X : (hd.heap_39 w.params).In h₀) (F : Fr h₀ L s.heap m) (N : News h₀ L s.heap news) (h : DKind w R v db) (hR : ∀ p ∈ R, p ∈ news) (q : ∀ tk, Q (.bool db) { s with toks := tk }) : wpAny (model prg w) A (call (.builtin "isinstance") [v, .type "list"]) Q E s := by
  cases h with
  | none =>
    k_steps
    exact q _
  | name hv =>
    cases hv
    rename_i a b
    have a' := hR _ a
    have b' := hR _ b
    k_steps
    exact q _
  | arr hv =>
    cases hv
    rename_i a b
    have a' := hR _ a
    k_steps
    exact q _
end islist
section law
local macro_rules | `(tactic| walk_at "call ref") => `(tactic| (kp_kind "513"; refine hold ?_))
local macro_rules | `(tactic| walk_at "call ref") => `(tactic| (kp_kind "527"; refine hold ?_))
local macro_rules | `(tactic| walk_at "call ref") => `(tactic| (kp_kind "534"; refine hold ?_))
local macro_rules | `(tactic| walk_at "call ref") => `(tactic| (kp_kind "501"; refine hold ?_))
local macro_rules | `(tactic| walk_at "call ref") => `(tactic| (kp_kind "506"; refine hold ?_))
local macro_rules | `(tactic| walk_at "noteFrame ref") => `(tactic| (k_here; refine hold ?_))
local macro_rules | `(tactic| kwd_less) => `(tactic| exact sub_mark (by assumption) (by kwd_less))
local macro_rules | `(tactic| walk_at "CompSrcT") => `(tactic| (k_here; refine hold ?_))
local macro_rules | `(tactic| walk_at "CompSrc") => `(tactic| (k_here; refine hold ?_))
local macro_rules | `(tactic| walk_at "CompEnd") => `(tactic| (k_here; refine hold ?_))
local macro_rules | `(tactic| walk_at "compareOp NotEq ref ref") => `(tactic| (k_here; refine hold ?_))
local macro_rules | `(tactic| walk_at "compareOp Eq ref ref") => `(tactic| (k_here; refine hold ?_))
local macro_rules | `(tactic| walk_at "compareOp Eq str str") => `(tactic| (k_here; refine eqStr (by assumption) ?_))
local macro_rules | `(tactic| walk_at "subscriptTail") => `(tactic| (k_here; (with_reducible show wpAny _ _ (subscriptTail _ _ (Value.ref _) (Value.str (Str.ofString "S") _)) _ _ _); k_dflt (refine kda_item (knd := PySem.strKind _ _) (by k_asm) (by k_mem) (by assumption) (strKind_is _ _ _ _) (by assumption) ?_)))
local macro_rules | `(tactic| walk_at "call ref") => `(tactic| (kp_kind "277"; refine hold ?_))
local macro_rules | `(tactic| walk_at "call builtin:isinstance") => `(tactic| (k_here; refine hold ?_))
theorem law_walks : PySem.Challenge.rw_pb0483_01.Holds := hd (by
  k_go0
  (all_goals try k_fold)
  k_steps
  unfold Hold
  rename IntsAre _ _ => hI
  rename Heap.IsList _ _ _ => hL
  rename ¬ _ < _ => hC
  rename Below _ _ _ _ => hB
  have hz := hI.length
  refine pen_spec (m := _) (news := []) _ _ _ _ _ _ _ _ _ _ _ _ _ _ _ _ _ _ _ (hB) (by k_asm) (by k_asm) (by k_asm) (by k_asm) (by rfl) hL hI (by omega) (by ktr_room) (by ktr_units) ?_
  intro pen n t1 t2 c h1 tk1 F1 N1 l1
  k_steps
  unfold Hold
  refine shelf_spec (by k_asm) (by k_asm) (by k_asm) (by k_asm) (by k_asm) (by rfl) (by exact fun _ h => nomatch h) (by ktr_room) (by ktr_units) ?_
  intro sh t1 t2 t3 hs R h2 tk2 F2 N2 hsub hS hH hb hnd hl1 hl5
  refine ea10_1 (law_pack hS hH hb hnd hl1 hl5) ?_
  intro G D Nn kd r out n0 go dk ef hLF
  clear hsub hH hb hnd hl1 hl5
  k_steps
  unfold Hold
  rename News _ _ _ _ => N3
  rename ∀ p ∈ R, p.1 < _ => la
  rename _ < _ ∧ AllLt _ R => lb
  rename _ < _ ∧ _ < _ ∧ _ < _ ∧ AllLt _ R => lc
  refine ea1_4 (law_first N3 la lb (by assumption) lc.1 hLF) ?_
  intro R1 N4 hL1 hV1 hne1
  clear lb lc la
  refine walk_all 7 hB (by k_asm) (by k_asm) N4 (by k_asm) (by rfl) hL1.shelf hL1.graph hV1 hL1.kid0.1 (fun p hp => .tail _ hp) hne1 (.head _) .nil hL1.walk (by decide) (by have := hL1.len; simp only [List.length_nil]; omega) (by ktr_room) (by ktr_units) ?_
  intro h3 tk3 c3 F3 N5
  clear N3 N4 hLF hV1 hne1 hS
  k_steps
  unfold Hold
  rename News _ _ _ _ => N6
  refine ea1_4 (law_next N6 (R1 := R1) (fun p hp => .tail _ (.tail _ hp)) hL1) ?_
  intro R2 hL2 hV2 hin2 hs12
  cases r
  · refine actions_spec hB (by k_asm) (by k_asm) N6 (by k_asm) (by rfl) hL2.shelf hL2.graph hL2.vald hV2 hL2.kidf hL2.kid0 hL2.mach (by have := hL2.len; omega) hL2.nums hin2 (by ktr_room) (by ktr_units) (fun h => nomatch h) ?_
    intro _ e t g4 h4 tk4 F4 hup hfl
    k_steps
    unfold Hold
    refine caught_X hB F4 hup hfl (by k_asm) (by k_asm) (by k_is) ?_
    intro h5 F5
    k_steps
  · refine actions_spec hB (by k_asm) (by k_asm) N6 (by k_asm) (by rfl) hL2.shelf hL2.graph hL2.vald hV2 hL2.kidf hL2.kid0 hL2.mach (by have := hL2.len; omega) hL2.nums hin2 (by ktr_room) (by ktr_units) ?_ (fun h => nomatch h)
    intro _ la ca h4 tk4 F4 N7 hla
    k_steps
    unfold Hold
    rename News _ _ _ _ => N8
    refine ea1_4 (law_next N8 (R1 := R1) (fun p hp => .tail _ (.tail _ (.tail _ (.tail _ (.tail _ hp))))) hL1) ?_
    intro R3 hL3 hV3 hin3 hs13
    refine goals_spec hB (by k_asm) (by k_asm) N8 (by k_asm) (by rfl) hL3.shelf hL3.graph hL3.vald hV3 hL3.kidf hL3.kid0 hL3.mach (by have := hL3.len; omega) hL3.nums hL3.act hin3 (by ktr_room) (by ktr_units) ?_
    intro lg cg ys tl h5 tk5 F5 N9 hG
    refine ea1_3 (law_mid (R1 := R1) (la := la) (due := _) (out := out) (cd := _) N9 hG (.tail _ (.tail _ (.head _))) (.tail _ (.tail _ (.tail _ (.tail _ (.tail _ (.head _)))))) (fun p hp => .tail _ (.tail _ (.tail _ (.tail _ (.tail _ (.tail _ (.tail _ hp)))))))) ?_
    intro RX N10 hG2 hRX
    clear N9 hG hL2 hL3 hV3 hin3 hs13 hV2 hin2 hs12
    (repeat (rename _ < _ ∧ _ => zz9; clear zz9))
    (try k_fold)
    k_steps
    unfold Hold
    refine LCg.CompSrc.ledger (by rfl) (by k_asm) (by k_asm) (.head _) (by have := hL1.len; simp only [List.size_toArray, List.length_map, sizeLine_eq]; omega) ?_
    intro g9
    refine compRest_grow (fun i ys tl => DatAll tl ys ((out.take i).map (toldB ef))) ?_ ?_ .nil
    · intro i v ys tl I oI C oC D m₂ h tk E' hi hP hJ hC hx F N off ne
      refine ea1_2 (out_at hP) ?_
      intro b hb er2
      subst er2
      refine ea0_2 (hL1.tell b (List.mem_of_getElem? hb)) ?_
      intro hVb hTb
      have hsz := hTb.sz
      k_steps
      unfold Hold
      refine tellsP_use hB (by k_asm) (by k_asm) (by k_asm) (by k_asm) (by rfl) hVb (told_all hTb.small) (by intro p hp; exact .tail _ (.tail _ (.tail _ (List.mem_append.mpr (.inr (.tail _ (.tail _ (.tail _ (hRX p hp)))))))))  (by ktr_room) (by ktr_units) ?_
      intro r9 h9 tk9 tl9 F9 N9 ab9 hT9
      k_steps
      unfold Hold
      exact compEnd_tl (by assumption) (by assumption) (by assumption) off (.inr ⟨_, List.mem_append.mpr (.inr (.head _)), rfl, _, rfl⟩) (told_step hJ hb hT9)
    · intro ys1 tl1 hJ1
      rw [List.size_toArray, List.length_map, List.take_length] at hJ1
      k_steps
      unfold Hold
      rename News _ _ _ _ => N9
      refine ea1_3 (law_re (RX := RX) (p1 := (_, listOf (out.map Value.ref).toArray c3)) (p2 := (_, LCg.lst ys1)) (p3 := (lg, listOf ys.toArray cg)) N9 (.tail _ (List.mem_append.mpr (.inr (.tail _ (.head _))))) (.head _) (.tail _ (List.mem_append.mpr (.inr (.tail _ (.tail _ (.head _)))))) (fun p hp => .tail _ (List.mem_append.mpr (.inr (.tail _ (.tail _ (.tail _ hp))))))) ?_
      intro RX1 N10 hs1 hs2
      replace hJ1 := hJ1.mono (fun p hp => hs2 p (.tail _ (List.mem_append.mpr (.inl hp))))
      replace hG2 := hG2.mono hs1
      have hRX1 : ∀ p ∈ R1, p ∈ RX1 := fun p hp => hs1 p (hRX p hp)
      clear N9 hs1 hs2 hRX
      refine LCg.CompSrc.ledger (by rfl) (by k_asm) (by k_asm) (.head _) (by have := hL1.len; simp only [List.size_toArray, List.length_map, sizeLine_eq]; omega) ?_
      intro g9
      refine compRest_grow (fun i ys tl => DatAll tl ys ((out.take i).map (toldB ef))) ?_ ?_ .nil
      · intro i v ys tl I oI C oC D m₂ h tk E' hi hP hJ hC hx F N off ne
        refine ea1_2 (out_at hP) ?_
        intro b hb er2
        subst er2
        refine ea0_2 (hL1.tell b (List.mem_of_getElem? hb)) ?_
        intro hVb hTb
        have hsz := hTb.sz
        k_steps
        unfold Hold
        refine tellsP_use hB (by k_asm) (by k_asm) (by k_asm) (by k_asm) (by rfl) hVb (told_all hTb.small) (by intro p hp; exact .tail _ (.tail _ (.tail _ (List.mem_append.mpr (.inr (.tail _ (.tail _ (.tail _ (hRX1 p hp)))))))))  (by ktr_room) (by ktr_units) ?_
        intro r9 h9 tk9 tl9 F9 N9 ab9 hT9
        k_steps
        unfold Hold
        exact compEnd_tl (by assumption) (by assumption) (by assumption) off (.inr ⟨_, List.mem_append.mpr (.inr (.head _)), rfl, _, rfl⟩) (told_step hJ hb hT9)
      · intro ys2 tl2 hJ2
        rw [List.size_toArray, List.length_map, List.take_length] at hJ2
        k_steps
        unfold Hold
        rename News _ _ _ _ => N9
        refine neTold N9 (.tail _ (List.mem_append.mpr (.inr (.tail _ (.head _))))) hJ1 (fun p hp => .tail _ (List.mem_append.mpr (.inr (.tail _ (.tail _ (.tail _ hp)))))) (.head _) hJ2 (fun p hp => .tail _ (List.mem_append.mpr (.inl hp))) (fun b hb => (hL1.tell b hb).2.ok) (by ktr_units) ?_
        refine ea1_3 (law_re (RX := RX1) (p1 := (_, listOf (out.map Value.ref).toArray c3)) (p2 := (lg, listOf ys.toArray cg)) (p3 := (lg, listOf ys.toArray cg)) N9 (.tail _ (List.mem_append.mpr (.inr (.head _)))) (.tail _ (List.mem_append.mpr (.inr (.tail _ (.tail _ (.head _)))))) (.tail _ (List.mem_append.mpr (.inr (.tail _ (.tail _ (.head _)))))) (fun p hp => .tail _ (List.mem_append.mpr (.inr (.tail _ (.tail _ (.tail _ hp))))))) ?_
        intro RX2 N10 hs1 hs2
        replace hG2 := hG2.mono hs1
        have hRX2 : ∀ p ∈ R1, p ∈ RX2 := fun p hp => hs1 p (hRX1 p hp)
        clear N9 hs1 hs2 hRX1 hJ1 hJ2
        k_steps
        unfold Hold
        refine LCt.CompSrcT.ledger (by rfl) (by k_asm) (by k_asm) (.head _) (by have := hL1.len; simp only [List.size_toArray, List.length_map, sizeLine_eq]; omega) ?_
        intro g9
        refine compRestT_same (fun i ys => ys = (((out.take i).filter go).map dk).map Value.bool) ?_ ?_ rfl
        · rintro i v ys3 I oI C oC D9 m₂ h tk E' hi hP rfl hC hx F3 N3 off ne
          refine ea1_2 (out_at hP) ?_
          intro b hb er2
          subst er2
          refine ea4_7 ((hL1.act b (List.mem_of_getElem? hb)).mono hRX2) ?_
          intro o es sv x hb1 ho hbs hsv hVx hgo hdk
          have htk := take_filter (go := go) hb
          generalize hdb : dk b = db at hdk
          generalize hvd : valueAt es "D" = od at hdk
          cases hVx
          k_steps
          · unfold Hold
            rename (x == _) = true => hgx
            have hgb := hgo.symm.trans hgx
            refine isList_D (by k_asm) (by k_asm) (by k_asm) hdk (by intro p hp; repeat (first | exact hp | apply List.Mem.tail)) ?_
            intro tk9
            k_steps
            unfold Hold
            exact LCg.CompEnd.intro (by assumption) (by assumption) _ (fun _ h => h) off (.inr ⟨_, .head _, rfl, _, rfl⟩) ⟨rfl, by rw [htk, hgb]; simp [hdb]⟩
          · unfold Hold
            rename (x == _) = false => hgx
            have hgb := hgo.symm.trans hgx
            exact LCg.CompEnd.intro (by assumption) (by assumption) _ (fun _ h => h) off (.inr ⟨_, .head _, rfl, _, rfl⟩) ⟨rfl, by rw [htk, hgb]; simp⟩
        · intro ws hws
          rw [List.size_toArray, List.length_map, List.take_length] at hws
          generalize hbs : (out.filter go).map dk = bs at hG2 hws
          subst hws
          k_steps
          unfold Hold
          refine LCg.CompSrc.ledger (by rfl) (by k_asm) (by k_asm) (.tail _ (.tail _ (.head _))) (by have := hL1.len; have h2 := hG2.length; have h3 := List.length_filter_le go out; have h4 := congrArg List.length hbs; rw [List.length_map] at h4; simp only [List.size_toArray, sizeLine_eq]; omega) ?_
          intro g9
          refine compRest_grow (fun i ys tl => ys = (bs.take i).map Value.bool) ?_ ?_ rfl
          · intro i v ys3 tl I oI C oC D m₂ h tk E' hi hP hJ hC hx F N off ne
            refine ea1_2 (goal_at hG2 hP) ?_
            intro b hb hg
            cases hg with
            | none =>
              k_steps
              unfold Hold
              exact compEnd_tl (add := []) (by assumption) (by assumption) .nil off (.inr ⟨_, List.mem_append.mpr (.inr (.tail _ (.tail _ (.head _)))), rfl, _, rfl⟩) (by rw [List.take_add_one, hb, hJ]; simp)
            | some hT =>
              refine ea12_4 (hT) ?_
              intro tg dt rx h1 h2 h3 k1 k2 k3 t nl n er12 m1 m2 m3
              subst er12
              k_steps
              unfold Hold
              exact compEnd_tl (add := []) (by assumption) (by assumption) .nil off (.inr ⟨_, List.mem_append.mpr (.inr (.tail _ (.tail _ (.head _)))), rfl, _, rfl⟩) (by rw [List.take_add_one, hb, hJ]; simp)
          · intro ys4 tl4 hJ4
            rw [List.size_toArray, hG2.length, List.take_length] at hJ4
            subst hJ4
            k_steps
            unfold Hold
            rename News _ _ _ _ => N9
            refine neBools (bs := bs) N9 (.head _) (.tail _ (List.mem_append.mpr (.inr (.head _)))) (by ktr_units) ?_
            refine ea1_3 (law_re (RX := RX2) (p1 := (lg, listOf ys.toArray cg)) (p2 := (lg, listOf ys.toArray cg)) (p3 := (lg, listOf ys.toArray cg)) N9 (.tail _ (List.mem_append.mpr (.inr (.tail _ (.tail _ (.head _)))))) (.tail _ (List.mem_append.mpr (.inr (.tail _ (.tail _ (.head _)))))) (.tail _ (List.mem_append.mpr (.inr (.tail _ (.tail _ (.head _)))))) (fun p hp => .tail _ (List.mem_append.mpr (.inr (.tail _ (.tail _ (.tail _ (.tail _ hp)))))))) ?_
            intro RX3 N10 hs1 hs2
            replace hG2 := hG2.mono hs1
            clear N9 hs1 hs2 hRX2
            k_steps
            unfold Hold
            refine LCt.CompSrcT.ledger (by rfl) (by k_asm) (by k_asm) (.head _) (by have := hL1.len; have h2 := hG2.length; have h3 := List.length_filter_le go out; have h4 := congrArg List.length hbs; rw [List.length_map] at h4; simp only [List.size_toArray, sizeLine_eq]; omega) ?_
            intro g9
            refine compRestT_same (fun i ys => ys = []) ?_ ?_ rfl
            · rintro i v ys3 I oI C oC D9 m₂ h tk E' hi hP rfl hC hx F3 N3 off ne
              refine ea1_2 (goal_at hG2 hP) ?_
              intro b hb hg
              cases hg with
              | none =>
                k_steps
                unfold Hold
                exact LCg.CompEnd.intro (by assumption) (by assumption) _ (fun _ h => h) off (.inr ⟨_, .head _, rfl, _, rfl⟩) ⟨rfl, rfl⟩
              | some hT =>
                refine ea12_4 (hT) ?_
                intro tg dt rx h1 h2 h3 k1 k2 k3 t nl n er12 m1 m2 m3
                subst er12
                cases m3
                k_steps
                unfold Hold
                rename News _ _ _ _ => N9
                refine neDat N9 (d := .tuple [.str "Fit", .tuple [.int 3, .int 0]]) (.tuple (.tail _ (.tail _ (.head _))) (.cons (.str _ _) (.cons (.tuple (.tail _ (.tail _ (.tail _ (.head _)))) (.cons (.int _ _) (.cons (.int _ _) .nil))) .nil))) (fun _ h => h) (.tuple (.head _) (.cons (.str _ _) (.cons (.tuple (.tail _ (.head _)) (.cons (.int _ _) (.cons (.int _ _) .nil))) .nil))) (fun _ h => h) (by decide +kernel) (by ktr_units) ?_
                k_steps
                unfold Hold
                exact LCg.CompEnd.intro (by assumption) N9 _ (fun p hp => .tail _ (.tail _ (.tail _ (.tail _ hp)))) off (.inr ⟨_, .head _, rfl, _, rfl⟩) ⟨rfl, rfl⟩
            · rintro ws rfl
              k_steps
              unfold Hold
              rename News _ _ _ _ => N9
              refine eqNil N9 (.tail _ (.head _)) (.head _) (by ktr_units) ?_
              k_steps)
end law
end Mine
theorem PySem.Challenge.cw_pb0483_01_holds : PySem.Challenge.rw_pb0483_01.Holds := by
  exact Mine.law_walks
