import PyProof.Rows.All
import Wide.All
import OpenK.AllK
import Wide.FinOn
import PySem.Challenge.RW_nn0161_01
open PySem PySem.W PySem.Calls PyProof.Rows PySem.Spec
set_option Elab.async false
set_option linter.all false
set_option maxRecDepth 100000
set_option maxHeartbeats 0
namespace Mine
noncomputable def z0 : Str := Str.ofString "z"
theorem z1 : z0 = z0 := rfl
name_quick tw13215998728584607739 for Mine.z0 by Mine.z1
name_quick tw6250672158363226905 for Mine.z0 by Mine.z1
name_quick tw2364824441312284604 for Mine.z0 by Mine.z1
name_quick tw227664154600733314 for Mine.z0 by Mine.z1
name_quick tw2338038790917138176 for Mine.z0 by Mine.z1
name_quick tw4084157530781037267 for Mine.z0 by Mine.z1
name_quick tw15646459291423432768 for Mine.z0 by Mine.z1
name_quick tw10644746117286937887 for Mine.z0 by Mine.z1
name_quick tw1010255546594321568 for Mine.z0 by Mine.z1
name_quick tw14777955251499897993 for Mine.z0 by Mine.z1
name_quick tw100903727374466824 for Mine.z0 by Mine.z1
name_quick tw11313744364127287754 for Mine.z0 by Mine.z1
name_quick tw15446528097191938475 for Mine.z0 by Mine.z1
name_quick tw13377344109577151345 for Mine.z0 by Mine.z1
name_quick tw2470970980972406893 for Mine.z0 by Mine.z1
name_quick tw1236312531815940901 for Mine.z0 by Mine.z1
name_quick tw16814231209383434906 for Mine.z0 by Mine.z1
name_quick tw7876582115897175935 for Mine.z0 by Mine.z1
name_quick tw5971964048767367048 for Mine.z0 by Mine.z1
name_quick tw8075568018651887793 for Mine.z0 by Mine.z1
name_quick tw17988542015724977305 for Mine.z0 by Mine.z1
name_quick tw6670331260654960098 for Mine.z0 by Mine.z1
name_quick tw14979626087600564940 for Mine.z0 by Mine.z1
name_quick tw17111948838632640456 for Mine.z0 by Mine.z1
name_quick tw856264945809894966 for Mine.z0 by Mine.z1
name_quick tw9691624938235723451 for Mine.z0 by Mine.z1
name_quick tw5731285843209492418 for Mine.z0 by Mine.z1
name_quick tw13597890204796452341 for Mine.z0 by Mine.z1
name_quick tw3617457638285551141 for Mine.z0 by Mine.z1
name_quick tw16394263211010952825 for Mine.z0 by Mine.z1
name_quick tw13807232174902173590 for Mine.z0 by Mine.z1
name_quick tw177158693165709750 for Mine.z0 by Mine.z1
name_quick tw12896934618165308513 for Mine.z0 by Mine.z1
name_quick tw3883092909986881936 for Mine.z0 by Mine.z1
name_quick tw11644210207450386103 for Mine.z0 by Mine.z1
name_quick tw10250732866820691176 for Mine.z0 by Mine.z1
name_quick tw4263822450398463332 for Mine.z0 by Mine.z1
name_quick tw1846644237745413780 for Mine.z0 by Mine.z1
name_quick tw9727679257558441252 for Mine.z0 by Mine.z1
name_quick tw12764180798541135625 for Mine.z0 by Mine.z1
name_quick tw9347022808187582730 for Mine.z0 by Mine.z1
name_quick tw9908251947323293946 for Mine.z0 by Mine.z1
name_quick tw8579058602437062094 for Mine.z0 by Mine.z1
name_quick tw17018628822417861297 for Mine.z0 by Mine.z1
name_quick tw10833955939284561965 for Mine.z0 by Mine.z1
name_quick tw13145125596335152023 for Mine.z0 by Mine.z1
name_quick tw4636218855388986860 for Mine.z0 by Mine.z1
name_quick tw9948023125614773506 for Mine.z0 by Mine.z1
name_quick tw14108194823987119177 for Mine.z0 by Mine.z1
name_quick tw7276740287692124622 for Mine.z0 by Mine.z1
name_quick tw12233582284571471492 for Mine.z0 by Mine.z1
name_quick tw7275051467321613617 for Mine.z0 by Mine.z1
name_quick tw15480198773659482676 for Mine.z0 by Mine.z1
name_quick tw9564595351457756722 for Mine.z0 by Mine.z1
name_quick tw6380047634161181297 for Mine.z0 by Mine.z1
name_quick tw10942035263794033107 for Mine.z0 by Mine.z1
name_quick tw8860024209350480642 for Mine.z0 by Mine.z1
name_quick tw10010936943081839664 for Mine.z0 by Mine.z1
name_quick tw4980102563643897964 for Mine.z0 by Mine.z1
name_quick tw14537914154153760125 for Mine.z0 by Mine.z1
name_quick tw6589095468515690095 for Mine.z0 by Mine.z1
name_quick tw13607416678640721797 for Mine.z0 by Mine.z1
name_quick tw18345786424863182364 for Mine.z0 by Mine.z1
name_quick tw1962928258387122110 for Mine.z0 by Mine.z1
name_quick tw1503297043503765363 for Mine.z0 by Mine.z1
name_quick tw10007627690174824804 for Mine.z0 by Mine.z1
name_quick tw13016732220969518872 for Mine.z0 by Mine.z1
name_quick tw1829445100760108279 for Mine.z0 by Mine.z1
name_quick tw15112985482279097393 for Mine.z0 by Mine.z1
name_quick tw704327219915372674 for Mine.z0 by Mine.z1
name_quick tw10528696920762540405 for Mine.z0 by Mine.z1
name_quick tw10948738476641704880 for Mine.z0 by Mine.z1
name_quick tw951843321253372498 for Mine.z0 by Mine.z1
name_quick tw1702518465993881591 for Mine.z0 by Mine.z1
name_quick tw8424611434330503625 for Mine.z0 by Mine.z1
name_quick tw3891137856419664920 for Mine.z0 by Mine.z1
name_quick tw7892128664451923741 for Mine.z0 by Mine.z1
name_quick tw16350708796919097252 for Mine.z0 by Mine.z1
name_quick tw6679490504615227074 for Mine.z0 by Mine.z1
name_quick tw8753696776887207221 for Mine.z0 by Mine.z1
name_quick tw392140993173905013 for Mine.z0 by Mine.z1
name_quick tw15980859228951719591 for Mine.z0 by Mine.z1
name_quick tw3972328310683599613 for Mine.z0 by Mine.z1
name_quick tw17000458434675057986 for Mine.z0 by Mine.z1
name_quick tw17069979004554194336 for Mine.z0 by Mine.z1
name_quick tw7269565832213808900 for Mine.z0 by Mine.z1
name_quick tw18056578402003937789 for Mine.z0 by Mine.z1
name_quick tw1414301608579184545 for Mine.z0 by Mine.z1
name_quick tw13900631225919944168 for Mine.z0 by Mine.z1
name_quick tw17279654841073493023 for Mine.z0 by Mine.z1
name_quick tw282004115355043989 for Mine.z0 by Mine.z1
name_quick tw151948405760981731 for Mine.z0 by Mine.z1
name_quick tw4302124980754421698 for Mine.z0 by Mine.z1
name_quick tw16916688483869632129 for Mine.z0 by Mine.z1
name_quick tw16049961110935095269 for Mine.z0 by Mine.z1
name_quick tw1258717718454355964 for Mine.z0 by Mine.z1
name_quick tw17672482021469178181 for Mine.z0 by Mine.z1
name_quick tw4090926877573551719 for Mine.z0 by Mine.z1
name_quick tw14333388528381170442 for Mine.z0 by Mine.z1
name_quick tw17476080006546285661 for Mine.z0 by Mine.z1
name_quick tw3282434896037501709 for Mine.z0 by Mine.z1
name_quick tw3764465048917985505 for Mine.z0 by Mine.z1
name_quick tw18340240734955500558 for Mine.z0 by Mine.z1
name_quick tw13335737130258781183 for Mine.z0 by Mine.z1
name_quick tw14834023430324568649 for Mine.z0 by Mine.z1
name_quick tw11420187438672877268 for Mine.z0 by Mine.z1
name_quick tw7745614565497352828 for Mine.z0 by Mine.z1
name_quick tw17975652961387846372 for Mine.z0 by Mine.z1
name_quick tw4011157648589011858 for Mine.z0 by Mine.z1
name_quick tw1258299570235058372 for Mine.z0 by Mine.z1
name_quick tw16531745337717519161 for Mine.z0 by Mine.z1
name_quick tw14714103240675001986 for Mine.z0 by Mine.z1
name_quick tw3152983702415266003 for Mine.z0 by Mine.z1
name_quick tw18220123701641295943 for Mine.z0 by Mine.z1
name_quick tw1291980286583624508 for Mine.z0 by Mine.z1
name_quick tw3636048126100218174 for Mine.z0 by Mine.z1
name_quick tw13236226663087606529 for Mine.z0 by Mine.z1
name_quick tw9011979029575296479 for Mine.z0 by Mine.z1
name_quick tw8603108125212654177 for Mine.z0 by Mine.z1
name_quick tw13317431791736044220 for Mine.z0 by Mine.z1
name_quick tw8376441433122354887 for Mine.z0 by Mine.z1
name_quick tw15475462885187679331 for Mine.z0 by Mine.z1
name_quick tw10227693086864044499 for Mine.z0 by Mine.z1
name_quick tw2862820112641550484 for Mine.z0 by Mine.z1
name_quick tw1333364371103165705 for Mine.z0 by Mine.z1
name_quick tw9467589175468403638 for Mine.z0 by Mine.z1
name_quick tw16018607276475445134 for Mine.z0 by Mine.z1
name_quick tw5721027456603625697 for Mine.z0 by Mine.z1
name_quick tw15007238320947547705 for Mine.z0 by Mine.z1
name_quick tw8703263022893421829 for Mine.z0 by Mine.z1
name_quick tw6245536207120538393 for Mine.z0 by Mine.z1
name_quick tw16241802466949684156 for Mine.z0 by Mine.z1
name_quick tw6683783046931543321 for Mine.z0 by Mine.z1
name_quick tw8537084889766193716 for Mine.z0 by Mine.z1
name_quick tw15066959818950650227 for Mine.z0 by Mine.z1
name_quick tw9862997608875712007 for Mine.z0 by Mine.z1
name_quick tw17532718790514356516 for Mine.z0 by Mine.z1
name_quick tw16817318245366136608 for Mine.z0 by Mine.z1
name_quick tw15168306246750427876 for Mine.z0 by Mine.z1
name_quick tw10938465397075749097 for Mine.z0 by Mine.z1
name_quick tw1218959903707654005 for Mine.z0 by Mine.z1
name_quick tw16414604833108395602 for Mine.z0 by Mine.z1
name_quick tw12945451867199242903 for Mine.z0 by Mine.z1
name_quick tw12268644228514654432 for Mine.z0 by Mine.z1
name_quick tw15263041282635125899 for Mine.z0 by Mine.z1
name_quick tw5349121933718820234 for Mine.z0 by Mine.z1
name_quick tw2478078296215019888 for Mine.z0 by Mine.z1
name_quick tw8693227569615203950 for Mine.z0 by Mine.z1
name_quick tw7232422423428716515 for Mine.z0 by Mine.z1
name_quick tw10029231156530900338 for Mine.z0 by Mine.z1
name_quick tw14223099787259518943 for Mine.z0 by Mine.z1
name_quick tw3619232141914619222 for Mine.z0 by Mine.z1
name_quick tw4558998842232669794 for Mine.z0 by Mine.z1
name_quick tw662354867322794072 for Mine.z0 by Mine.z1
name_quick tw11317593695737139937 for Mine.z0 by Mine.z1
name_quick tw5978237884098788730 for Mine.z0 by Mine.z1
name_quick tw5268983451555188008 for Mine.z0 by Mine.z1
name_quick tw16349804527192203551 for Mine.z0 by Mine.z1
name_quick tw505943868828395459 for Mine.z0 by Mine.z1
name_quick tw14168537005229113720 for Mine.z0 by Mine.z1
name_quick tw5770868932273138760 for Mine.z0 by Mine.z1
name_quick tw18350330562280901221 for Mine.z0 by Mine.z1
name_quick tw17497748084772794779 for Mine.z0 by Mine.z1
name_quick tw4527066259768149269 for Mine.z0 by Mine.z1
name_quick tw16593013826814733010 for Mine.z0 by Mine.z1
name_quick tw4933834842325187142 for Mine.z0 by Mine.z1
name_quick tw1355338860687761863 for Mine.z0 by Mine.z1
name_quick tw1537898542681612871 for Mine.z0 by Mine.z1
name_quick tw1377046205977697930 for Mine.z0 by Mine.z1
name_quick tw2627984346626558326 for Mine.z0 by Mine.z1
name_quick tw4552823106982906706 for Mine.z0 by Mine.z1
name_quick tw9407582987413476825 for Mine.z0 by Mine.z1
name_quick tw682011567655089306 for Mine.z0 by Mine.z1
name_quick tw3976722010076183465 for Mine.z0 by Mine.z1
name_quick tw14386061602966655976 for Mine.z0 by Mine.z1
name_quick tw4658958612460137192 for Mine.z0 by Mine.z1
name_quick tw13512673800721320934 for Mine.z0 by Mine.z1
name_quick tw17964007177503468958 for Mine.z0 by Mine.z1
name_quick tw11588390666370768167 for Mine.z0 by Mine.z1
name_quick tw4549333791460862111 for Mine.z0 by Mine.z1
name_quick tw15894407043143930727 for Mine.z0 by Mine.z1
name_quick tw117213463901210413 for Mine.z0 by Mine.z1
name_quick tw18211773271919218964 for Mine.z0 by Mine.z1
name_quick tw13254397897704925713 for Mine.z0 by Mine.z1
name_quick tw2719445374943340272 for Mine.z0 by Mine.z1
name_quick tw4292500188555128830 for Mine.z0 by Mine.z1
name_quick tw6929956602132211858 for Mine.z0 by Mine.z1
name_quick tw3577408171920636059 for Mine.z0 by Mine.z1
name_quick tw13981391230805400906 for Mine.z0 by Mine.z1
name_quick tw4775785305629353868 for Mine.z0 by Mine.z1
name_quick tw14884601019740666482 for Mine.z0 by Mine.z1
name_quick tw5706481520468235054 for Mine.z0 by Mine.z1
name_quick tw17532440430192770315 for Mine.z0 by Mine.z1
name_quick tw3362959441861295915 for Mine.z0 by Mine.z1
name_quick tw5032809538720368765 for Mine.z0 by Mine.z1
name_quick tw9763268239775435451 for Mine.z0 by Mine.z1
name_quick tw6434138532213402376 for Mine.z0 by Mine.z1
name_quick tw2408619945344806742 for Mine.z0 by Mine.z1
name_quick tw17730448691065144110 for Mine.z0 by Mine.z1
name_quick tw16741492637210864865 for Mine.z0 by Mine.z1
name_quick tw14326252917377295143 for Mine.z0 by Mine.z1
name_quick tw4679858250743294509 for Mine.z0 by Mine.z1
name_quick tw10996506086634736982 for Mine.z0 by Mine.z1
name_quick tw6122645084068987007 for Mine.z0 by Mine.z1
name_quick tw17954471519018878134 for Mine.z0 by Mine.z1
name_quick tw6004533443673955352 for Mine.z0 by Mine.z1
name_quick tw6654550962395885724 for Mine.z0 by Mine.z1
name_quick tw10205541121877940668 for Mine.z0 by Mine.z1
name_quick tw13789449189825218787 for Mine.z0 by Mine.z1
name_quick tw2039238271031011813 for Mine.z0 by Mine.z1
name_quick tw11566699232636054958 for Mine.z0 by Mine.z1
name_quick tw460243522976405022 for Mine.z0 by Mine.z1
name_quick tw5529568453561195837 for Mine.z0 by Mine.z1
name_quick tw15278061642289888581 for Mine.z0 by Mine.z1
name_quick tw12290603225136948437 for Mine.z0 by Mine.z1
name_quick tw11788150170368784547 for Mine.z0 by Mine.z1
name_quick tw11333186260410459676 for Mine.z0 by Mine.z1
name_quick tw17164873540382356111 for Mine.z0 by Mine.z1
name_quick tw1402947280878808549 for Mine.z0 by Mine.z1
name_quick tw11853533878840232495 for Mine.z0 by Mine.z1
name_quick tw15490439104401381959 for Mine.z0 by Mine.z1
name_quick tw5111356299099525756 for Mine.z0 by Mine.z1
name_quick tw8595292554425487202 for Mine.z0 by Mine.z1
name_quick tw5200128776193632040 for Mine.z0 by Mine.z1
name_quick tw3560238982266916124 for Mine.z0 by Mine.z1
name_quick tw16643706677886111943 for Mine.z0 by Mine.z1
name_quick tw5396446701170858492 for Mine.z0 by Mine.z1
name_quick tw1620339239838986703 for Mine.z0 by Mine.z1
name_quick tw16548257151911338427 for Mine.z0 by Mine.z1
name_quick tw18260038339965228139 for Mine.z0 by Mine.z1
name_quick tw16846860572762119324 for Mine.z0 by Mine.z1
name_quick tw13180171748994924942 for Mine.z0 by Mine.z1
name_quick tw8727135674562949291 for Mine.z0 by Mine.z1
name_quick tw9136488742655976645 for Mine.z0 by Mine.z1
name_quick tw13759679279233594173 for Mine.z0 by Mine.z1
name_quick tw11445135464325071761 for Mine.z0 by Mine.z1
name_quick tw7392212959928792091 for Mine.z0 by Mine.z1
name_quick tw14553827428707814869 for Mine.z0 by Mine.z1
name_quick tw7299303143086499733 for Mine.z0 by Mine.z1
name_quick tw11130039905162102590 for Mine.z0 by Mine.z1
name_quick tw12659028871203227004 for Mine.z0 by Mine.z1
name_quick tw7250012664060256230 for Mine.z0 by Mine.z1
name_quick tw13559156169165276386 for Mine.z0 by Mine.z1
name_quick tw14530364306720264245 for Mine.z0 by Mine.z1
name_quick tw2611137233208623240 for Mine.z0 by Mine.z1
name_quick tw387338674003428930 for Mine.z0 by Mine.z1
name_quick tw17828083071136270317 for Mine.z0 by Mine.z1
name_quick tw3093977132361051618 for Mine.z0 by Mine.z1
name_quick tw11277716924127702174 for Mine.z0 by Mine.z1
name_quick tw18101931140130867144 for Mine.z0 by Mine.z1
name_quick tw7323676302269181137 for Mine.z0 by Mine.z1
name_quick tw14433975572909055671 for Mine.z0 by Mine.z1
name_quick tw9759809726879904816 for Mine.z0 by Mine.z1
name_quick tw10706342367453228570 for Mine.z0 by Mine.z1
name_quick tw12635297910168745909 for Mine.z0 by Mine.z1
name_quick tw16643379632663270332 for Mine.z0 by Mine.z1
name_quick tw8119918657739134586 for Mine.z0 by Mine.z1
name_quick tw4978915544186085027 for Mine.z0 by Mine.z1
name_quick tw2664551874359636763 for Mine.z0 by Mine.z1
name_quick tw11306939235166856333 for Mine.z0 by Mine.z1
name_quick tw9501820088010722379 for Mine.z0 by Mine.z1
name_quick tw11939915149646268982 for Mine.z0 by Mine.z1
name_quick tw9285146279643344392 for Mine.z0 by Mine.z1
name_quick tw11452132507678324671 for Mine.z0 by Mine.z1
name_quick tw2670528217467546775 for Mine.z0 by Mine.z1
name_quick tw8719427161674164953 for Mine.z0 by Mine.z1
name_quick tw2660918139993853925 for Mine.z0 by Mine.z1
name_quick tw4075660801711882420 for Mine.z0 by Mine.z1
name_quick tw6817277305950994716 for Mine.z0 by Mine.z1
name_quick tw14023627001141898710 for Mine.z0 by Mine.z1
name_quick tw219737044198020058 for Mine.z0 by Mine.z1
name_quick tw2460228577881660442 for Mine.z0 by Mine.z1
name_quick tw2905824091091238844 for Mine.z0 by Mine.z1
name_quick tw3698559305507148144 for Mine.z0 by Mine.z1
name_quick tw17057272898397164401 for Mine.z0 by Mine.z1
name_quick tw10073347824450446311 for Mine.z0 by Mine.z1
name_quick tw18416463498863911781 for Mine.z0 by Mine.z1
name_quick tw10323183001455561277 for Mine.z0 by Mine.z1
name_quick tw17552769576498331613 for Mine.z0 by Mine.z1
name_quick tw9529234661008812162 for Mine.z0 by Mine.z1
name_quick tw9594665118957945026 for Mine.z0 by Mine.z1
name_quick tw7581352650102555174 for Mine.z0 by Mine.z1
name_quick tw16439824349840649037 for Mine.z0 by Mine.z1
name_quick tw7401281599722004195 for Mine.z0 by Mine.z1
name_quick tw16752143609539240740 for Mine.z0 by Mine.z1
name_quick tw15560500314895047343 for Mine.z0 by Mine.z1
name_quick tw5882768191206486792 for Mine.z0 by Mine.z1
name_quick tw4748654258956052638 for Mine.z0 by Mine.z1
name_quick tw16296994325663420285 for Mine.z0 by Mine.z1
name_quick tw6550987210724342151 for Mine.z0 by Mine.z1
name_quick tw7496433998918960881 for Mine.z0 by Mine.z1
name_quick tw667198328695590252 for Mine.z0 by Mine.z1
name_quick tw15919542637913265678 for Mine.z0 by Mine.z1
name_quick tw15663404670287596823 for Mine.z0 by Mine.z1
name_quick tw3856783459128436802 for Mine.z0 by Mine.z1
name_quick tw11964429278604863157 for Mine.z0 by Mine.z1
name_quick tw14073706353221006472 for Mine.z0 by Mine.z1
name_quick tw9458956999447867950 for Mine.z0 by Mine.z1
name_quick tw17846936440860909165 for Mine.z0 by Mine.z1
name_quick tw13640514254501968386 for Mine.z0 by Mine.z1
name_quick tw11994158751524154303 for Mine.z0 by Mine.z1
name_quick tw12635813782599140982 for Mine.z0 by Mine.z1
name_quick tw6711915476519705758 for Mine.z0 by Mine.z1
name_quick tw11636919720809706868 for Mine.z0 by Mine.z1
name_quick tw9951705424602377420 for Mine.z0 by Mine.z1
name_quick tw13912434898499826684 for Mine.z0 by Mine.z1
name_quick tw912392155897948271 for Mine.z0 by Mine.z1
name_quick tw1617757218408452269 for Mine.z0 by Mine.z1
name_quick tw8400853705098224536 for Mine.z0 by Mine.z1
name_quick tw8098380416015320538 for Mine.z0 by Mine.z1
name_quick tw12329403913580668285 for Mine.z0 by Mine.z1
name_quick tw11462045893675790159 for Mine.z0 by Mine.z1
name_quick tw4407734736301137906 for Mine.z0 by Mine.z1
name_quick tw11161088081135249708 for Mine.z0 by Mine.z1
name_quick tw16979880578912567463 for Mine.z0 by Mine.z1
name_quick tw4039474712603431140 for Mine.z0 by Mine.z1
name_quick tw14896874001708588922 for Mine.z0 by Mine.z1
name_quick tw13141144453892091621 for Mine.z0 by Mine.z1
name_quick tw15450981722951097364 for Mine.z0 by Mine.z1
name_quick tw6019396324639902685 for Mine.z0 by Mine.z1
name_quick tw12813236842856870187 for Mine.z0 by Mine.z1
name_quick tw16697116713213952808 for Mine.z0 by Mine.z1
name_quick tw7650934615059315214 for Mine.z0 by Mine.z1
name_quick tw15323854079317868165 for Mine.z0 by Mine.z1
name_quick tw5135500740108067664 for Mine.z0 by Mine.z1
name_quick tw183835017167291270 for Mine.z0 by Mine.z1
name_quick tw3820604794100220378 for Mine.z0 by Mine.z1
name_quick tw3039592710220408265 for Mine.z0 by Mine.z1
name_quick tw721709456127091705 for Mine.z0 by Mine.z1
name_quick tw7198390536060210744 for Mine.z0 by Mine.z1
name_quick tw1574873078441994576 for Mine.z0 by Mine.z1
name_quick tw9931943479562821362 for Mine.z0 by Mine.z1
name_quick tw4319705520415482375 for Mine.z0 by Mine.z1
name_quick tw13615603153576403970 for Mine.z0 by Mine.z1
name_quick tw3424931102881643321 for Mine.z0 by Mine.z1
name_quick tw11013792430000457035 for Mine.z0 by Mine.z1
name_quick tw17804436615005485693 for Mine.z0 by Mine.z1
name_quick tw10314498396905981064 for Mine.z0 by Mine.z1
name_quick tw9800571698397750058 for Mine.z0 by Mine.z1
name_quick tw12850107946570832962 for Mine.z0 by Mine.z1
name_quick tw9979284746773624096 for Mine.z0 by Mine.z1
name_quick tw17517737089405305841 for Mine.z0 by Mine.z1
name_quick tw11310463157757771331 for Mine.z0 by Mine.z1
name_quick tw6662432510661729299 for Mine.z0 by Mine.z1
name_quick tw8708707556590381134 for Mine.z0 by Mine.z1
name_quick tw17274371674624000324 for Mine.z0 by Mine.z1
name_quick tw9151444980202551346 for Mine.z0 by Mine.z1
name_quick tw8017206721242287953 for Mine.z0 by Mine.z1
name_quick tw10317580896714288900 for Mine.z0 by Mine.z1
name_quick tw5345256250457102556 for Mine.z0 by Mine.z1
name_quick tw8032284361305108907 for Mine.z0 by Mine.z1
name_quick tw15900120412870309639 for Mine.z0 by Mine.z1
name_quick tw3264259588550801142 for Mine.z0 by Mine.z1
name_quick tw7299951869573292228 for Mine.z0 by Mine.z1
name_quick tw12832477231654346042 for Mine.z0 by Mine.z1
name_quick tw1706496860858754268 for Mine.z0 by Mine.z1
name_quick tw12392613427281201732 for Mine.z0 by Mine.z1
name_quick tw16176465441171805009 for Mine.z0 by Mine.z1
name_quick tw10470071008263537045 for Mine.z0 by Mine.z1
name_quick tw7397068168572129948 for Mine.z0 by Mine.z1
name_quick tw12734952128020822468 for Mine.z0 by Mine.z1
name_quick tw6363645014702824404 for Mine.z0 by Mine.z1
name_quick tw1156252341971683116 for Mine.z0 by Mine.z1
name_quick tw17863021456227041891 for Mine.z0 by Mine.z1
name_quick tw2711585505577850959 for Mine.z0 by Mine.z1
name_quick tw8796240567053077481 for Mine.z0 by Mine.z1
name_quick tw7035115661146626270 for Mine.z0 by Mine.z1
name_quick tw11863081143760314161 for Mine.z0 by Mine.z1
name_quick tw16947794391021106201 for Mine.z0 by Mine.z1
name_quick tw5732905514179830355 for Mine.z0 by Mine.z1
name_quick tw1749818173716722547 for Mine.z0 by Mine.z1
name_quick tw9376109419431680627 for Mine.z0 by Mine.z1
name_quick tw12835720964997663042 for Mine.z0 by Mine.z1
name_quick tw2447775223705975068 for Mine.z0 by Mine.z1
name_quick tw6059929106960060952 for Mine.z0 by Mine.z1
name_quick tw12825359941727978080 for Mine.z0 by Mine.z1
name_quick tw7365555872484859036 for Mine.z0 by Mine.z1
name_quick tw12177639751122801600 for Mine.z0 by Mine.z1
name_quick tw17434858337260393937 for Mine.z0 by Mine.z1
name_quick tw15823609455315575823 for Mine.z0 by Mine.z1
name_quick tw17001327861769816259 for Mine.z0 by Mine.z1
name_quick tw12371321757623732685 for Mine.z0 by Mine.z1
name_quick tw1772237422875290029 for Mine.z0 by Mine.z1
name_quick tw10919533547850550483 for Mine.z0 by Mine.z1
name_quick tw16349216596472256690 for Mine.z0 by Mine.z1
name_quick tw14112274594779413971 for Mine.z0 by Mine.z1
name_quick tw878741703135273975 for Mine.z0 by Mine.z1
name_quick tw13002492023102617099 for Mine.z0 by Mine.z1
name_quick tw11108263761283441063 for Mine.z0 by Mine.z1
name_quick tw15423634916342008072 for Mine.z0 by Mine.z1
name_quick tw7009043117176579089 for Mine.z0 by Mine.z1
name_quick tw5518745428033880147 for Mine.z0 by Mine.z1
name_quick tw1735497430108182060 for Mine.z0 by Mine.z1
name_quick tw13642483538084851733 for Mine.z0 by Mine.z1
name_quick tw7783732958741208154 for Mine.z0 by Mine.z1
name_quick tw13776390136698705113 for Mine.z0 by Mine.z1
name_quick tw6434265647005701932 for Mine.z0 by Mine.z1
name_quick tw12393455550290869266 for Mine.z0 by Mine.z1
name_quick tw8224813933742928703 for Mine.z0 by Mine.z1
name_quick tw9626621113073979434 for Mine.z0 by Mine.z1
name_quick tw17300597898927385350 for Mine.z0 by Mine.z1
name_quick tw15079194523842364033 for Mine.z0 by Mine.z1
name_quick tw3118938333895590913 for Mine.z0 by Mine.z1
name_quick tw7581816359482902497 for Mine.z0 by Mine.z1
name_quick tw15542503528162795033 for Mine.z0 by Mine.z1
name_quick tw12022618010286034681 for Mine.z0 by Mine.z1
name_quick tw2354101950205528012 for Mine.z0 by Mine.z1
name_quick tw4275521005467322725 for Mine.z0 by Mine.z1
name_quick tw8253183596043897158 for Mine.z0 by Mine.z1
name_quick tw14210447440969649564 for Mine.z0 by Mine.z1
name_quick tw8989982439271903415 for Mine.z0 by Mine.z1
name_quick tw2193789692954389824 for Mine.z0 by Mine.z1
name_quick tw1886563365779066154 for Mine.z0 by Mine.z1
name_quick tw5823794197072137003 for Mine.z0 by Mine.z1
name_quick tw6135381517318000843 for Mine.z0 by Mine.z1
name_quick tw6426273055680023932 for Mine.z0 by Mine.z1
name_quick tw4921902886906138986 for Mine.z0 by Mine.z1
name_quick tw9676229304581654039 for Mine.z0 by Mine.z1
name_quick tw16413264400604254196 for Mine.z0 by Mine.z1
name_quick tw16869277618539721502 for Mine.z0 by Mine.z1
name_quick tw12898947447245864913 for Mine.z0 by Mine.z1
name_quick tw9305782018832362445 for Mine.z0 by Mine.z1
name_quick tw11790162104776037713 for Mine.z0 by Mine.z1
name_quick tw15195428891847259777 for Mine.z0 by Mine.z1
name_quick tw3315324234476444515 for Mine.z0 by Mine.z1
name_quick tw558745408833754511 for Mine.z0 by Mine.z1
name_quick tw17537794083376710389 for Mine.z0 by Mine.z1
name_quick tw1638017585896720355 for Mine.z0 by Mine.z1
name_quick tw16180582048198870337 for Mine.z0 by Mine.z1
name_quick tw1041845030581493396 for Mine.z0 by Mine.z1
name_quick tw5697894365363955025 for Mine.z0 by Mine.z1
name_quick tw12450158673883907302 for Mine.z0 by Mine.z1
name_quick tw1419416864934026935 for Mine.z0 by Mine.z1
name_quick tw5925582254088234700 for Mine.z0 by Mine.z1
name_quick tw8047484207015712433 for Mine.z0 by Mine.z1
name_quick tw11838138170533393997 for Mine.z0 by Mine.z1
name_quick tw7504490480230193789 for Mine.z0 by Mine.z1
name_quick tw6722154040420286063 for Mine.z0 by Mine.z1
name_quick tw13987355940573415152 for Mine.z0 by Mine.z1
name_quick tw11796506867022685745 for Mine.z0 by Mine.z1
name_quick tw18263319221461684349 for Mine.z0 by Mine.z1
name_quick tw15034313371233782410 for Mine.z0 by Mine.z1
name_quick tw16494616584097029746 for Mine.z0 by Mine.z1
name_quick tw1370275717833778536 for Mine.z0 by Mine.z1
name_quick tw2968979199505139716 for Mine.z0 by Mine.z1
name_quick tw12981051755390344553 for Mine.z0 by Mine.z1
name_quick tw15806122291839087668 for Mine.z0 by Mine.z1
name_quick tw8902219603052485911 for Mine.z0 by Mine.z1
name_quick tw3436264866546951355 for Mine.z0 by Mine.z1
name_quick tw2599325451414397859 for Mine.z0 by Mine.z1
name_quick tw11519604305632133818 for Mine.z0 by Mine.z1
name_quick tw10500077913531017323 for Mine.z0 by Mine.z1
name_quick tw6967401301877209104 for Mine.z0 by Mine.z1
name_quick tw1320183511955256522 for Mine.z0 by Mine.z1
name_quick tw7286323032743288035 for Mine.z0 by Mine.z1
name_quick tw15376083050721069600 for Mine.z0 by Mine.z1
name_quick tw11892598404827812706 for Mine.z0 by Mine.z1
name_quick tw607167704815816724 for Mine.z0 by Mine.z1
name_quick tw16437185098154296904 for Mine.z0 by Mine.z1
name_quick tw3386650904741475044 for Mine.z0 by Mine.z1
name_quick tw441327347791068078 for Mine.z0 by Mine.z1
name_quick tw1055568401681811165 for Mine.z0 by Mine.z1
name_quick tw6714822604882049554 for Mine.z0 by Mine.z1
name_quick tw16406328271908756883 for Mine.z0 by Mine.z1
name_quick tw5248340912204065574 for Mine.z0 by Mine.z1
name_quick tw3470799630455053000 for Mine.z0 by Mine.z1
name_quick tw3209381107111851631 for Mine.z0 by Mine.z1
name_quick tw9396933662098498411 for Mine.z0 by Mine.z1
name_quick tw16874561944515371726 for Mine.z0 by Mine.z1
name_quick tw8620020772036689432 for Mine.z0 by Mine.z1
name_quick tw9300948228871686676 for Mine.z0 by Mine.z1
name_quick tw17244072584429378644 for Mine.z0 by Mine.z1
name_quick tw7585139358526817783 for Mine.z0 by Mine.z1
name_quick tw13915792640404377917 for Mine.z0 by Mine.z1
name_quick tw757081541053455785 for Mine.z0 by Mine.z1
name_quick tw11957962974430299695 for Mine.z0 by Mine.z1
name_quick tw10670733350059645105 for Mine.z0 by Mine.z1
name_quick tw17394056326795013819 for Mine.z0 by Mine.z1
name_quick tw1763209079605825380 for Mine.z0 by Mine.z1
name_quick tw189603312586018693 for Mine.z0 by Mine.z1
name_quick tw17352973434858128600 for Mine.z0 by Mine.z1
name_quick tw17101871299007795629 for Mine.z0 by Mine.z1
name_quick tw5565278806992967083 for Mine.z0 by Mine.z1
name_quick tw13314330512976039754 for Mine.z0 by Mine.z1
name_quick tw7802139600951554647 for Mine.z0 by Mine.z1
name_quick tw16655555454665732581 for Mine.z0 by Mine.z1
name_quick tw10015664371746657536 for Mine.z0 by Mine.z1
name_quick tw2378363196638174374 for Mine.z0 by Mine.z1
name_quick tw6587116730350146372 for Mine.z0 by Mine.z1
name_quick tw4681523508651956083 for Mine.z0 by Mine.z1
name_quick tw16432479971616331241 for Mine.z0 by Mine.z1
name_quick tw13526986893379352335 for Mine.z0 by Mine.z1
name_quick tw6090905460779295987 for Mine.z0 by Mine.z1
name_quick tw1204117194425446250 for Mine.z0 by Mine.z1
name_quick tw12488000419048109807 for Mine.z0 by Mine.z1
name_quick tw14778209649434054790 for Mine.z0 by Mine.z1
name_quick tw8459811325457737761 for Mine.z0 by Mine.z1
name_quick tw16339471991904476338 for Mine.z0 by Mine.z1
name_quick tw12224578244612797663 for Mine.z0 by Mine.z1
name_quick tw2922074901204462755 for Mine.z0 by Mine.z1
name_quick tw4904739604578439355 for Mine.z0 by Mine.z1
name_quick tw7483462131439158144 for Mine.z0 by Mine.z1
name_quick tw2736616831223182526 for Mine.z0 by Mine.z1
name_quick tw4278798014809849964 for Mine.z0 by Mine.z1
name_quick tw2401699919119007470 for Mine.z0 by Mine.z1
name_quick tw14971970265804392439 for Mine.z0 by Mine.z1
name_quick tw2902314222560053993 for Mine.z0 by Mine.z1
name_quick tw4172830789200971933 for Mine.z0 by Mine.z1
name_quick tw6148621092414575339 for Mine.z0 by Mine.z1
name_quick tw15562837088269578035 for Mine.z0 by Mine.z1
name_quick tw10379131730601215995 for Mine.z0 by Mine.z1
name_quick tw17774800907425398282 for Mine.z0 by Mine.z1
name_quick tw14973007898608030118 for Mine.z0 by Mine.z1
name_quick tw13471461260053382970 for Mine.z0 by Mine.z1
name_quick tw6144853644547557980 for Mine.z0 by Mine.z1
name_quick tw6789855027759293466 for Mine.z0 by Mine.z1
name_quick tw9236875199018929784 for Mine.z0 by Mine.z1
name_quick tw9673203406766833760 for Mine.z0 by Mine.z1
name_quick tw7619357645376055252 for Mine.z0 by Mine.z1
name_quick tw17520869792638436183 for Mine.z0 by Mine.z1
name_quick tw15880737140895825463 for Mine.z0 by Mine.z1
name_quick tw15560853006256673968 for Mine.z0 by Mine.z1
name_quick tw9537544019596298400 for Mine.z0 by Mine.z1
name_quick tw973662469405803806 for Mine.z0 by Mine.z1
name_quick tw2958062672499776758 for Mine.z0 by Mine.z1
name_quick tw383695940523520267 for Mine.z0 by Mine.z1
name_quick tw14209830616999942402 for Mine.z0 by Mine.z1
name_quick tw12821735335276811757 for Mine.z0 by Mine.z1
name_quick tw17024950926791866790 for Mine.z0 by Mine.z1
name_quick tw16942194440817826258 for Mine.z0 by Mine.z1
name_quick tw14305139224198610471 for Mine.z0 by Mine.z1
name_quick tw14214133299417103183 for Mine.z0 by Mine.z1
name_quick tw9821368406582625841 for Mine.z0 by Mine.z1
name_quick tw325292655437039998 for Mine.z0 by Mine.z1
name_quick tw6909570525239066004 for Mine.z0 by Mine.z1
name_quick tw17765544955259793912 for Mine.z0 by Mine.z1
name_quick tw11817470609975844035 for Mine.z0 by Mine.z1
name_quick tw4936483359421988267 for Mine.z0 by Mine.z1
name_quick tw10939839348159177617 for Mine.z0 by Mine.z1
name_quick tw12647630874787467225 for Mine.z0 by Mine.z1
name_quick tw17280976486791472633 for Mine.z0 by Mine.z1
name_quick tw17913803186225011329 for Mine.z0 by Mine.z1
name_quick tw5976474108018559520 for Mine.z0 by Mine.z1
name_quick tw17341736924252097559 for Mine.z0 by Mine.z1
name_quick tw1708024556718086227 for Mine.z0 by Mine.z1
name_quick tw7469732015759309437 for Mine.z0 by Mine.z1
name_quick tw7140130562030077042 for Mine.z0 by Mine.z1
name_quick tw11495947367809530248 for Mine.z0 by Mine.z1
name_quick tw9219426015542480343 for Mine.z0 by Mine.z1
name_quick tw716658179208862652 for Mine.z0 by Mine.z1
name_quick tw2001226814458364393 for Mine.z0 by Mine.z1
name_quick tw17026713947507217902 for Mine.z0 by Mine.z1
name_quick tw5758256569797452207 for Mine.z0 by Mine.z1
name_quick tw3355348695024010778 for Mine.z0 by Mine.z1
name_quick tw18126140380344562322 for Mine.z0 by Mine.z1
name_quick tw16417370028952169744 for Mine.z0 by Mine.z1
name_quick tw17827458813498177553 for Mine.z0 by Mine.z1
name_quick tw12182807814244774211 for Mine.z0 by Mine.z1
name_quick tw1401972060568974870 for Mine.z0 by Mine.z1
name_quick tw4575980220486274672 for Mine.z0 by Mine.z1
name_quick tw12809422525583811893 for Mine.z0 by Mine.z1
name_quick tw14323765505736481980 for Mine.z0 by Mine.z1
name_quick tw930746551332336609 for Mine.z0 by Mine.z1
name_quick tw12945968074294007009 for Mine.z0 by Mine.z1
name_quick tw3327986453032591115 for Mine.z0 by Mine.z1
name_quick tw1139862187096482527 for Mine.z0 by Mine.z1
name_quick tw12095823642532355627 for Mine.z0 by Mine.z1
name_quick tw4405960384096086239 for Mine.z0 by Mine.z1
name_quick tw10352308551163946355 for Mine.z0 by Mine.z1
name_quick tw5862295025349918931 for Mine.z0 by Mine.z1
name_quick tw389472881494512206 for Mine.z0 by Mine.z1
name_quick tw14420389602138693270 for Mine.z0 by Mine.z1
name_quick tw10042830170769951172 for Mine.z0 by Mine.z1
name_quick tw13833065179229638619 for Mine.z0 by Mine.z1
name_quick tw9504726810853072989 for Mine.z0 by Mine.z1
name_quick tw4966893808263662355 for Mine.z0 by Mine.z1
name_quick tw10508251915553800215 for Mine.z0 by Mine.z1
name_quick tw16413963553889246368 for Mine.z0 by Mine.z1
name_quick tw17015423121036801654 for Mine.z0 by Mine.z1
name_quick tw7081425507203772304 for Mine.z0 by Mine.z1
name_quick tw13925586954763233925 for Mine.z0 by Mine.z1
name_quick tw18273839248471157720 for Mine.z0 by Mine.z1
name_quick tw1869930749605803152 for Mine.z0 by Mine.z1
name_quick tw18410474027866654770 for Mine.z0 by Mine.z1
name_quick tw10308316962582663543 for Mine.z0 by Mine.z1
name_quick tw2718901123391026995 for Mine.z0 by Mine.z1
name_quick tw16223305294053301992 for Mine.z0 by Mine.z1
name_quick tw5152784196030571298 for Mine.z0 by Mine.z1
name_quick tw17803129079492736432 for Mine.z0 by Mine.z1
name_quick tw13580328829973926956 for Mine.z0 by Mine.z1
name_quick tw7670514497116975361 for Mine.z0 by Mine.z1
name_quick tw11518781747449614426 for Mine.z0 by Mine.z1
name_quick tw6580340599500149305 for Mine.z0 by Mine.z1
name_quick tw1631149150583789468 for Mine.z0 by Mine.z1
name_quick tw16942504070071679284 for Mine.z0 by Mine.z1
name_quick tw13252181687094117063 for Mine.z0 by Mine.z1
name_quick tw17954736447514056666 for Mine.z0 by Mine.z1
name_quick tw6179359751918216688 for Mine.z0 by Mine.z1
name_quick tw13871001218405608335 for Mine.z0 by Mine.z1
name_quick tw15041003319150489328 for Mine.z0 by Mine.z1
name_quick tw18123110421147349612 for Mine.z0 by Mine.z1
name_quick tw17899373020297197333 for Mine.z0 by Mine.z1
name_quick tw17071476683966804577 for Mine.z0 by Mine.z1
name_quick tw9265879793445154701 for Mine.z0 by Mine.z1
name_quick tw3325841961599345399 for Mine.z0 by Mine.z1
name_quick tw17183712847048597117 for Mine.z0 by Mine.z1
name_quick tw15773981995205291829 for Mine.z0 by Mine.z1
name_quick tw7987952416473584550 for Mine.z0 by Mine.z1
name_quick tw2759451637364818457 for Mine.z0 by Mine.z1
name_quick tw6993175162768986339 for Mine.z0 by Mine.z1
name_quick tw11166942722945506595 for Mine.z0 by Mine.z1
name_quick tw9577309144901391297 for Mine.z0 by Mine.z1
name_quick tw14186486079044719983 for Mine.z0 by Mine.z1
name_quick tw13725850141900786883 for Mine.z0 by Mine.z1
name_quick tw8732485361984058174 for Mine.z0 by Mine.z1
name_quick tw8881496252177385917 for Mine.z0 by Mine.z1
name_quick tw8656719876789144132 for Mine.z0 by Mine.z1
name_quick tw18163708392712065173 for Mine.z0 by Mine.z1
name_quick tw503676674663206642 for Mine.z0 by Mine.z1
name_quick tw5149714755402479525 for Mine.z0 by Mine.z1
name_quick tw3953757239420563355 for Mine.z0 by Mine.z1
name_quick tw1107438419126420414 for Mine.z0 by Mine.z1
name_quick tw618205885557783147 for Mine.z0 by Mine.z1
name_quick tw7082770336023389322 for Mine.z0 by Mine.z1
name_quick tw3865406201487662470 for Mine.z0 by Mine.z1
name_quick tw14097648870716263351 for Mine.z0 by Mine.z1
name_quick tw6214688769961185500 for Mine.z0 by Mine.z1
name_quick tw15468230090516036684 for Mine.z0 by Mine.z1
name_quick tw17503288770812694035 for Mine.z0 by Mine.z1
name_quick tw11036193050239951465 for Mine.z0 by Mine.z1
name_quick tw13581749221687468397 for Mine.z0 by Mine.z1
name_quick tw5923252988546675246 for Mine.z0 by Mine.z1
name_quick tw16180483070735683940 for Mine.z0 by Mine.z1
name_quick tw17842620306162639686 for Mine.z0 by Mine.z1
name_quick tw1085346719588807367 for Mine.z0 by Mine.z1
name_quick tw13251646731365433171 for Mine.z0 by Mine.z1
name_quick tw6834602518627153040 for Mine.z0 by Mine.z1
name_quick tw3695515675974049574 for Mine.z0 by Mine.z1
name_quick tw17943406268862710625 for Mine.z0 by Mine.z1
name_quick tw15199281503961881116 for Mine.z0 by Mine.z1
name_quick tw563124612126607214 for Mine.z0 by Mine.z1
name_quick tw4879560196417449868 for Mine.z0 by Mine.z1
name_quick tw11328821685186248670 for Mine.z0 by Mine.z1
name_quick tw5450187663091677483 for Mine.z0 by Mine.z1
name_quick tw16865151637890581275 for Mine.z0 by Mine.z1
name_quick tw4858009861420398278 for Mine.z0 by Mine.z1
name_quick tw17475289236778735526 for Mine.z0 by Mine.z1
name_quick tw14981143343336467331 for Mine.z0 by Mine.z1
name_quick tw8430678208038309684 for Mine.z0 by Mine.z1
name_quick tw18011898689540126615 for Mine.z0 by Mine.z1
name_quick tw6952355047532471503 for Mine.z0 by Mine.z1
name_quick tw17814930658547583709 for Mine.z0 by Mine.z1
name_quick tw2504098582860672743 for Mine.z0 by Mine.z1
name_quick tw4613930686462287906 for Mine.z0 by Mine.z1
name_quick tw17993156020533580102 for Mine.z0 by Mine.z1
name_quick tw6012508502120743258 for Mine.z0 by Mine.z1
name_quick tw8987815912523675519 for Mine.z0 by Mine.z1
name_quick tw7503421922109321716 for Mine.z0 by Mine.z1
name_quick tw17139780236743587250 for Mine.z0 by Mine.z1
name_quick tw16366562015402752707 for Mine.z0 by Mine.z1
name_quick tw16873187988247708562 for Mine.z0 by Mine.z1
name_quick tw16326889199254633757 for Mine.z0 by Mine.z1
name_quick tw13160144027095335755 for Mine.z0 by Mine.z1
name_quick tw6380782515089751550 for Mine.z0 by Mine.z1
name_quick tw14544052848187043789 for Mine.z0 by Mine.z1
name_quick tw8610040677353227653 for Mine.z0 by Mine.z1
name_quick tw12679591844961189642 for Mine.z0 by Mine.z1
name_quick tw16292439048969090190 for Mine.z0 by Mine.z1
name_quick tw1102190903223815498 for Mine.z0 by Mine.z1
name_quick tw3267979357774110234 for Mine.z0 by Mine.z1
name_quick tw9575731206691268911 for Mine.z0 by Mine.z1
name_quick tw2370070277545300124 for Mine.z0 by Mine.z1
name_quick tw15215539614974913122 for Mine.z0 by Mine.z1
name_quick tw196644378293983589 for Mine.z0 by Mine.z1
name_quick tw39160002569200845 for Mine.z0 by Mine.z1
name_quick tw10819683100428557426 for Mine.z0 by Mine.z1
name_quick tw8946543629884556368 for Mine.z0 by Mine.z1
name_quick tw8704618095886561957 for Mine.z0 by Mine.z1
name_quick tw9794667896261083176 for Mine.z0 by Mine.z1
name_quick tw16039550372008468697 for Mine.z0 by Mine.z1
name_quick tw6127375697748050860 for Mine.z0 by Mine.z1
name_quick tw2011108890870493169 for Mine.z0 by Mine.z1
name_quick tw1379578315556383370 for Mine.z0 by Mine.z1
name_quick tw10758392820592806131 for Mine.z0 by Mine.z1
name_quick tw16758808235637498351 for Mine.z0 by Mine.z1
name_quick tw15736541856241217950 for Mine.z0 by Mine.z1
name_quick tw17325535178939296128 for Mine.z0 by Mine.z1
name_quick tw2569364866550412066 for Mine.z0 by Mine.z1
name_quick tw12731603968600162155 for Mine.z0 by Mine.z1
name_quick tw535072334866317008 for Mine.z0 by Mine.z1
name_quick tw12359285113459375979 for Mine.z0 by Mine.z1
name_quick tw15157221202141545114 for Mine.z0 by Mine.z1
name_quick tw5854881644878751223 for Mine.z0 by Mine.z1
name_quick tw3142773779024712118 for Mine.z0 by Mine.z1
name_quick tw3952652319720093869 for Mine.z0 by Mine.z1
name_quick tw17679261114430710190 for Mine.z0 by Mine.z1
name_quick tw4109823476700235019 for Mine.z0 by Mine.z1
name_quick tw16648231224745350325 for Mine.z0 by Mine.z1
name_quick tw10030586065758793078 for Mine.z0 by Mine.z1
name_quick tw17853915177807527196 for Mine.z0 by Mine.z1
name_quick tw3740020263889925745 for Mine.z0 by Mine.z1
name_quick tw5952267759425050802 for Mine.z0 by Mine.z1
name_quick tw9082586571710850966 for Mine.z0 by Mine.z1
name_quick tw17719373434677690450 for Mine.z0 by Mine.z1
name_quick tw6123655918767846522 for Mine.z0 by Mine.z1
name_quick tw4299136966843209011 for Mine.z0 by Mine.z1
name_quick tw774047393022817027 for Mine.z0 by Mine.z1
name_quick tw14043711374191979534 for Mine.z0 by Mine.z1
name_quick tw15207642765257501584 for Mine.z0 by Mine.z1
name_quick tw14952990662201256454 for Mine.z0 by Mine.z1
name_quick tw8999186272805695465 for Mine.z0 by Mine.z1
name_quick tw7229665172594901996 for Mine.z0 by Mine.z1
name_quick tw6607189417530752870 for Mine.z0 by Mine.z1
name_quick tw12177649209318274912 for Mine.z0 by Mine.z1
name_quick tw13951257522405164796 for Mine.z0 by Mine.z1
name_quick tw7405434945208526273 for Mine.z0 by Mine.z1
name_quick tw18188234029961486008 for Mine.z0 by Mine.z1
name_quick tw13505292571300825877 for Mine.z0 by Mine.z1
name_quick tw4800724452203346748 for Mine.z0 by Mine.z1
name_quick tw5228443966233409354 for Mine.z0 by Mine.z1
name_quick tw17045043414572947948 for Mine.z0 by Mine.z1
name_quick tw14934708107589980039 for Mine.z0 by Mine.z1
name_quick tw6832808476680081064 for Mine.z0 by Mine.z1
name_quick tw12114495157272644582 for Mine.z0 by Mine.z1
name_quick tw1536587703002861866 for Mine.z0 by Mine.z1
name_quick tw2078703811421203504 for Mine.z0 by Mine.z1
name_quick tw13746126617404028095 for Mine.z0 by Mine.z1
name_quick tw18163462532019968843 for Mine.z0 by Mine.z1
name_quick tw17172517015917474193 for Mine.z0 by Mine.z1
name_quick tw7618406622816332465 for Mine.z0 by Mine.z1
name_quick tw8649964590619651473 for Mine.z0 by Mine.z1
name_quick tw4824431525194463578 for Mine.z0 by Mine.z1
name_quick tw15315713394281565010 for Mine.z0 by Mine.z1
name_quick tw13903129631018457399 for Mine.z0 by Mine.z1
name_quick tw10138199336372458610 for Mine.z0 by Mine.z1
name_quick tw7074795694173733578 for Mine.z0 by Mine.z1
name_quick tw5853609219237828028 for Mine.z0 by Mine.z1
name_quick tw15059462757989803610 for Mine.z0 by Mine.z1
name_quick tw10719484529398299949 for Mine.z0 by Mine.z1
name_quick tw9736788993784561348 for Mine.z0 by Mine.z1
name_quick tw2674190319118857908 for Mine.z0 by Mine.z1
name_quick tw2370425770031549630 for Mine.z0 by Mine.z1
name_quick tw10028428298569065181 for Mine.z0 by Mine.z1
name_quick tw16645262185327669138 for Mine.z0 by Mine.z1
name_quick tw1210750091971509897 for Mine.z0 by Mine.z1
name_quick tw5720267713326709755 for Mine.z0 by Mine.z1
name_quick tw10964334890339321822 for Mine.z0 by Mine.z1
name_quick tw15808557625122938864 for Mine.z0 by Mine.z1
name_quick tw13902233598862641821 for Mine.z0 by Mine.z1
name_quick tw7573151900890175926 for Mine.z0 by Mine.z1
name_quick tw2506853364499732696 for Mine.z0 by Mine.z1
name_quick tw12456492676567594705 for Mine.z0 by Mine.z1
name_quick tw14909702598903578594 for Mine.z0 by Mine.z1
name_quick tw16127339712140622707 for Mine.z0 by Mine.z1
name_quick tw14427280190107063356 for Mine.z0 by Mine.z1
name_quick tw12973657651903071711 for Mine.z0 by Mine.z1
name_quick tw13551572312386263098 for Mine.z0 by Mine.z1
name_quick tw18310272354389090212 for Mine.z0 by Mine.z1
name_quick tw1544652992362985085 for Mine.z0 by Mine.z1
name_quick tw12989987162080215863 for Mine.z0 by Mine.z1
name_quick tw10650810973499830745 for Mine.z0 by Mine.z1
name_quick tw1267870562809915468 for Mine.z0 by Mine.z1
name_quick tw14907048974825807369 for Mine.z0 by Mine.z1
name_quick tw6813294653679155843 for Mine.z0 by Mine.z1
name_quick tw6132934438814934913 for Mine.z0 by Mine.z1
name_quick tw950723637873067451 for Mine.z0 by Mine.z1
name_quick tw14185684948912167051 for Mine.z0 by Mine.z1
name_quick tw3427515755752030745 for Mine.z0 by Mine.z1
name_quick tw148260917463534702 for Mine.z0 by Mine.z1
name_quick tw8180830640274347804 for Mine.z0 by Mine.z1
name_quick tw11891824955294080559 for Mine.z0 by Mine.z1
name_quick tw3768068617246420682 for Mine.z0 by Mine.z1
name_quick tw14874922208557711187 for Mine.z0 by Mine.z1
name_quick tw8800560270773162519 for Mine.z0 by Mine.z1
name_quick tw14766643958189025262 for Mine.z0 by Mine.z1
name_quick tw3797612339304411714 for Mine.z0 by Mine.z1
name_quick tw8540232549379673566 for Mine.z0 by Mine.z1
name_quick tw2134368852220247820 for Mine.z0 by Mine.z1
name_quick tw12540713548012372134 for Mine.z0 by Mine.z1
name_quick tw6519424955469430661 for Mine.z0 by Mine.z1
name_quick tw10885399304501877467 for Mine.z0 by Mine.z1
name_quick tw5386766301290243201 for Mine.z0 by Mine.z1
name_quick tw8686407601681055034 for Mine.z0 by Mine.z1
name_quick tw1771862750571323454 for Mine.z0 by Mine.z1
name_quick tw10058976618658966374 for Mine.z0 by Mine.z1
name_quick tw8385612375773290118 for Mine.z0 by Mine.z1
name_quick tw8802822988693486460 for Mine.z0 by Mine.z1
name_quick tw7057405563618977329 for Mine.z0 by Mine.z1
name_quick tw4091194055036891139 for Mine.z0 by Mine.z1
name_quick tw1615719349143574890 for Mine.z0 by Mine.z1
name_quick tw9720828393056574044 for Mine.z0 by Mine.z1
name_quick tw17230556039016184743 for Mine.z0 by Mine.z1
name_quick tw17138261911001417010 for Mine.z0 by Mine.z1
name_quick tw2735471455948067141 for Mine.z0 by Mine.z1
name_quick tw5646442142991981755 for Mine.z0 by Mine.z1
name_quick tw7112787868492120936 for Mine.z0 by Mine.z1
name_quick tw4287028408620065468 for Mine.z0 by Mine.z1
name_quick tw178441218286455893 for Mine.z0 by Mine.z1
name_quick tw16289391198768371057 for Mine.z0 by Mine.z1
name_quick tw17768419659990539469 for Mine.z0 by Mine.z1
name_quick tw13102660428377437172 for Mine.z0 by Mine.z1
name_quick tw15300170045991075079 for Mine.z0 by Mine.z1
name_quick tw15965015591981942514 for Mine.z0 by Mine.z1
name_quick tw16172117957621229858 for Mine.z0 by Mine.z1
name_quick tw8777329075199875621 for Mine.z0 by Mine.z1
name_quick tw18283703058932287227 for Mine.z0 by Mine.z1
name_quick tw8125055898148337911 for Mine.z0 by Mine.z1
name_quick tw1690735587144091376 for Mine.z0 by Mine.z1
name_quick tw16280195873916505411 for Mine.z0 by Mine.z1
name_quick tw7574553109774388169 for Mine.z0 by Mine.z1
name_quick tw14763704009068828915 for Mine.z0 by Mine.z1
name_quick tw8473563963867554017 for Mine.z0 by Mine.z1
name_quick tw482417222145425773 for Mine.z0 by Mine.z1
name_quick tw2077871619930789226 for Mine.z0 by Mine.z1
name_quick tw16950312913027304927 for Mine.z0 by Mine.z1
name_quick tw7543195961347049332 for Mine.z0 by Mine.z1
name_quick tw18371169792594650754 for Mine.z0 by Mine.z1
name_quick tw2387720566874501970 for Mine.z0 by Mine.z1
name_quick tw14096952598973939363 for Mine.z0 by Mine.z1
name_quick tw2118141222776746865 for Mine.z0 by Mine.z1
name_quick tw3345107109950449737 for Mine.z0 by Mine.z1
name_quick tw139799656371268569 for Mine.z0 by Mine.z1
name_quick tw7543618554067911206 for Mine.z0 by Mine.z1
name_quick tw396607853666888187 for Mine.z0 by Mine.z1
name_quick tw6990963922061375149 for Mine.z0 by Mine.z1
name_quick tw1305609685974793870 for Mine.z0 by Mine.z1
name_quick tw5512085447785999860 for Mine.z0 by Mine.z1
name_quick tw5315457868209417068 for Mine.z0 by Mine.z1
name_quick tw8588708647495961459 for Mine.z0 by Mine.z1
name_quick tw3633577522364906407 for Mine.z0 by Mine.z1
open_top hd for PySem.Challenge.rw_nn0161_01
end Mine
set_option genInjectivity false
set_option genSizeOf false
set_option genSizeOfSpec false
noncomputable section
namespace Mine
local macro_rules | `(tactic| walk_at $s:str) => `(tactic| k_extra $s)
local macro_rules | `(tactic| walk_at "tout") => `(tactic| (rename News _ _ _ _ => N'; try dsimp only [List.nil_append, List.cons_append] at N'))
local macro_rules | `(tactic| walk_at "tinN") => `(tactic| (intro _ _ _ _ _ l1 l2; (try k_lt l1); (try k_lt2 l2)))
theorem rs_Ct : True := by
  w_top off
  trivial
structure Tp (w : World) (base : Heap) : Prop where
  X : (hd.heap_39 w.params).In base
  T : ∃ p loose mean mg mb, Top p loose mean mg mb base
structure Rm (w : World) (A : Around) (base : Heap) (l : List Env) (h : Heap) (n : Nat) : Prop where
  handled : A.handled = none
  depth : A.depth + 4 * n < recursionLimit
  units : A.units + 20 * n < cLine
  below : Below A base l h
  tp : Tp w base
theorem Rm.lim {w : World} {A : Around} {base : Heap} {l : List Env} {h : Heap} {n : Nat} (M : Rm w A base l h n) : A.depth < recursionLimit := by have := M.depth; omega
noncomputable def Own (base : Heap) (l : List Env) (h : Heap) (news : List (Addr × Obj)) : Prop :=
  ∀ p ∈ news, h.get? p.1 = some p.2 ∧ base.get? p.1 = none ∧ ∀ env ∈ l, env.frame ≠ some p.1
noncomputable def Kp (W : List Addr) (h h' : Heap) : Prop := ∀ b o, b ∉ W → h.get? b = some o → h'.get? b = some o
noncomputable def Has (W : List Addr) (h h' : Heap) (news : List (Addr × Obj)) : Prop := ∀ p ∈ news, h'.get? p.1 = some p.2 ∧ (p.1 ∈ W ∨ h.get? p.1 = none)
noncomputable abbrev Post := Value → List (Addr × Obj) → Heap → Prop
structure Rt (news : List (Addr × Obj)) (Q : Post) (s : Shared) (R : Result → Shared → Prop) : Prop where
  go : ∀ v h' tk news', Kp (news.map Prod.fst) s.heap h' → Has (news.map Prod.fst) s.heap h' news' → Q v news' h' → R (.ok (.ret v)) { s with heap := h', toks := tk }
noncomputable def Fun (prog : Program) (w : World) (f n : Nat) (vs : List Value) (P : Heap → Prop) (news : List (Addr × Obj)) (Q : Post) : Prop :=
  ∀ (A : Around) (base : Heap) (l : List Env) (s : Shared) (R : Result → Shared → Prop),
    Rm w A base l s.heap n → Own base l s.heap news → P s.heap → Rt news Q s R → codeAny (model prog w) A (.call (.ref f) ⟨vs, []⟩) R s
noncomputable def Hold (P : Prop) : Prop := P
structure Bd (binds : List (Str × Value)) : Prop where
noncomputable def Bk (R : Result → Shared → Prop) (v : Value) (s' : Shared) : Prop := R (.ok (.ret v)) s'
structure Kg (news : List (Addr × Obj)) (h g : Heap) : Prop where
  to : ∀ b o, b ∉ news.map Prod.fst → h.get? b = some o → g.get? b = some o
  off : ∀ p ∈ news, g.get? p.1 = none
section
variable {prog : Program} {w : World} {A : Around} {s : Shared} {base : Heap} {l : List Env} {news : List (Addr × Obj)} {n : Nat}
  {R : Result → Shared → Prop} {name qual : Str} {params : Arguments} {body : List Stmt} {scope : Scope} {dV kV doc pm cdv ct oc : Value} {an od : Option Addr} {osl : Array (Option Value)} {f : Addr} {args : Args} {binds : List (Str × Value)}
theorem enter (_ : Bd binds) (M : Rm w A base l s.heap n) (O : Own base l s.heap news)
    (ho : (hd.heap_39 w.params).lookup f = some ⟨oc, od, .func (fnOf name qual params body scope dV kV doc pm an cdv ct), osl⟩) (hcd : codeIn (hd.heap_39 w.params) cdv qual = true)
    (hbind : BindsTo s (fnOf name qual params body scope dV kV doc pm an cdv ct) args binds) (hloc : ∀ y ∈ binds, scope.names.lookup y.1 = some .local)
    (hco : scope.isCoroutine = false) (hgen : scope.isGenerator = false) (hk : scope.kind = .function)
    (hcell : ∀ x ∈ scope.names, x.2 ≠ .cell)
    (h : ∀ g L' h₁ p loose mean mg mb, Fr g L' h₁ (fun y => binds.reverse.lookup y) → News g L' h₁ news → Below A base l g → (hd.heap_39 w.params).In g → Top p loose mean mg mb g →
      Kg news s.heap g → (∀ p ∈ news, p.1 < L') →
      wpAny (model prog w) (A.deeper (envOf qual scope L' f cdv)) (execs body (envOf qual scope L' f cdv))
        (fun fl s' => Bk R (match fl with | .ret v => v | _ => .none) s')
        (fun e s' => wpAny (model prog w) (A.deeper (envOf qual scope L' f cdv)) (leaving (envOf qual scope L' f cdv) e) (fun _ s'' => R (.error e) s'') (fun e' s'' => R (.error e') s'') s')
        { s with heap := h₁, toks := s.toks + binds.length }) : codeAny (model prog w) A (.call (.ref f) args) R s := by
  obtain ⟨p, loose, mean, mg, mb, T⟩ := M.tp.T
  have st : base.StaysIn (hideAll s.heap (news.map Prod.fst)) := fun b o e => hideAll_get _ (M.below.stays b o e) fun hm => by
    obtain ⟨q, hq, rfl⟩ := List.mem_map.mp hm
    rw [(O q hq).2.1] at e; cases e
  have T' := T.keeps M.below.stays
  have X' := M.tp.X.keeps M.below.stays
  refine codeAny_call_def (fd := fnOf name qual params body scope dV kV doc pm an cdv ct) (body := body) (binds := binds) M.lim (X' _ _ ho) rfl T'.nolimit (codeRec_of X' hcd) rfl hbind hcell hloc (fun h₁ hns hk₁ => ?_) hco hgen hk
  refine h (hideAll s.heap (news.map Prod.fst)) s.heap.objs.size h₁ p loose mean mg mb ⟨hns, fun b o e => hk₁ b o (of_hideAll _ e), Nat.le_of_eq (hideAll_size _ _)⟩ ?_ ⟨M.below.stack, st, ?_⟩ (M.tp.X.keeps st) (T.keeps st) ⟨?_, ?_⟩ ?_
  · exact fun p hp => ⟨hk₁ _ _ (O p hp).1, Nat.ne_of_lt (Heap.lt_size (O p hp).1), hideAll_none _ (List.mem_map_of_mem hp)⟩
  · exact funFrames_hideAll M.below.frames fun env he a ha e => by
      obtain ⟨q, hq, rfl⟩ := List.mem_map.mp ha
      exact (O q hq).2.2 env he e
  · exact fun b o hb e => hideAll_get _ e hb
  · exact fun p hp => hideAll_none _ (List.mem_map_of_mem hp)
  · exact fun p hp => Heap.lt_size (O p hp).1
theorem back {news' : List (Addr × Obj)} {Q : Post} {g h' : Heap} {L : Addr} {m : Str → Option Value} {v : Value} {tk : Nat}
    (ret : Rt news Q s R) (kg : Kg news s.heap g) (F : Fr g L h' m) (N : News g L h' news') (q : Hold (Q v news' h')) : Bk R v { s with heap := h', toks := tk } :=
  ret.go v h' tk news' (fun b o hb e => F.keep b o (kg.to b o hb e)) (fun p hp => ⟨(N p hp).1, by
    by_cases hW : p.1 ∈ news.map Prod.fst
    · exact .inl hW
    · refine .inr ?_
      cases e : s.heap.get? p.1 with
      | none => rfl
      | some o => have := kg.to _ o hW e; rw [(N p hp).2.2] at this; cases this⟩) q
theorem Rm.deeper {env : Env} {h₀ g h : Heap} {L : Addr} {m : Str → Option Value} (M : Rm w A base l h₀ (n + 1)) (B : Below A base l g) (F : Fr g L h m) (hf : env.frame = some L := by rfl) (hk : env.scope.kind = .function := by rfl) :
    Rm w (A.deeper env) base (env :: l) h n :=
  ⟨M.handled, by have := M.depth; show A.depth + 1 + 4 * n < _; omega, by have := M.units; show A.units + 3 + 20 * n < _; omega, pushX B F hf hk, M.tp⟩
inductive Pick (W : List Addr) : List (Addr × Obj) → List (Addr × Obj) → Prop
  | nil : Pick W [] []
  | take {a : Addr} {o : Obj} {l r : List (Addr × Obj)} : a ∈ W → Pick W l r → Pick W ((a, o) :: l) r
  | skip {a : Addr} {o : Obj} {l r : List (Addr × Obj)} : a ∉ W → Pick W l r → Pick W ((a, o) :: l) ((a, o) :: r)
theorem Pick.all : ∀ {l : List (Addr × Obj)}, Pick [] l l
  | [] => .nil
  | (_, _) :: _ => .skip (by simp) Pick.all
theorem Pick.spec {W : List Addr} {l r : List (Addr × Obj)} (p : Pick W l r) : ∀ q ∈ r, q ∈ l ∧ q.1 ∉ W := by
  induction p with
  | nil => intro q hq; cases hq
  | take _ _ ih => exact fun q hq => ⟨.tail _ (ih q hq).1, (ih q hq).2⟩
  | skip hn _ ih =>
    intro q hq
    rcases List.mem_cons.mp hq with rfl | hq
    · exact ⟨.head _, hn⟩
    · exact ⟨.tail _ (ih q hq).1, (ih q hq).2⟩
theorem use {E : Value → Shared → Prop} {Q₀ : Value → Shared → Prop} {vs : List Value} {P : Heap → Prop} {Q : Post} {g h₀ hh : Heap} {gg : Array GenState} {dd : Drawn} {tt : Nat} {oo : OsState} {L : Addr} {m : Str → Option Value} {led rest : List (Addr × Obj)} {env : Env}
    (C : Fun prog w f n vs P news Q) (M : Rm w A base l h₀ (n + 1)) (B : Below A base l g) (F : Fr g L hh m) (N : News g L hh led)
    (hs : ∀ p ∈ news, p ∈ led) (hr : Pick (news.map Prod.fst) led rest) (hP : P hh)
    (k : ∀ v h' tk news', Fr g L h' m → News g L h' (news' ++ rest) → (∀ p ∈ news', p.1 ∈ news.map Prod.fst ∨ hh.get? p.1 = none) → Q v news' h' → Q₀ v ⟨h', gg, dd, tk, oo⟩)
    (hf : env.frame = some L) (hk : env.scope.kind = .function) :
    wpAny (model prog w) (A.deeper env) (call (.ref f) vs) Q₀ E ⟨hh, gg, dd, tt, oo⟩ := by
  have M' := M.deeper (env := env) B F hf hk
  refine wpAny_call (C _ _ _ _ _ M' ?_ hP ⟨fun v h' tk news' kp hn q => ?_⟩)
  · intro p hp
    have hN := N p (hs p hp)
    refine ⟨hN.1, fresh_of_stays B.stays hN.2.2, fun e he q => ?_⟩
    rcases List.mem_cons.mp he with rfl | he
    · rw [hf] at q; exact hN.2.1 (Option.some.inj q).symm
    · obtain ⟨L₁, o₁, hf₁, ho₁⟩ := funFrames_in B.frames e he
      rw [hf₁] at q
      rw [Option.some.inj q, hN.2.2] at ho₁; cases ho₁
  · have hg : ∀ b o, g.get? b = some o → b ∉ news.map Prod.fst := fun b o e hm => by
      obtain ⟨q, hq, rfl⟩ := List.mem_map.mp hm
      rw [(N q (hs q hq)).2.2] at e; cases e
    obtain ⟨oL, es, ep, hL, r⟩ := F.ns
    have hLn : L ∉ news.map Prod.fst := fun hm => by
      obtain ⟨q, hq, e⟩ := List.mem_map.mp hm
      exact (N q (hs q hq)).2.1 e
    refine k v h' tk news' ⟨⟨oL, es, ep, kp _ _ hLn hL, r⟩, fun b o e => kp _ _ (hg b o e) (F.keep b o e), F.above⟩ ?_ (fun p hp => (hn p hp).2) q
    intro p hp
    rcases List.mem_append.mp hp with hp | hp
    · refine ⟨(hn p hp).1, fun e => ?_, ?_⟩
      · rcases (hn p hp).2 with h1 | h1
        · exact hLn (e ▸ h1)
        · rw [e, hL] at h1; cases h1
      · rcases (hn p hp).2 with h1 | h1
        · obtain ⟨q, hq, e⟩ := List.mem_map.mp h1
          rw [← e]; exact (N q (hs q hq)).2.2
        · cases e : g.get? p.1 with
          | none => rfl
          | some o => have := F.keep _ _ e; rw [h1] at this; cases this
    · obtain ⟨h1, h2⟩ := hr.spec p hp
      exact ⟨kp _ _ h2 (N p h1).1, (N p h1).2⟩
end
section
variable {prog : Program} {w : World} {A : Around} {base : Heap} {l : List Env} {news : List (Addr × Obj)} {n f : Nat}
  {E : Value → Shared → Prop} {Q₀ : Value → Shared → Prop} {vs : List Value} {P : Heap → Prop} {g h₀ hh : Heap} {gg : Array GenState} {dd : Drawn} {tt : Nat} {oo : OsState} {L : Addr} {m : Str → Option Value} {led rest : List (Addr × Obj)} {env : Env}
theorem useA0 {NW : List (Addr × Obj)} {V : Value} (C : Fun prog w f n vs P news (fun v nw _ => nw = NW ∧ v = V)) (M : Rm w A base l h₀ (n + 1)) (B : Below A base l g) (F : Fr g L hh m) (N : News g L hh led)
    (hs : ∀ p ∈ news, p ∈ led) (hr : Pick (news.map Prod.fst) led rest) (hP : P hh)
    (k : ∀ h' tk, Fr g L h' m → News g L h' (NW ++ rest) → Q₀ (V) ⟨h', gg, dd, tk, oo⟩)
    (hf : env.frame = some L) (hk : env.scope.kind = .function) :
    wpAny (model prog w) (A.deeper env) (call (.ref f) vs) Q₀ E ⟨hh, gg, dd, tt, oo⟩ :=
  use C M B F N hs hr hP (fun v h' tk nw F' N' _ q => by obtain ⟨rfl, rfl⟩ := q; exact k h' tk F'  N') hf hk
theorem useR0 {NW : List (Addr × Obj)} {V : Value} (C : Fun prog w f n vs P news (fun v nw _ => v = V ∧ nw = NW)) (M : Rm w A base l h₀ (n + 1)) (B : Below A base l g) (F : Fr g L hh m) (N : News g L hh led)
    (hs : ∀ p ∈ news, p ∈ led) (hr : Pick (news.map Prod.fst) led rest) (hP : P hh)
    (k : ∀ h' tk, Fr g L h' m → News g L h' (NW ++ rest) → Q₀ (V) ⟨h', gg, dd, tk, oo⟩)
    (hf : env.frame = some L) (hk : env.scope.kind = .function) :
    wpAny (model prog w) (A.deeper env) (call (.ref f) vs) Q₀ E ⟨hh, gg, dd, tt, oo⟩ :=
  use C M B F N hs hr hP (fun v h' tk nw F' N' _ q => by obtain ⟨rfl, rfl⟩ := q; exact k h' tk F'  N') hf hk
theorem useA1 {α : Type} {NW : List (Addr × Obj)} {V : α → Value} (C : Fun prog w f n vs P news (fun v nw _ => nw = NW ∧ ∃ t, v = V t)) (M : Rm w A base l h₀ (n + 1)) (B : Below A base l g) (F : Fr g L hh m) (N : News g L hh led)
    (hs : ∀ p ∈ news, p ∈ led) (hr : Pick (news.map Prod.fst) led rest) (hP : P hh)
    (k : ∀ h' tk, Fr g L h' m → ∀ t, News g L h' (NW ++ rest) → Q₀ (V t) ⟨h', gg, dd, tk, oo⟩)
    (hf : env.frame = some L) (hk : env.scope.kind = .function) :
    wpAny (model prog w) (A.deeper env) (call (.ref f) vs) Q₀ E ⟨hh, gg, dd, tt, oo⟩ :=
  use C M B F N hs hr hP (fun v h' tk nw F' N' _ q => by obtain ⟨rfl, t, rfl⟩ := q; exact k h' tk F' t N') hf hk
theorem useC1 {α : Type} {NW : α → List (Addr × Obj)} {V : Value} (C : Fun prog w f n vs P news (fun v nw _ => v = V ∧ ∃ t, nw = NW t)) (M : Rm w A base l h₀ (n + 1)) (B : Below A base l g) (F : Fr g L hh m) (N : News g L hh led)
    (hs : ∀ p ∈ news, p ∈ led) (hr : Pick (news.map Prod.fst) led rest) (hP : P hh)
    (k : ∀ h' tk, Fr g L h' m → ∀ t, News g L h' (NW t ++ rest) → Q₀ (V) ⟨h', gg, dd, tk, oo⟩)
    (hf : env.frame = some L) (hk : env.scope.kind = .function) :
    wpAny (model prog w) (A.deeper env) (call (.ref f) vs) Q₀ E ⟨hh, gg, dd, tt, oo⟩ :=
  use C M B F N hs hr hP (fun v h' tk nw F' N' _ q => by obtain ⟨rfl, t, rfl⟩ := q; exact k h' tk F' t N') hf hk
theorem useB2 {α β : Type} {NW : α → β → List (Addr × Obj)} {V : α → β → Value} (C : Fun prog w f n vs P news (fun v nw _ => ∃ t u, nw = NW t u ∧ v = V t u)) (M : Rm w A base l h₀ (n + 1)) (B : Below A base l g) (F : Fr g L hh m) (N : News g L hh led)
    (hs : ∀ p ∈ news, p ∈ led) (hr : Pick (news.map Prod.fst) led rest) (hP : P hh)
    (k : ∀ h' tk, Fr g L h' m → ∀ t u, News g L h' (NW t u ++ rest) → Q₀ (V t u) ⟨h', gg, dd, tk, oo⟩)
    (hf : env.frame = some L) (hk : env.scope.kind = .function) :
    wpAny (model prog w) (A.deeper env) (call (.ref f) vs) Q₀ E ⟨hh, gg, dd, tt, oo⟩ :=
  use C M B F N hs hr hP (fun v h' tk nw F' N' _ q => by obtain ⟨t, u, rfl, rfl⟩ := q; exact k h' tk F' t u N') hf hk
theorem useD2 {α β : Type} {NW : α → β → List (Addr × Obj)} {V : α → β → Value} (C : Fun prog w f n vs P news (fun v nw _ => ∃ t u, v = V t u ∧ nw = NW t u)) (M : Rm w A base l h₀ (n + 1)) (B : Below A base l g) (F : Fr g L hh m) (N : News g L hh led)
    (hs : ∀ p ∈ news, p ∈ led) (hr : Pick (news.map Prod.fst) led rest) (hP : P hh)
    (k : ∀ h' tk, Fr g L h' m → ∀ t u, News g L h' (NW t u ++ rest) → Q₀ (V t u) ⟨h', gg, dd, tk, oo⟩)
    (hf : env.frame = some L) (hk : env.scope.kind = .function) :
    wpAny (model prog w) (A.deeper env) (call (.ref f) vs) Q₀ E ⟨hh, gg, dd, tt, oo⟩ :=
  use C M B F N hs hr hP (fun v h' tk nw F' N' _ q => by obtain ⟨t, u, rfl, rfl⟩ := q; exact k h' tk F' t u N') hf hk
theorem useT3 {α β γ : Type} {NW : γ → List (Addr × Obj)} {V : α → β → Value} {X : α → Prop} (C : Fun prog w f n vs P news (fun v nw _ => (∃ t u, v = V t u ∧ X t) ∧ ∃ z, nw = NW z)) (M : Rm w A base l h₀ (n + 1)) (B : Below A base l g) (F : Fr g L hh m) (N : News g L hh led)
    (hs : ∀ p ∈ news, p ∈ led) (hr : Pick (news.map Prod.fst) led rest) (hP : P hh)
    (k : ∀ h' tk, Fr g L h' m → ∀ t u, X t → ∀ z, News g L h' (NW z ++ rest) → Q₀ (V t u) ⟨h', gg, dd, tk, oo⟩)
    (hf : env.frame = some L) (hk : env.scope.kind = .function) :
    wpAny (model prog w) (A.deeper env) (call (.ref f) vs) Q₀ E ⟨hh, gg, dd, tt, oo⟩ :=
  use C M B F N hs hr hP (fun v h' tk nw F' N' _ q => by obtain ⟨⟨t, u, rfl, x⟩, z, rfl⟩ := q; exact k h' tk F' t u x z N') hf hk
theorem useH2 {α β : Type} {NW : List (Addr × Obj)} {V : α → β → Value} {X : α → Prop} (C : Fun prog w f n vs P news (fun v nw _ => nw = NW ∧ ∃ t u, v = V t u ∧ X t)) (M : Rm w A base l h₀ (n + 1)) (B : Below A base l g) (F : Fr g L hh m) (N : News g L hh led)
    (hs : ∀ p ∈ news, p ∈ led) (hr : Pick (news.map Prod.fst) led rest) (hP : P hh)
    (k : ∀ h' tk, Fr g L h' m → ∀ t u, X t → News g L h' (NW ++ rest) → Q₀ (V t u) ⟨h', gg, dd, tk, oo⟩)
    (hf : env.frame = some L) (hk : env.scope.kind = .function) :
    wpAny (model prog w) (A.deeper env) (call (.ref f) vs) Q₀ E ⟨hh, gg, dd, tt, oo⟩ :=
  use C M B F N hs hr hP (fun v h' tk nw F' N' _ q => by obtain ⟨rfl, t, u, rfl, x⟩ := q; exact k h' tk F' t u x N') hf hk
theorem useU4 {α β γ δ : Type} {NW : α → β → γ → δ → List (Addr × Obj)} {V : α → Value} {X Y : α → Prop} (C : Fun prog w f n vs P news (fun v nw _ => ∃ t u y z, v = V t ∧ nw = NW t u y z ∧ X t ∧ Y t)) (M : Rm w A base l h₀ (n + 1)) (B : Below A base l g) (F : Fr g L hh m) (N : News g L hh led)
    (hs : ∀ p ∈ news, p ∈ led) (hr : Pick (news.map Prod.fst) led rest) (hP : P hh)
    (k : ∀ h' tk, Fr g L h' m → ∀ t u y z, X t → Y t → News g L h' (NW t u y z ++ rest) → Q₀ (V t) ⟨h', gg, dd, tk, oo⟩)
    (hf : env.frame = some L) (hk : env.scope.kind = .function) :
    wpAny (model prog w) (A.deeper env) (call (.ref f) vs) Q₀ E ⟨hh, gg, dd, tt, oo⟩ :=
  use C M B F N hs hr hP (fun v h' tk nw F' N' _ q => by obtain ⟨t, u, y, z, rfl, rfl, x1, x2⟩ := q; exact k h' tk F' t u y z x1 x2 N') hf hk
theorem useU6 {α β γ δ ε ζ : Type} {NW : α → β → γ → δ → ε → ζ → List (Addr × Obj)} {V : α → Value} {X Y : α → Prop} (C : Fun prog w f n vs P news (fun v nw _ => ∃ t u y z i j, v = V t ∧ nw = NW t u y z i j ∧ X t ∧ Y t)) (M : Rm w A base l h₀ (n + 1)) (B : Below A base l g) (F : Fr g L hh m) (N : News g L hh led)
    (hs : ∀ p ∈ news, p ∈ led) (hr : Pick (news.map Prod.fst) led rest) (hP : P hh)
    (k : ∀ h' tk, Fr g L h' m → ∀ t u y z i j, X t → Y t → News g L h' (NW t u y z i j ++ rest) → Q₀ (V t) ⟨h', gg, dd, tk, oo⟩)
    (hf : env.frame = some L) (hk : env.scope.kind = .function) :
    wpAny (model prog w) (A.deeper env) (call (.ref f) vs) Q₀ E ⟨hh, gg, dd, tt, oo⟩ :=
  use C M B F N hs hr hP (fun v h' tk nw F' N' _ q => by obtain ⟨t, u, y, z, i, j, rfl, rfl, x1, x2⟩ := q; exact k h' tk F' t u y z i j x1 x2 N') hf hk
theorem useG {α β : Type} {NW : α → β → List (Addr × Obj)} {V : α → Value} {X0 : Prop} {X Y : β → Prop} (C : Fun prog w f n vs P news (fun v nw _ => X0 ∧ ∃ t u, v = V t ∧ X u ∧ Y u ∧ nw = NW t u)) (M : Rm w A base l h₀ (n + 1)) (B : Below A base l g) (F : Fr g L hh m) (N : News g L hh led)
    (hs : ∀ p ∈ news, p ∈ led) (hr : Pick (news.map Prod.fst) led rest) (hP : P hh)
    (k : ∀ h' tk, Fr g L h' m → X0 → ∀ t u, X u → Y u → News g L h' (NW t u ++ rest) → Q₀ (V t) ⟨h', gg, dd, tk, oo⟩)
    (hf : env.frame = some L) (hk : env.scope.kind = .function) :
    wpAny (model prog w) (A.deeper env) (call (.ref f) vs) Q₀ E ⟨hh, gg, dd, tt, oo⟩ :=
  use C M B F N hs hr hP (fun v h' tk nw F' N' _ q => by obtain ⟨x0, t, u, rfl, x1, x2, rfl⟩ := q; exact k h' tk F' x0 t u x1 x2 N') hf hk
theorem useW {α β γ : Type} {NW : γ → List (Addr × Obj)} {V : α → β → Value} {X Y : α → Prop} {Z : γ → Prop} (C : Fun prog w f n vs P news (fun v nw _ => ∃ t u z, v = V t u ∧ X t ∧ Y t ∧ Z z ∧ nw = NW z)) (M : Rm w A base l h₀ (n + 1)) (B : Below A base l g) (F : Fr g L hh m) (N : News g L hh led)
    (hs : ∀ p ∈ news, p ∈ led) (hr : Pick (news.map Prod.fst) led rest) (hP : P hh)
    (k : ∀ h' tk, Fr g L h' m → ∀ t u z, X t → Y t → Z z → News g L h' (NW z ++ rest) → Q₀ (V t u) ⟨h', gg, dd, tk, oo⟩)
    (hf : env.frame = some L) (hk : env.scope.kind = .function) :
    wpAny (model prog w) (A.deeper env) (call (.ref f) vs) Q₀ E ⟨hh, gg, dd, tt, oo⟩ :=
  use C M B F N hs hr hP (fun v h' tk nw F' N' _ q => by obtain ⟨t, u, z, rfl, x1, x2, x3, rfl⟩ := q; exact k h' tk F' t u z x1 x2 x3 N') hf hk
theorem useP {α β : Type} {NW : α → β → List (Addr × Obj)} {V : Value} {X : α → β → Prop} (C : Fun prog w f n vs P news (fun v nw _ => v = V ∧ ∃ t u, nw = NW t u ∧ X t u)) (M : Rm w A base l h₀ (n + 1)) (B : Below A base l g) (F : Fr g L hh m) (N : News g L hh led)
    (hs : ∀ p ∈ news, p ∈ led) (hr : Pick (news.map Prod.fst) led rest) (hP : P hh)
    (k : ∀ h' tk, Fr g L h' m → ∀ t u, X t u → News g L h' (NW t u ++ rest) → Q₀ (V) ⟨h', gg, dd, tk, oo⟩)
    (hf : env.frame = some L) (hk : env.scope.kind = .function) :
    wpAny (model prog w) (A.deeper env) (call (.ref f) vs) Q₀ E ⟨hh, gg, dd, tt, oo⟩ :=
  use C M B F N hs hr hP (fun v h' tk nw F' N' _ q => by obtain ⟨rfl, t, u, rfl, x⟩ := q; exact k h' tk F' t u x N') hf hk
end
theorem a2 {p1 p2 : Prop} {C : Prop} (h : p1 ∧ p2) (k : p1 → p2 → C) : C :=
  k h.1 h.2
theorem a3 {p1 p2 p3 : Prop} {C : Prop} (h : p1 ∧ p2 ∧ p3) (k : p1 → p2 → p3 → C) : C :=
  k h.1 h.2.1 h.2.2
theorem a4 {p1 p2 p3 p4 : Prop} {C : Prop} (h : p1 ∧ p2 ∧ p3 ∧ p4) (k : p1 → p2 → p3 → p4 → C) : C :=
  k h.1 h.2.1 h.2.2.1 h.2.2.2
theorem a5 {p1 p2 p3 p4 p5 : Prop} {C : Prop} (h : p1 ∧ p2 ∧ p3 ∧ p4 ∧ p5) (k : p1 → p2 → p3 → p4 → p5 → C) : C :=
  k h.1 h.2.1 h.2.2.1 h.2.2.2.1 h.2.2.2.2
theorem a6 {p1 p2 p3 p4 p5 p6 : Prop} {C : Prop} (h : p1 ∧ p2 ∧ p3 ∧ p4 ∧ p5 ∧ p6) (k : p1 → p2 → p3 → p4 → p5 → p6 → C) : C :=
  k h.1 h.2.1 h.2.2.1 h.2.2.2.1 h.2.2.2.2.1 h.2.2.2.2.2
theorem a8 {p1 p2 p3 p4 p5 p6 p7 p8 : Prop} {C : Prop} (h : p1 ∧ p2 ∧ p3 ∧ p4 ∧ p5 ∧ p6 ∧ p7 ∧ p8) (k : p1 → p2 → p3 → p4 → p5 → p6 → p7 → p8 → C) : C :=
  k h.1 h.2.1 h.2.2.1 h.2.2.2.1 h.2.2.2.2.1 h.2.2.2.2.2.1 h.2.2.2.2.2.2.1 h.2.2.2.2.2.2.2
theorem a9 {p1 p2 p3 p4 p5 p6 p7 p8 p9 : Prop} {C : Prop} (h : p1 ∧ p2 ∧ p3 ∧ p4 ∧ p5 ∧ p6 ∧ p7 ∧ p8 ∧ p9) (k : p1 → p2 → p3 → p4 → p5 → p6 → p7 → p8 → p9 → C) : C :=
  k h.1 h.2.1 h.2.2.1 h.2.2.2.1 h.2.2.2.2.1 h.2.2.2.2.2.1 h.2.2.2.2.2.2.1 h.2.2.2.2.2.2.2.1 h.2.2.2.2.2.2.2.2
theorem a10 {p1 p2 p3 p4 p5 p6 p7 p8 p9 p10 : Prop} {C : Prop} (h : p1 ∧ p2 ∧ p3 ∧ p4 ∧ p5 ∧ p6 ∧ p7 ∧ p8 ∧ p9 ∧ p10) (k : p1 → p2 → p3 → p4 → p5 → p6 → p7 → p8 → p9 → p10 → C) : C :=
  k h.1 h.2.1 h.2.2.1 h.2.2.2.1 h.2.2.2.2.1 h.2.2.2.2.2.1 h.2.2.2.2.2.2.1 h.2.2.2.2.2.2.2.1 h.2.2.2.2.2.2.2.2.1 h.2.2.2.2.2.2.2.2.2
theorem a11 {p1 p2 p3 p4 p5 p6 p7 p8 p9 p10 p11 : Prop} {C : Prop} (h : p1 ∧ p2 ∧ p3 ∧ p4 ∧ p5 ∧ p6 ∧ p7 ∧ p8 ∧ p9 ∧ p10 ∧ p11) (k : p1 → p2 → p3 → p4 → p5 → p6 → p7 → p8 → p9 → p10 → p11 → C) : C :=
  k h.1 h.2.1 h.2.2.1 h.2.2.2.1 h.2.2.2.2.1 h.2.2.2.2.2.1 h.2.2.2.2.2.2.1 h.2.2.2.2.2.2.2.1 h.2.2.2.2.2.2.2.2.1 h.2.2.2.2.2.2.2.2.2.1 h.2.2.2.2.2.2.2.2.2.2
theorem a13 {p1 p2 p3 p4 p5 p6 p7 p8 p9 p10 p11 p12 p13 : Prop} {C : Prop} (h : p1 ∧ p2 ∧ p3 ∧ p4 ∧ p5 ∧ p6 ∧ p7 ∧ p8 ∧ p9 ∧ p10 ∧ p11 ∧ p12 ∧ p13) (k : p1 → p2 → p3 → p4 → p5 → p6 → p7 → p8 → p9 → p10 → p11 → p12 → p13 → C) : C :=
  k h.1 h.2.1 h.2.2.1 h.2.2.2.1 h.2.2.2.2.1 h.2.2.2.2.2.1 h.2.2.2.2.2.2.1 h.2.2.2.2.2.2.2.1 h.2.2.2.2.2.2.2.2.1 h.2.2.2.2.2.2.2.2.2.1 h.2.2.2.2.2.2.2.2.2.2.1 h.2.2.2.2.2.2.2.2.2.2.2.1 h.2.2.2.2.2.2.2.2.2.2.2.2
theorem a15 {p1 p2 p3 p4 p5 p6 p7 p8 p9 p10 p11 p12 p13 p14 p15 : Prop} {C : Prop} (h : p1 ∧ p2 ∧ p3 ∧ p4 ∧ p5 ∧ p6 ∧ p7 ∧ p8 ∧ p9 ∧ p10 ∧ p11 ∧ p12 ∧ p13 ∧ p14 ∧ p15) (k : p1 → p2 → p3 → p4 → p5 → p6 → p7 → p8 → p9 → p10 → p11 → p12 → p13 → p14 → p15 → C) : C :=
  k h.1 h.2.1 h.2.2.1 h.2.2.2.1 h.2.2.2.2.1 h.2.2.2.2.2.1 h.2.2.2.2.2.2.1 h.2.2.2.2.2.2.2.1 h.2.2.2.2.2.2.2.2.1 h.2.2.2.2.2.2.2.2.2.1 h.2.2.2.2.2.2.2.2.2.2.1 h.2.2.2.2.2.2.2.2.2.2.2.1 h.2.2.2.2.2.2.2.2.2.2.2.2.1 h.2.2.2.2.2.2.2.2.2.2.2.2.2.1 h.2.2.2.2.2.2.2.2.2.2.2.2.2.2
theorem x1_1 {α1 : Type} {p1 : α1 → Prop} {C : Prop} (h : ∃ a1, p1 a1) (k : ∀ a1, p1 a1 → C) : C :=
  h.elim fun a1 h => k a1 h
theorem x1_3 {α1 : Type} {p1 p2 p3 : α1 → Prop} {C : Prop} (h : ∃ a1, p1 a1 ∧ p2 a1 ∧ p3 a1) (k : ∀ a1, p1 a1 → p2 a1 → p3 a1 → C) : C :=
  h.elim fun a1 h => k a1 h.1 h.2.1 h.2.2
theorem x1_4 {α1 : Type} {p1 p2 p3 p4 : α1 → Prop} {C : Prop} (h : ∃ a1, p1 a1 ∧ p2 a1 ∧ p3 a1 ∧ p4 a1) (k : ∀ a1, p1 a1 → p2 a1 → p3 a1 → p4 a1 → C) : C :=
  h.elim fun a1 h => k a1 h.1 h.2.1 h.2.2.1 h.2.2.2
theorem x2_2 {α1 α2 : Type} {p1 p2 : α1 → α2 → Prop} {C : Prop} (h : ∃ a1 a2, p1 a1 a2 ∧ p2 a1 a2) (k : ∀ a1 a2, p1 a1 a2 → p2 a1 a2 → C) : C :=
  h.elim fun a1 h => h.elim fun a2 h => k a1 a2 h.1 h.2
theorem x2_3 {α1 α2 : Type} {p1 p2 p3 : α1 → α2 → Prop} {C : Prop} (h : ∃ a1 a2, p1 a1 a2 ∧ p2 a1 a2 ∧ p3 a1 a2) (k : ∀ a1 a2, p1 a1 a2 → p2 a1 a2 → p3 a1 a2 → C) : C :=
  h.elim fun a1 h => h.elim fun a2 h => k a1 a2 h.1 h.2.1 h.2.2
theorem x2_5 {α1 α2 : Type} {p1 p2 p3 p4 p5 : α1 → α2 → Prop} {C : Prop} (h : ∃ a1 a2, p1 a1 a2 ∧ p2 a1 a2 ∧ p3 a1 a2 ∧ p4 a1 a2 ∧ p5 a1 a2) (k : ∀ a1 a2, p1 a1 a2 → p2 a1 a2 → p3 a1 a2 → p4 a1 a2 → p5 a1 a2 → C) : C :=
  h.elim fun a1 h => h.elim fun a2 h => k a1 a2 h.1 h.2.1 h.2.2.1 h.2.2.2.1 h.2.2.2.2
theorem x2_7 {α1 α2 : Type} {p1 p2 p3 p4 p5 p6 p7 : α1 → α2 → Prop} {C : Prop} (h : ∃ a1 a2, p1 a1 a2 ∧ p2 a1 a2 ∧ p3 a1 a2 ∧ p4 a1 a2 ∧ p5 a1 a2 ∧ p6 a1 a2 ∧ p7 a1 a2) (k : ∀ a1 a2, p1 a1 a2 → p2 a1 a2 → p3 a1 a2 → p4 a1 a2 → p5 a1 a2 → p6 a1 a2 → p7 a1 a2 → C) : C :=
  h.elim fun a1 h => h.elim fun a2 h => k a1 a2 h.1 h.2.1 h.2.2.1 h.2.2.2.1 h.2.2.2.2.1 h.2.2.2.2.2.1 h.2.2.2.2.2.2
theorem x3_2 {α1 α2 α3 : Type} {p1 p2 : α1 → α2 → α3 → Prop} {C : Prop} (h : ∃ a1 a2 a3, p1 a1 a2 a3 ∧ p2 a1 a2 a3) (k : ∀ a1 a2 a3, p1 a1 a2 a3 → p2 a1 a2 a3 → C) : C :=
  h.elim fun a1 h => h.elim fun a2 h => h.elim fun a3 h => k a1 a2 a3 h.1 h.2
theorem x3_4 {α1 α2 α3 : Type} {p1 p2 p3 p4 : α1 → α2 → α3 → Prop} {C : Prop} (h : ∃ a1 a2 a3, p1 a1 a2 a3 ∧ p2 a1 a2 a3 ∧ p3 a1 a2 a3 ∧ p4 a1 a2 a3) (k : ∀ a1 a2 a3, p1 a1 a2 a3 → p2 a1 a2 a3 → p3 a1 a2 a3 → p4 a1 a2 a3 → C) : C :=
  h.elim fun a1 h => h.elim fun a2 h => h.elim fun a3 h => k a1 a2 a3 h.1 h.2.1 h.2.2.1 h.2.2.2
theorem x3_5 {α1 α2 α3 : Type} {p1 p2 p3 p4 p5 : α1 → α2 → α3 → Prop} {C : Prop} (h : ∃ a1 a2 a3, p1 a1 a2 a3 ∧ p2 a1 a2 a3 ∧ p3 a1 a2 a3 ∧ p4 a1 a2 a3 ∧ p5 a1 a2 a3) (k : ∀ a1 a2 a3, p1 a1 a2 a3 → p2 a1 a2 a3 → p3 a1 a2 a3 → p4 a1 a2 a3 → p5 a1 a2 a3 → C) : C :=
  h.elim fun a1 h => h.elim fun a2 h => h.elim fun a3 h => k a1 a2 a3 h.1 h.2.1 h.2.2.1 h.2.2.2.1 h.2.2.2.2
theorem x3_7 {α1 α2 α3 : Type} {p1 p2 p3 p4 p5 p6 p7 : α1 → α2 → α3 → Prop} {C : Prop} (h : ∃ a1 a2 a3, p1 a1 a2 a3 ∧ p2 a1 a2 a3 ∧ p3 a1 a2 a3 ∧ p4 a1 a2 a3 ∧ p5 a1 a2 a3 ∧ p6 a1 a2 a3 ∧ p7 a1 a2 a3) (k : ∀ a1 a2 a3, p1 a1 a2 a3 → p2 a1 a2 a3 → p3 a1 a2 a3 → p4 a1 a2 a3 → p5 a1 a2 a3 → p6 a1 a2 a3 → p7 a1 a2 a3 → C) : C :=
  h.elim fun a1 h => h.elim fun a2 h => h.elim fun a3 h => k a1 a2 a3 h.1 h.2.1 h.2.2.1 h.2.2.2.1 h.2.2.2.2.1 h.2.2.2.2.2.1 h.2.2.2.2.2.2
theorem x4_6 {α1 α2 α3 α4 : Type} {p1 p2 p3 p4 p5 p6 : α1 → α2 → α3 → α4 → Prop} {C : Prop} (h : ∃ a1 a2 a3 a4, p1 a1 a2 a3 a4 ∧ p2 a1 a2 a3 a4 ∧ p3 a1 a2 a3 a4 ∧ p4 a1 a2 a3 a4 ∧ p5 a1 a2 a3 a4 ∧ p6 a1 a2 a3 a4) (k : ∀ a1 a2 a3 a4, p1 a1 a2 a3 a4 → p2 a1 a2 a3 a4 → p3 a1 a2 a3 a4 → p4 a1 a2 a3 a4 → p5 a1 a2 a3 a4 → p6 a1 a2 a3 a4 → C) : C :=
  h.elim fun a1 h => h.elim fun a2 h => h.elim fun a3 h => h.elim fun a4 h => k a1 a2 a3 a4 h.1 h.2.1 h.2.2.1 h.2.2.2.1 h.2.2.2.2.1 h.2.2.2.2.2
theorem x4_10 {α1 α2 α3 α4 : Type} {p1 p2 p3 p4 p5 p6 p7 p8 p9 p10 : α1 → α2 → α3 → α4 → Prop} {C : Prop} (h : ∃ a1 a2 a3 a4, p1 a1 a2 a3 a4 ∧ p2 a1 a2 a3 a4 ∧ p3 a1 a2 a3 a4 ∧ p4 a1 a2 a3 a4 ∧ p5 a1 a2 a3 a4 ∧ p6 a1 a2 a3 a4 ∧ p7 a1 a2 a3 a4 ∧ p8 a1 a2 a3 a4 ∧ p9 a1 a2 a3 a4 ∧ p10 a1 a2 a3 a4) (k : ∀ a1 a2 a3 a4, p1 a1 a2 a3 a4 → p2 a1 a2 a3 a4 → p3 a1 a2 a3 a4 → p4 a1 a2 a3 a4 → p5 a1 a2 a3 a4 → p6 a1 a2 a3 a4 → p7 a1 a2 a3 a4 → p8 a1 a2 a3 a4 → p9 a1 a2 a3 a4 → p10 a1 a2 a3 a4 → C) : C :=
  h.elim fun a1 h => h.elim fun a2 h => h.elim fun a3 h => h.elim fun a4 h => k a1 a2 a3 a4 h.1 h.2.1 h.2.2.1 h.2.2.2.1 h.2.2.2.2.1 h.2.2.2.2.2.1 h.2.2.2.2.2.2.1 h.2.2.2.2.2.2.2.1 h.2.2.2.2.2.2.2.2.1 h.2.2.2.2.2.2.2.2.2
theorem x5_7 {α1 α2 α3 α4 α5 : Type} {p1 p2 p3 p4 p5 p6 p7 : α1 → α2 → α3 → α4 → α5 → Prop} {C : Prop} (h : ∃ a1 a2 a3 a4 a5, p1 a1 a2 a3 a4 a5 ∧ p2 a1 a2 a3 a4 a5 ∧ p3 a1 a2 a3 a4 a5 ∧ p4 a1 a2 a3 a4 a5 ∧ p5 a1 a2 a3 a4 a5 ∧ p6 a1 a2 a3 a4 a5 ∧ p7 a1 a2 a3 a4 a5) (k : ∀ a1 a2 a3 a4 a5, p1 a1 a2 a3 a4 a5 → p2 a1 a2 a3 a4 a5 → p3 a1 a2 a3 a4 a5 → p4 a1 a2 a3 a4 a5 → p5 a1 a2 a3 a4 a5 → p6 a1 a2 a3 a4 a5 → p7 a1 a2 a3 a4 a5 → C) : C :=
  h.elim fun a1 h => h.elim fun a2 h => h.elim fun a3 h => h.elim fun a4 h => h.elim fun a5 h => k a1 a2 a3 a4 a5 h.1 h.2.1 h.2.2.1 h.2.2.2.1 h.2.2.2.2.1 h.2.2.2.2.2.1 h.2.2.2.2.2.2
theorem x5_13 {α1 α2 α3 α4 α5 : Type} {p1 p2 p3 p4 p5 p6 p7 p8 p9 p10 p11 p12 p13 : α1 → α2 → α3 → α4 → α5 → Prop} {C : Prop} (h : ∃ a1 a2 a3 a4 a5, p1 a1 a2 a3 a4 a5 ∧ p2 a1 a2 a3 a4 a5 ∧ p3 a1 a2 a3 a4 a5 ∧ p4 a1 a2 a3 a4 a5 ∧ p5 a1 a2 a3 a4 a5 ∧ p6 a1 a2 a3 a4 a5 ∧ p7 a1 a2 a3 a4 a5 ∧ p8 a1 a2 a3 a4 a5 ∧ p9 a1 a2 a3 a4 a5 ∧ p10 a1 a2 a3 a4 a5 ∧ p11 a1 a2 a3 a4 a5 ∧ p12 a1 a2 a3 a4 a5 ∧ p13 a1 a2 a3 a4 a5) (k : ∀ a1 a2 a3 a4 a5, p1 a1 a2 a3 a4 a5 → p2 a1 a2 a3 a4 a5 → p3 a1 a2 a3 a4 a5 → p4 a1 a2 a3 a4 a5 → p5 a1 a2 a3 a4 a5 → p6 a1 a2 a3 a4 a5 → p7 a1 a2 a3 a4 a5 → p8 a1 a2 a3 a4 a5 → p9 a1 a2 a3 a4 a5 → p10 a1 a2 a3 a4 a5 → p11 a1 a2 a3 a4 a5 → p12 a1 a2 a3 a4 a5 → p13 a1 a2 a3 a4 a5 → C) : C :=
  h.elim fun a1 h => h.elim fun a2 h => h.elim fun a3 h => h.elim fun a4 h => h.elim fun a5 h => k a1 a2 a3 a4 a5 h.1 h.2.1 h.2.2.1 h.2.2.2.1 h.2.2.2.2.1 h.2.2.2.2.2.1 h.2.2.2.2.2.2.1 h.2.2.2.2.2.2.2.1 h.2.2.2.2.2.2.2.2.1 h.2.2.2.2.2.2.2.2.2.1 h.2.2.2.2.2.2.2.2.2.2.1 h.2.2.2.2.2.2.2.2.2.2.2.1 h.2.2.2.2.2.2.2.2.2.2.2.2
theorem x8_1 {α1 α2 α3 α4 α5 α6 α7 α8 : Type} {p1 : α1 → α2 → α3 → α4 → α5 → α6 → α7 → α8 → Prop} {C : Prop} (h : ∃ a1 a2 a3 a4 a5 a6 a7 a8, p1 a1 a2 a3 a4 a5 a6 a7 a8) (k : ∀ a1 a2 a3 a4 a5 a6 a7 a8, p1 a1 a2 a3 a4 a5 a6 a7 a8 → C) : C :=
  h.elim fun a1 h => h.elim fun a2 h => h.elim fun a3 h => h.elim fun a4 h => h.elim fun a5 h => h.elim fun a6 h => h.elim fun a7 h => h.elim fun a8 h => k a1 a2 a3 a4 a5 a6 a7 a8 h
theorem x8_4 {α1 α2 α3 α4 α5 α6 α7 α8 : Type} {p1 p2 p3 p4 : α1 → α2 → α3 → α4 → α5 → α6 → α7 → α8 → Prop} {C : Prop} (h : ∃ a1 a2 a3 a4 a5 a6 a7 a8, p1 a1 a2 a3 a4 a5 a6 a7 a8 ∧ p2 a1 a2 a3 a4 a5 a6 a7 a8 ∧ p3 a1 a2 a3 a4 a5 a6 a7 a8 ∧ p4 a1 a2 a3 a4 a5 a6 a7 a8) (k : ∀ a1 a2 a3 a4 a5 a6 a7 a8, p1 a1 a2 a3 a4 a5 a6 a7 a8 → p2 a1 a2 a3 a4 a5 a6 a7 a8 → p3 a1 a2 a3 a4 a5 a6 a7 a8 → p4 a1 a2 a3 a4 a5 a6 a7 a8 → C) : C :=
  h.elim fun a1 h => h.elim fun a2 h => h.elim fun a3 h => h.elim fun a4 h => h.elim fun a5 h => h.elim fun a6 h => h.elim fun a7 h => h.elim fun a8 h => k a1 a2 a3 a4 a5 a6 a7 a8 h.1 h.2.1 h.2.2.1 h.2.2.2
theorem x8_9 {α1 α2 α3 α4 α5 α6 α7 α8 : Type} {p1 p2 p3 p4 p5 p6 p7 p8 p9 : α1 → α2 → α3 → α4 → α5 → α6 → α7 → α8 → Prop} {C : Prop} (h : ∃ a1 a2 a3 a4 a5 a6 a7 a8, p1 a1 a2 a3 a4 a5 a6 a7 a8 ∧ p2 a1 a2 a3 a4 a5 a6 a7 a8 ∧ p3 a1 a2 a3 a4 a5 a6 a7 a8 ∧ p4 a1 a2 a3 a4 a5 a6 a7 a8 ∧ p5 a1 a2 a3 a4 a5 a6 a7 a8 ∧ p6 a1 a2 a3 a4 a5 a6 a7 a8 ∧ p7 a1 a2 a3 a4 a5 a6 a7 a8 ∧ p8 a1 a2 a3 a4 a5 a6 a7 a8 ∧ p9 a1 a2 a3 a4 a5 a6 a7 a8) (k : ∀ a1 a2 a3 a4 a5 a6 a7 a8, p1 a1 a2 a3 a4 a5 a6 a7 a8 → p2 a1 a2 a3 a4 a5 a6 a7 a8 → p3 a1 a2 a3 a4 a5 a6 a7 a8 → p4 a1 a2 a3 a4 a5 a6 a7 a8 → p5 a1 a2 a3 a4 a5 a6 a7 a8 → p6 a1 a2 a3 a4 a5 a6 a7 a8 → p7 a1 a2 a3 a4 a5 a6 a7 a8 → p8 a1 a2 a3 a4 a5 a6 a7 a8 → p9 a1 a2 a3 a4 a5 a6 a7 a8 → C) : C :=
  h.elim fun a1 h => h.elim fun a2 h => h.elim fun a3 h => h.elim fun a4 h => h.elim fun a5 h => h.elim fun a6 h => h.elim fun a7 h => h.elim fun a8 h => k a1 a2 a3 a4 a5 a6 a7 a8 h.1 h.2.1 h.2.2.1 h.2.2.2.1 h.2.2.2.2.1 h.2.2.2.2.2.1 h.2.2.2.2.2.2.1 h.2.2.2.2.2.2.2.1 h.2.2.2.2.2.2.2.2
theorem x8_18 {α1 α2 α3 α4 α5 α6 α7 α8 : Type} {p1 p2 p3 p4 p5 p6 p7 p8 p9 p10 p11 p12 p13 p14 p15 p16 p17 p18 : α1 → α2 → α3 → α4 → α5 → α6 → α7 → α8 → Prop} {C : Prop} (h : ∃ a1 a2 a3 a4 a5 a6 a7 a8, p1 a1 a2 a3 a4 a5 a6 a7 a8 ∧ p2 a1 a2 a3 a4 a5 a6 a7 a8 ∧ p3 a1 a2 a3 a4 a5 a6 a7 a8 ∧ p4 a1 a2 a3 a4 a5 a6 a7 a8 ∧ p5 a1 a2 a3 a4 a5 a6 a7 a8 ∧ p6 a1 a2 a3 a4 a5 a6 a7 a8 ∧ p7 a1 a2 a3 a4 a5 a6 a7 a8 ∧ p8 a1 a2 a3 a4 a5 a6 a7 a8 ∧ p9 a1 a2 a3 a4 a5 a6 a7 a8 ∧ p10 a1 a2 a3 a4 a5 a6 a7 a8 ∧ p11 a1 a2 a3 a4 a5 a6 a7 a8 ∧ p12 a1 a2 a3 a4 a5 a6 a7 a8 ∧ p13 a1 a2 a3 a4 a5 a6 a7 a8 ∧ p14 a1 a2 a3 a4 a5 a6 a7 a8 ∧ p15 a1 a2 a3 a4 a5 a6 a7 a8 ∧ p16 a1 a2 a3 a4 a5 a6 a7 a8 ∧ p17 a1 a2 a3 a4 a5 a6 a7 a8 ∧ p18 a1 a2 a3 a4 a5 a6 a7 a8) (k : ∀ a1 a2 a3 a4 a5 a6 a7 a8, p1 a1 a2 a3 a4 a5 a6 a7 a8 → p2 a1 a2 a3 a4 a5 a6 a7 a8 → p3 a1 a2 a3 a4 a5 a6 a7 a8 → p4 a1 a2 a3 a4 a5 a6 a7 a8 → p5 a1 a2 a3 a4 a5 a6 a7 a8 → p6 a1 a2 a3 a4 a5 a6 a7 a8 → p7 a1 a2 a3 a4 a5 a6 a7 a8 → p8 a1 a2 a3 a4 a5 a6 a7 a8 → p9 a1 a2 a3 a4 a5 a6 a7 a8 → p10 a1 a2 a3 a4 a5 a6 a7 a8 → p11 a1 a2 a3 a4 a5 a6 a7 a8 → p12 a1 a2 a3 a4 a5 a6 a7 a8 → p13 a1 a2 a3 a4 a5 a6 a7 a8 → p14 a1 a2 a3 a4 a5 a6 a7 a8 → p15 a1 a2 a3 a4 a5 a6 a7 a8 → p16 a1 a2 a3 a4 a5 a6 a7 a8 → p17 a1 a2 a3 a4 a5 a6 a7 a8 → p18 a1 a2 a3 a4 a5 a6 a7 a8 → C) : C :=
  h.elim fun a1 h => h.elim fun a2 h => h.elim fun a3 h => h.elim fun a4 h => h.elim fun a5 h => h.elim fun a6 h => h.elim fun a7 h => h.elim fun a8 h => k a1 a2 a3 a4 a5 a6 a7 a8 h.1 h.2.1 h.2.2.1 h.2.2.2.1 h.2.2.2.2.1 h.2.2.2.2.2.1 h.2.2.2.2.2.2.1 h.2.2.2.2.2.2.2.1 h.2.2.2.2.2.2.2.2.1 h.2.2.2.2.2.2.2.2.2.1 h.2.2.2.2.2.2.2.2.2.2.1 h.2.2.2.2.2.2.2.2.2.2.2.1 h.2.2.2.2.2.2.2.2.2.2.2.2.1 h.2.2.2.2.2.2.2.2.2.2.2.2.2.1 h.2.2.2.2.2.2.2.2.2.2.2.2.2.2.1 h.2.2.2.2.2.2.2.2.2.2.2.2.2.2.2.1 h.2.2.2.2.2.2.2.2.2.2.2.2.2.2.2.2.1 h.2.2.2.2.2.2.2.2.2.2.2.2.2.2.2.2.2
theorem x9_5 {α1 α2 α3 α4 α5 α6 α7 α8 α9 : Type} {p1 p2 p3 p4 p5 : α1 → α2 → α3 → α4 → α5 → α6 → α7 → α8 → α9 → Prop} {C : Prop} (h : ∃ a1 a2 a3 a4 a5 a6 a7 a8 a9, p1 a1 a2 a3 a4 a5 a6 a7 a8 a9 ∧ p2 a1 a2 a3 a4 a5 a6 a7 a8 a9 ∧ p3 a1 a2 a3 a4 a5 a6 a7 a8 a9 ∧ p4 a1 a2 a3 a4 a5 a6 a7 a8 a9 ∧ p5 a1 a2 a3 a4 a5 a6 a7 a8 a9) (k : ∀ a1 a2 a3 a4 a5 a6 a7 a8 a9, p1 a1 a2 a3 a4 a5 a6 a7 a8 a9 → p2 a1 a2 a3 a4 a5 a6 a7 a8 a9 → p3 a1 a2 a3 a4 a5 a6 a7 a8 a9 → p4 a1 a2 a3 a4 a5 a6 a7 a8 a9 → p5 a1 a2 a3 a4 a5 a6 a7 a8 a9 → C) : C :=
  h.elim fun a1 h => h.elim fun a2 h => h.elim fun a3 h => h.elim fun a4 h => h.elim fun a5 h => h.elim fun a6 h => h.elim fun a7 h => h.elim fun a8 h => h.elim fun a9 h => k a1 a2 a3 a4 a5 a6 a7 a8 a9 h.1 h.2.1 h.2.2.1 h.2.2.2.1 h.2.2.2.2
theorem x9_8 {α1 α2 α3 α4 α5 α6 α7 α8 α9 : Type} {p1 p2 p3 p4 p5 p6 p7 p8 : α1 → α2 → α3 → α4 → α5 → α6 → α7 → α8 → α9 → Prop} {C : Prop} (h : ∃ a1 a2 a3 a4 a5 a6 a7 a8 a9, p1 a1 a2 a3 a4 a5 a6 a7 a8 a9 ∧ p2 a1 a2 a3 a4 a5 a6 a7 a8 a9 ∧ p3 a1 a2 a3 a4 a5 a6 a7 a8 a9 ∧ p4 a1 a2 a3 a4 a5 a6 a7 a8 a9 ∧ p5 a1 a2 a3 a4 a5 a6 a7 a8 a9 ∧ p6 a1 a2 a3 a4 a5 a6 a7 a8 a9 ∧ p7 a1 a2 a3 a4 a5 a6 a7 a8 a9 ∧ p8 a1 a2 a3 a4 a5 a6 a7 a8 a9) (k : ∀ a1 a2 a3 a4 a5 a6 a7 a8 a9, p1 a1 a2 a3 a4 a5 a6 a7 a8 a9 → p2 a1 a2 a3 a4 a5 a6 a7 a8 a9 → p3 a1 a2 a3 a4 a5 a6 a7 a8 a9 → p4 a1 a2 a3 a4 a5 a6 a7 a8 a9 → p5 a1 a2 a3 a4 a5 a6 a7 a8 a9 → p6 a1 a2 a3 a4 a5 a6 a7 a8 a9 → p7 a1 a2 a3 a4 a5 a6 a7 a8 a9 → p8 a1 a2 a3 a4 a5 a6 a7 a8 a9 → C) : C :=
  h.elim fun a1 h => h.elim fun a2 h => h.elim fun a3 h => h.elim fun a4 h => h.elim fun a5 h => h.elim fun a6 h => h.elim fun a7 h => h.elim fun a8 h => h.elim fun a9 h => k a1 a2 a3 a4 a5 a6 a7 a8 a9 h.1 h.2.1 h.2.2.1 h.2.2.2.1 h.2.2.2.2.1 h.2.2.2.2.2.1 h.2.2.2.2.2.2.1 h.2.2.2.2.2.2.2
theorem x10_10 {α1 α2 α3 α4 α5 α6 α7 α8 α9 α10 : Type} {p1 p2 p3 p4 p5 p6 p7 p8 p9 p10 : α1 → α2 → α3 → α4 → α5 → α6 → α7 → α8 → α9 → α10 → Prop} {C : Prop} (h : ∃ a1 a2 a3 a4 a5 a6 a7 a8 a9 a10, p1 a1 a2 a3 a4 a5 a6 a7 a8 a9 a10 ∧ p2 a1 a2 a3 a4 a5 a6 a7 a8 a9 a10 ∧ p3 a1 a2 a3 a4 a5 a6 a7 a8 a9 a10 ∧ p4 a1 a2 a3 a4 a5 a6 a7 a8 a9 a10 ∧ p5 a1 a2 a3 a4 a5 a6 a7 a8 a9 a10 ∧ p6 a1 a2 a3 a4 a5 a6 a7 a8 a9 a10 ∧ p7 a1 a2 a3 a4 a5 a6 a7 a8 a9 a10 ∧ p8 a1 a2 a3 a4 a5 a6 a7 a8 a9 a10 ∧ p9 a1 a2 a3 a4 a5 a6 a7 a8 a9 a10 ∧ p10 a1 a2 a3 a4 a5 a6 a7 a8 a9 a10) (k : ∀ a1 a2 a3 a4 a5 a6 a7 a8 a9 a10, p1 a1 a2 a3 a4 a5 a6 a7 a8 a9 a10 → p2 a1 a2 a3 a4 a5 a6 a7 a8 a9 a10 → p3 a1 a2 a3 a4 a5 a6 a7 a8 a9 a10 → p4 a1 a2 a3 a4 a5 a6 a7 a8 a9 a10 → p5 a1 a2 a3 a4 a5 a6 a7 a8 a9 a10 → p6 a1 a2 a3 a4 a5 a6 a7 a8 a9 a10 → p7 a1 a2 a3 a4 a5 a6 a7 a8 a9 a10 → p8 a1 a2 a3 a4 a5 a6 a7 a8 a9 a10 → p9 a1 a2 a3 a4 a5 a6 a7 a8 a9 a10 → p10 a1 a2 a3 a4 a5 a6 a7 a8 a9 a10 → C) : C :=
  h.elim fun a1 h => h.elim fun a2 h => h.elim fun a3 h => h.elim fun a4 h => h.elim fun a5 h => h.elim fun a6 h => h.elim fun a7 h => h.elim fun a8 h => h.elim fun a9 h => h.elim fun a10 h => k a1 a2 a3 a4 a5 a6 a7 a8 a9 a10 h.1 h.2.1 h.2.2.1 h.2.2.2.1 h.2.2.2.2.1 h.2.2.2.2.2.1 h.2.2.2.2.2.2.1 h.2.2.2.2.2.2.2.1 h.2.2.2.2.2.2.2.2.1 h.2.2.2.2.2.2.2.2.2
theorem x11_6 {α1 α2 α3 α4 α5 α6 α7 α8 α9 α10 α11 : Type} {p1 p2 p3 p4 p5 p6 : α1 → α2 → α3 → α4 → α5 → α6 → α7 → α8 → α9 → α10 → α11 → Prop} {C : Prop} (h : ∃ a1 a2 a3 a4 a5 a6 a7 a8 a9 a10 a11, p1 a1 a2 a3 a4 a5 a6 a7 a8 a9 a10 a11 ∧ p2 a1 a2 a3 a4 a5 a6 a7 a8 a9 a10 a11 ∧ p3 a1 a2 a3 a4 a5 a6 a7 a8 a9 a10 a11 ∧ p4 a1 a2 a3 a4 a5 a6 a7 a8 a9 a10 a11 ∧ p5 a1 a2 a3 a4 a5 a6 a7 a8 a9 a10 a11 ∧ p6 a1 a2 a3 a4 a5 a6 a7 a8 a9 a10 a11) (k : ∀ a1 a2 a3 a4 a5 a6 a7 a8 a9 a10 a11, p1 a1 a2 a3 a4 a5 a6 a7 a8 a9 a10 a11 → p2 a1 a2 a3 a4 a5 a6 a7 a8 a9 a10 a11 → p3 a1 a2 a3 a4 a5 a6 a7 a8 a9 a10 a11 → p4 a1 a2 a3 a4 a5 a6 a7 a8 a9 a10 a11 → p5 a1 a2 a3 a4 a5 a6 a7 a8 a9 a10 a11 → p6 a1 a2 a3 a4 a5 a6 a7 a8 a9 a10 a11 → C) : C :=
  h.elim fun a1 h => h.elim fun a2 h => h.elim fun a3 h => h.elim fun a4 h => h.elim fun a5 h => h.elim fun a6 h => h.elim fun a7 h => h.elim fun a8 h => h.elim fun a9 h => h.elim fun a10 h => h.elim fun a11 h => k a1 a2 a3 a4 a5 a6 a7 a8 a9 a10 a11 h.1 h.2.1 h.2.2.1 h.2.2.2.1 h.2.2.2.2.1 h.2.2.2.2.2
section
variable {prog : Program} {w : World} {A : Around} {E : Value → Shared → Prop} {Q : Flow → Shared → Prop} {s : Shared} {env : Env} {h₀ : Heap} {L : Addr}
noncomputable def WOut (h₀ : Heap) (L : Addr) (s : Shared) (X : (Str → Option Value) → List (Addr × Obj) → Prop) (s₂ : Shared) : Prop :=
  ∃ h' tk m news, s₂ = { s with heap := h', toks := tk } ∧ Fr h₀ L h' m ∧ News h₀ L h' news ∧ X m news
theorem While_x {test : PySem.Expr} {body : List Stmt} {pos : Pos} {m : Str → Option Value} {news : List (Addr × Obj)} (J : Nat → (Str → Option Value) → List (Addr × Obj) → Prop) (X : (Str → Option Value) → List (Addr × Obj) → Prop) {n₀ : Nat}
    (F : Fr h₀ L s.heap m) (N : News h₀ L s.heap news) (hJ : J n₀ m news)
    (turn : ∀ n m₁ news₁ h₁ tk₁, Fr h₀ L h₁ m₁ → News h₀ L h₁ news₁ → J n m₁ news₁ →
      wpAny (model prog w) A (PySem.isTrue test env (eval test env)) (fun b s₂ =>
        if b = true then wpAny (model prog w) A (execs body env) (WhileStep2 h₀ L s J Q n) E s₂ else WOut h₀ L s X s₂) E { s with heap := h₁, toks := tk₁ })
    (done : ∀ m₁ news₁ h₁ tk₁, Fr h₀ L h₁ m₁ → News h₀ L h₁ news₁ → X m₁ news₁ → Q .next { s with heap := h₁, toks := tk₁ })
    (hE : PassesOwn (model prog w) A env E := by passes_own) :
    wpAny (model prog w) A (exec (.While test body [] pos) env) Q E s := by
  refine While_inv2 J F N hJ (fun n m₁ news₁ h₁ tk₁ F₁ N₁ hJ₁ => wpAny_mono (turn n m₁ news₁ h₁ tk₁ F₁ N₁ hJ₁) (fun b s₂ h => ?_) fun _ _ x => x) hE
  cases b with
  | true => exact h
  | false =>
    simp only [Bool.false_eq_true, if_false] at h ⊢
    obtain ⟨h', tk, m, news, rfl, F', N', x⟩ := h
    exact done m news h' tk F' N' x
end
theorem ne_lt {a b : Addr} (h : @LT.lt Nat _ a b) : a ≠ b := Nat.ne_of_lt h
theorem ne_gt {a b : Addr} (h : @LT.lt Nat _ b a) : a ≠ b := Nat.ne_of_gt h
theorem ne_lt2 {a b c : Addr} (h2 : @LT.lt Nat _ b c) (h1 : @LT.lt Nat _ a b) : a ≠ c := Nat.ne_of_lt (Nat.lt_trans h1 h2)
theorem ne_gt2 {a b c : Addr} (h2 : @LT.lt Nat _ b c) (h1 : @LT.lt Nat _ a b) : c ≠ a := Nat.ne_of_gt (Nat.lt_trans h1 h2)
theorem subC {α : Type} {a : α} {l L : List α} (h : a ∈ L) (h2 : ∀ q ∈ l, q ∈ L) : ∀ q ∈ a :: l, q ∈ L := List.forall_mem_cons.mpr ⟨h, h2⟩
theorem subN {α : Type} {L : List α} : ∀ q ∈ ([] : List α), q ∈ L := fun _ h => nomatch h
theorem inAt1 {α : Type} {a b1 : α} {l : List α} : a ∈ b1 :: a :: l := .tail _ (.head _)
theorem inAt2 {α : Type} {a b1 b2 : α} {l : List α} : a ∈ b1 :: b2 :: a :: l := .tail _ (.tail _ (.head _))
theorem inAt3 {α : Type} {a b1 b2 b3 : α} {l : List α} : a ∈ b1 :: b2 :: b3 :: a :: l := .tail _ (.tail _ (.tail _ (.head _)))
theorem inAt4 {α : Type} {a b1 b2 b3 b4 : α} {l : List α} : a ∈ b1 :: b2 :: b3 :: b4 :: a :: l := .tail _ (.tail _ (.tail _ (.tail _ (.head _))))
theorem inAt5 {α : Type} {a b1 b2 b3 b4 b5 : α} {l : List α} : a ∈ b1 :: b2 :: b3 :: b4 :: b5 :: a :: l := .tail _ (.tail _ (.tail _ (.tail _ (.tail _ (.head _)))))
theorem inAt6 {α : Type} {a b1 b2 b3 b4 b5 b6 : α} {l : List α} : a ∈ b1 :: b2 :: b3 :: b4 :: b5 :: b6 :: a :: l := .tail _ (.tail _ (.tail _ (.tail _ (.tail _ (.tail _ (.head _))))))
theorem inAt7 {α : Type} {a b1 b2 b3 b4 b5 b6 b7 : α} {l : List α} : a ∈ b1 :: b2 :: b3 :: b4 :: b5 :: b6 :: b7 :: a :: l := .tail _ (.tail _ (.tail _ (.tail _ (.tail _ (.tail _ (.tail _ (.head _)))))))
theorem inAt8 {α : Type} {a b1 b2 b3 b4 b5 b6 b7 b8 : α} {l : List α} : a ∈ b1 :: b2 :: b3 :: b4 :: b5 :: b6 :: b7 :: b8 :: a :: l := .tail _ (.tail _ (.tail _ (.tail _ (.tail _ (.tail _ (.tail _ (.tail _ (.head _))))))))
theorem inAt9 {α : Type} {a b1 b2 b3 b4 b5 b6 b7 b8 b9 : α} {l : List α} : a ∈ b1 :: b2 :: b3 :: b4 :: b5 :: b6 :: b7 :: b8 :: b9 :: a :: l := .tail _ (.tail _ (.tail _ (.tail _ (.tail _ (.tail _ (.tail _ (.tail _ (.tail _ (.head _)))))))))
theorem inAt10 {α : Type} {a b1 b2 b3 b4 b5 b6 b7 b8 b9 b10 : α} {l : List α} : a ∈ b1 :: b2 :: b3 :: b4 :: b5 :: b6 :: b7 :: b8 :: b9 :: b10 :: a :: l := .tail _ (.tail _ (.tail _ (.tail _ (.tail _ (.tail _ (.tail _ (.tail _ (.tail _ (.tail _ (.head _))))))))))
theorem inAt11 {α : Type} {a b1 b2 b3 b4 b5 b6 b7 b8 b9 b10 b11 : α} {l : List α} : a ∈ b1 :: b2 :: b3 :: b4 :: b5 :: b6 :: b7 :: b8 :: b9 :: b10 :: b11 :: a :: l := .tail _ (.tail _ (.tail _ (.tail _ (.tail _ (.tail _ (.tail _ (.tail _ (.tail _ (.tail _ (.tail _ (.head _)))))))))))
theorem inAt12 {α : Type} {a b1 b2 b3 b4 b5 b6 b7 b8 b9 b10 b11 b12 : α} {l : List α} : a ∈ b1 :: b2 :: b3 :: b4 :: b5 :: b6 :: b7 :: b8 :: b9 :: b10 :: b11 :: b12 :: a :: l := .tail _ (.tail _ (.tail _ (.tail _ (.tail _ (.tail _ (.tail _ (.tail _ (.tail _ (.tail _ (.tail _ (.tail _ (.head _))))))))))))
theorem inAt13 {α : Type} {a b1 b2 b3 b4 b5 b6 b7 b8 b9 b10 b11 b12 b13 : α} {l : List α} : a ∈ b1 :: b2 :: b3 :: b4 :: b5 :: b6 :: b7 :: b8 :: b9 :: b10 :: b11 :: b12 :: b13 :: a :: l := .tail _ (.tail _ (.tail _ (.tail _ (.tail _ (.tail _ (.tail _ (.tail _ (.tail _ (.tail _ (.tail _ (.tail _ (.tail _ (.head _)))))))))))))
theorem inAt14 {α : Type} {a b1 b2 b3 b4 b5 b6 b7 b8 b9 b10 b11 b12 b13 b14 : α} {l : List α} : a ∈ b1 :: b2 :: b3 :: b4 :: b5 :: b6 :: b7 :: b8 :: b9 :: b10 :: b11 :: b12 :: b13 :: b14 :: a :: l := .tail _ (.tail _ (.tail _ (.tail _ (.tail _ (.tail _ (.tail _ (.tail _ (.tail _ (.tail _ (.tail _ (.tail _ (.tail _ (.tail _ (.head _))))))))))))))
theorem inAt15 {α : Type} {a b1 b2 b3 b4 b5 b6 b7 b8 b9 b10 b11 b12 b13 b14 b15 : α} {l : List α} : a ∈ b1 :: b2 :: b3 :: b4 :: b5 :: b6 :: b7 :: b8 :: b9 :: b10 :: b11 :: b12 :: b13 :: b14 :: b15 :: a :: l := .tail _ (.tail _ (.tail _ (.tail _ (.tail _ (.tail _ (.tail _ (.tail _ (.tail _ (.tail _ (.tail _ (.tail _ (.tail _ (.tail _ (.tail _ (.head _)))))))))))))))
theorem inAt16 {α : Type} {a b1 b2 b3 b4 b5 b6 b7 b8 b9 b10 b11 b12 b13 b14 b15 b16 : α} {l : List α} : a ∈ b1 :: b2 :: b3 :: b4 :: b5 :: b6 :: b7 :: b8 :: b9 :: b10 :: b11 :: b12 :: b13 :: b14 :: b15 :: b16 :: a :: l := .tail _ (.tail _ (.tail _ (.tail _ (.tail _ (.tail _ (.tail _ (.tail _ (.tail _ (.tail _ (.tail _ (.tail _ (.tail _ (.tail _ (.tail _ (.tail _ (.head _))))))))))))))))
theorem inAt17 {α : Type} {a b1 b2 b3 b4 b5 b6 b7 b8 b9 b10 b11 b12 b13 b14 b15 b16 b17 : α} {l : List α} : a ∈ b1 :: b2 :: b3 :: b4 :: b5 :: b6 :: b7 :: b8 :: b9 :: b10 :: b11 :: b12 :: b13 :: b14 :: b15 :: b16 :: b17 :: a :: l := .tail _ (.tail _ (.tail _ (.tail _ (.tail _ (.tail _ (.tail _ (.tail _ (.tail _ (.tail _ (.tail _ (.tail _ (.tail _ (.tail _ (.tail _ (.tail _ (.tail _ (.head _)))))))))))))))))
section
theorem ln_1 : True := by
  k_with "memI" => (with_reducible first | exact List.Mem.head _ | exact inAt1 | exact inAt2 | exact inAt3 | exact inAt4 | exact inAt5 | exact inAt6 | exact inAt7 | exact inAt8 | exact inAt9 | exact inAt10 | exact inAt11 | exact inAt12 | exact inAt13 | exact inAt14 | exact inAt15 | exact inAt16 | exact inAt17)
  trivial
end
local macro_rules | `(tactic| k_mem) => `(tactic| walk_at "memI")
section
theorem ln_2 : True := by
  k_with "my ne" => (first | assumption | exact Ne.symm (by assumption) | exact ne_lt (by assumption) | exact ne_gt (by assumption) | exact ne_lt2 (by assumption) (by assumption) | exact ne_gt2 (by assumption) (by assumption) | (refine neN ?_; (try dsimp only); omega))
  trivial
end
local macro_rules | `(tactic| k_ne) => `(tactic| ((try dsimp only); walk_at "my ne"))
section
theorem ln_3 : True := by
  k_with "my enter" => ((
      refine' enter ?q3zk0 ?q3zk1 ?q3zk2 ?q3zk6 ?q3zk7 ?q3zk9 ?q3zkB ?q3zc2 ?q3zc3 ?q3zc4 ?q3zc5 ?_; (case q3zk0 => assumption); (case q3zk1 => assumption); (case q3zk2 => assumption); (case q3zk6 => k_is); (case q3zk7 => k_is); (case q3zk9 => first | exact BindsTo.of_eq rfl | exact binds_K (Frag.In.keeps (Tp.X (Rm.tp (by assumption))) (Below.stays (Rm.below (by assumption)))) rfl (by k_is) rfl rfl rfl); (case q3zkB => exact locs rfl); (case q3zc2 => exact rfl); (case q3zc3 => exact rfl); (case q3zc4 => exact rfl); (case q3zc5 => decide); k_whole;
      intro _ _ _ _ _ _ _ _ _ _ _ _ _ _ _; (try dsimp only); (try k_fold)))
  k_with "Bk" => ((k_dflt (refine' back ?q4zk1 ?q4zk2 ?q4zk3 ?q4zk4 ?_; (case q4zk1 => assumption); (case q4zk2 => assumption); (case q4zk3 => k_asm); (case q4zk4 => k_asm); k_whole)))
  k_with "my go" => ((
      (fail_if_success (with_reducible show Hold _));
      (fail_if_success (with_reducible show WOut _ _ _ _ _));
      (fail_if_success (with_reducible show wpAny _ _ (pyIter _) _ _ _));
      (fail_if_success (with_reducible show wpAny _ _ (exec (Stmt.While _ _ _ _) _) _ _ _));
      (fail_if_success (with_reducible show wpAny _ _ (exec (Stmt.For _ _ _ _ _) _) _ _ _));
      (fail_if_success (with_reducible show wpAny _ _ (eval (PySem.Expr.ListComp _ _ _ _) _) _ _ _))))
  k_with "my steps" => (repeat' (walk_at "my go"; (first | (k_unfold; (try dsimp only)) | ((with_reducible show wpAny _ _ (PySem.call (Prod.fst _) _) _ _ _); dsimp only [List.cons_append, List.nil_append]) | walk1 | (dsimp only; walk1))))
  k_with "call ref" => ((k_here; (try dsimp only [List.cons_append, List.nil_append]); walk_at "my call"))
  k_with "my subs" => (first | exact subN | (refine subC ?q8zsubsA ?q8zsubsB; (case q8zsubsA => k_mem); (case q8zsubsB => walk_at "my subs")))
  trivial
theorem off_nil {a : Addr} : a ∉ ([] : List (Addr × Obj)).map Prod.fst := by simp
theorem off_cons {a b : Addr} {o : Obj} {l : List (Addr × Obj)} (h : a ≠ b) (r : a ∉ l.map Prod.fst) : a ∉ ((b, o) :: l).map Prod.fst := by
  rw [List.map_cons, List.mem_cons, not_or]; exact ⟨h, r⟩
theorem ln_9 : True := by
  k_with "my off" => (first | exact off_nil | (refine' off_cons ?q9zoffA ?q9zoffB; (case q9zoffA => first | assumption | exact Ne.symm (by assumption) | k_ne); (case q9zoffB => walk_at "my off")))
  k_with "my pick" => (first | exact Pick.all | exact Pick.nil | (refine' Pick.take ?q10zpkA ?q10zpkC; (case q10zpkA => k_mem); (case q10zpkC => walk_at "my pick")) | (refine' Pick.skip ?q10zpkB ?q10zpkC; (case q10zpkB => walk_at "my off"); (case q10zpkC => walk_at "my pick")))
  k_with "WhileStep2" => (((with_reducible show WhileStep2 _ _ _ _ _ _ (Flow.ret _) _); dsimp only [WhileStep2]))
  trivial
end
theorem rs_In : True := by
  w_top off
  trivial
theorem iE2 {α1 α2 : Type} {p : α1 → α2 → Prop} (a1 : α1) (a2 : α2) (h : p a1 a2) : ∃ a1 a2, p a1 a2 := ⟨a1, a2, h⟩
theorem iE3 {α1 α2 α3 : Type} {p : α1 → α2 → α3 → Prop} (a1 : α1) (a2 : α2) (a3 : α3) (h : p a1 a2 a3) : ∃ a1 a2 a3, p a1 a2 a3 := ⟨a1, a2, a3, h⟩
theorem iE4 {α1 α2 α3 α4 : Type} {p : α1 → α2 → α3 → α4 → Prop} (a1 : α1) (a2 : α2) (a3 : α3) (a4 : α4) (h : p a1 a2 a3 a4) : ∃ a1 a2 a3 a4, p a1 a2 a3 a4 := ⟨a1, a2, a3, a4, h⟩
theorem iE5 {α1 α2 α3 α4 α5 : Type} {p : α1 → α2 → α3 → α4 → α5 → Prop} (a1 : α1) (a2 : α2) (a3 : α3) (a4 : α4) (a5 : α5) (h : p a1 a2 a3 a4 a5) : ∃ a1 a2 a3 a4 a5, p a1 a2 a3 a4 a5 := ⟨a1, a2, a3, a4, a5, h⟩
theorem iE6 {α1 α2 α3 α4 α5 α6 : Type} {p : α1 → α2 → α3 → α4 → α5 → α6 → Prop} (a1 : α1) (a2 : α2) (a3 : α3) (a4 : α4) (a5 : α5) (a6 : α6) (h : p a1 a2 a3 a4 a5 a6) : ∃ a1 a2 a3 a4 a5 a6, p a1 a2 a3 a4 a5 a6 := ⟨a1, a2, a3, a4, a5, a6, h⟩
theorem iE8 {α1 α2 α3 α4 α5 α6 α7 α8 : Type} {p : α1 → α2 → α3 → α4 → α5 → α6 → α7 → α8 → Prop} (a1 : α1) (a2 : α2) (a3 : α3) (a4 : α4) (a5 : α5) (a6 : α6) (a7 : α7) (a8 : α8) (h : p a1 a2 a3 a4 a5 a6 a7 a8) : ∃ a1 a2 a3 a4 a5 a6 a7 a8, p a1 a2 a3 a4 a5 a6 a7 a8 := ⟨a1, a2, a3, a4, a5, a6, a7, a8, h⟩
theorem iE9 {α1 α2 α3 α4 α5 α6 α7 α8 α9 : Type} {p : α1 → α2 → α3 → α4 → α5 → α6 → α7 → α8 → α9 → Prop} (a1 : α1) (a2 : α2) (a3 : α3) (a4 : α4) (a5 : α5) (a6 : α6) (a7 : α7) (a8 : α8) (a9 : α9) (h : p a1 a2 a3 a4 a5 a6 a7 a8 a9) : ∃ a1 a2 a3 a4 a5 a6 a7 a8 a9, p a1 a2 a3 a4 a5 a6 a7 a8 a9 := ⟨a1, a2, a3, a4, a5, a6, a7, a8, a9, h⟩
theorem iE10 {α1 α2 α3 α4 α5 α6 α7 α8 α9 α10 : Type} {p : α1 → α2 → α3 → α4 → α5 → α6 → α7 → α8 → α9 → α10 → Prop} (a1 : α1) (a2 : α2) (a3 : α3) (a4 : α4) (a5 : α5) (a6 : α6) (a7 : α7) (a8 : α8) (a9 : α9) (a10 : α10) (h : p a1 a2 a3 a4 a5 a6 a7 a8 a9 a10) : ∃ a1 a2 a3 a4 a5 a6 a7 a8 a9 a10, p a1 a2 a3 a4 a5 a6 a7 a8 a9 a10 := ⟨a1, a2, a3, a4, a5, a6, a7, a8, a9, a10, h⟩
theorem iE11 {α1 α2 α3 α4 α5 α6 α7 α8 α9 α10 α11 : Type} {p : α1 → α2 → α3 → α4 → α5 → α6 → α7 → α8 → α9 → α10 → α11 → Prop} (a1 : α1) (a2 : α2) (a3 : α3) (a4 : α4) (a5 : α5) (a6 : α6) (a7 : α7) (a8 : α8) (a9 : α9) (a10 : α10) (a11 : α11) (h : p a1 a2 a3 a4 a5 a6 a7 a8 a9 a10 a11) : ∃ a1 a2 a3 a4 a5 a6 a7 a8 a9 a10 a11, p a1 a2 a3 a4 a5 a6 a7 a8 a9 a10 a11 := ⟨a1, a2, a3, a4, a5, a6, a7, a8, a9, a10, a11, h⟩
theorem iE12 {α1 α2 α3 α4 α5 α6 α7 α8 α9 α10 α11 α12 : Type} {p : α1 → α2 → α3 → α4 → α5 → α6 → α7 → α8 → α9 → α10 → α11 → α12 → Prop} (a1 : α1) (a2 : α2) (a3 : α3) (a4 : α4) (a5 : α5) (a6 : α6) (a7 : α7) (a8 : α8) (a9 : α9) (a10 : α10) (a11 : α11) (a12 : α12) (h : p a1 a2 a3 a4 a5 a6 a7 a8 a9 a10 a11 a12) : ∃ a1 a2 a3 a4 a5 a6 a7 a8 a9 a10 a11 a12, p a1 a2 a3 a4 a5 a6 a7 a8 a9 a10 a11 a12 := ⟨a1, a2, a3, a4, a5, a6, a7, a8, a9, a10, a11, a12, h⟩
theorem iA3 {p1 p2 p3 : Prop} (h1 : p1) (h2 : p2) (h3 : p3) : p1 ∧ p2 ∧ p3 := ⟨h1, h2, h3⟩
theorem iA4 {p1 p2 p3 p4 : Prop} (h1 : p1) (h2 : p2) (h3 : p3) (h4 : p4) : p1 ∧ p2 ∧ p3 ∧ p4 := ⟨h1, h2, h3, h4⟩
theorem iA5 {p1 p2 p3 p4 p5 : Prop} (h1 : p1) (h2 : p2) (h3 : p3) (h4 : p4) (h5 : p5) : p1 ∧ p2 ∧ p3 ∧ p4 ∧ p5 := ⟨h1, h2, h3, h4, h5⟩
theorem iA6 {p1 p2 p3 p4 p5 p6 : Prop} (h1 : p1) (h2 : p2) (h3 : p3) (h4 : p4) (h5 : p5) (h6 : p6) : p1 ∧ p2 ∧ p3 ∧ p4 ∧ p5 ∧ p6 := ⟨h1, h2, h3, h4, h5, h6⟩
theorem iA7 {p1 p2 p3 p4 p5 p6 p7 : Prop} (h1 : p1) (h2 : p2) (h3 : p3) (h4 : p4) (h5 : p5) (h6 : p6) (h7 : p7) : p1 ∧ p2 ∧ p3 ∧ p4 ∧ p5 ∧ p6 ∧ p7 := ⟨h1, h2, h3, h4, h5, h6, h7⟩
theorem iA8 {p1 p2 p3 p4 p5 p6 p7 p8 : Prop} (h1 : p1) (h2 : p2) (h3 : p3) (h4 : p4) (h5 : p5) (h6 : p6) (h7 : p7) (h8 : p8) : p1 ∧ p2 ∧ p3 ∧ p4 ∧ p5 ∧ p6 ∧ p7 ∧ p8 := ⟨h1, h2, h3, h4, h5, h6, h7, h8⟩
theorem iA9 {p1 p2 p3 p4 p5 p6 p7 p8 p9 : Prop} (h1 : p1) (h2 : p2) (h3 : p3) (h4 : p4) (h5 : p5) (h6 : p6) (h7 : p7) (h8 : p8) (h9 : p9) : p1 ∧ p2 ∧ p3 ∧ p4 ∧ p5 ∧ p6 ∧ p7 ∧ p8 ∧ p9 := ⟨h1, h2, h3, h4, h5, h6, h7, h8, h9⟩
theorem iA10 {p1 p2 p3 p4 p5 p6 p7 p8 p9 p10 : Prop} (h1 : p1) (h2 : p2) (h3 : p3) (h4 : p4) (h5 : p5) (h6 : p6) (h7 : p7) (h8 : p8) (h9 : p9) (h10 : p10) : p1 ∧ p2 ∧ p3 ∧ p4 ∧ p5 ∧ p6 ∧ p7 ∧ p8 ∧ p9 ∧ p10 := ⟨h1, h2, h3, h4, h5, h6, h7, h8, h9, h10⟩
theorem iA11 {p1 p2 p3 p4 p5 p6 p7 p8 p9 p10 p11 : Prop} (h1 : p1) (h2 : p2) (h3 : p3) (h4 : p4) (h5 : p5) (h6 : p6) (h7 : p7) (h8 : p8) (h9 : p9) (h10 : p10) (h11 : p11) : p1 ∧ p2 ∧ p3 ∧ p4 ∧ p5 ∧ p6 ∧ p7 ∧ p8 ∧ p9 ∧ p10 ∧ p11 := ⟨h1, h2, h3, h4, h5, h6, h7, h8, h9, h10, h11⟩
theorem iA18 {p1 p2 p3 p4 p5 p6 p7 p8 p9 p10 p11 p12 p13 p14 p15 p16 p17 p18 : Prop} (h1 : p1) (h2 : p2) (h3 : p3) (h4 : p4) (h5 : p5) (h6 : p6) (h7 : p7) (h8 : p8) (h9 : p9) (h10 : p10) (h11 : p11) (h12 : p12) (h13 : p13) (h14 : p14) (h15 : p15) (h16 : p16) (h17 : p17) (h18 : p18) : p1 ∧ p2 ∧ p3 ∧ p4 ∧ p5 ∧ p6 ∧ p7 ∧ p8 ∧ p9 ∧ p10 ∧ p11 ∧ p12 ∧ p13 ∧ p14 ∧ p15 ∧ p16 ∧ p17 ∧ p18 := ⟨h1, h2, h3, h4, h5, h6, h7, h8, h9, h10, h11, h12, h13, h14, h15, h16, h17, h18⟩
theorem rs_Ln : True := by
  w_top off
  trivial
noncomputable def hits (x : Int) (l : List Int) : Bool := l.any (· == x)
section
variable {prog : Program} {w : World} {A : Around} {E : Value → Shared → Prop} {s : Shared} {h₀ : Heap} {L a : Addr} {m : Str → Option Value} {K : Frag} {n : Nat} {x : Int} {t : Tok}
theorem inK {l : List Value} {ns : List Int} {dd : Option Addr} {sl : Array (Option Value)} {Q : Value → Shared → Prop} (F : Fr h₀ L s.heap m) (X₀ : K.In h₀) (hl : K.lookup a = some ⟨.type "tuple", dd, .seq l.toArray n, sl⟩) (hi : IntsAre l ns)
    (h : Q (.bool (hits x ns)) s) : wpAny (model prog w) A (compareOp .In (.int x t) (.ref a)) Q E s :=
  in_tuple_ints (tupK (X₀.keeps F.keep) hl) hi h
theorem notinK {l : List Value} {ns : List Int} {dd : Option Addr} {sl : Array (Option Value)} {Q : Value → Shared → Prop} (F : Fr h₀ L s.heap m) (X₀ : K.In h₀) (hl : K.lookup a = some ⟨.type "tuple", dd, .seq l.toArray n, sl⟩) (hi : IntsAre l ns)
    (h : Q (.bool (!hits x ns)) s) : wpAny (model prog w) A (compareOp .NotIn (.int x t) (.ref a)) Q E s :=
  notin_tuple_ints (tupK (X₀.keeps F.keep) hl) hi h
end
theorem ln_12 : True := by
  k_with "compareOp In int ref" => ((k_here; k_dflt (refine' inK ?q12zk1 ?q12zk2 ?q12zk3 ?q12zk4 ?_; (case q12zk1 => k_asm); (case q12zk2 => k_asm); (case q12zk3 => k_is); (case q12zk4 => repeat constructor); k_whole)))
  k_with "compareOp NotIn int ref" => ((k_here; k_dflt (refine' notinK ?q13zk1 ?q13zk2 ?q13zk3 ?q13zk4 ?_; (case q13zk1 => k_asm); (case q13zk2 => k_asm); (case q13zk3 => k_is); (case q13zk4 => repeat constructor); k_whole)))
  trivial
noncomputable abbrev curD (P : Params) (k1 k2 k3 : Tok) (b : Array UInt8) (tb : Tok) (i : Int) (ti : Tok) (e : Int) (te : Tok) : Obj :=
  dictOf [⟨PyData.keyHash P "data", .str "data" k1, .bytes b tb⟩, ⟨PyData.keyHash P "at", .str "at" k2, .int i ti⟩, ⟨PyData.keyHash P "end", .str "end" k3, .int e te⟩] 3
noncomputable abbrev curN (P : Params) (c d : Addr) (k1 k2 k3 : Tok) (b : Array UInt8) (tb : Tok) (i : Int) (ti : Tok) (e : Int) (te : Tok) : List (Addr × Obj) :=
  [(c, instObj 199 d), (d, curD P k1 k2 k3 b tb i ti e te)]
theorem Own.ne {base : Heap} {l : List Env} {h : Heap} {news : List (Addr × Obj)} (O : Own base l h news) {a b : Addr} {o o' : Obj} (h1 : (a, o) ∈ news) (h2 : (b, o') ∈ news) (hc : o.cls ≠ o'.cls) : a ≠ b := by
  rintro rfl
  have := (O _ h1).1.symm.trans (O _ h2).1
  exact hc (congrArg Obj.cls (Option.some.inj this))
theorem rs_C1 : True := by
  w_top off
  trivial
noncomputable def isFig (i : Int) : Bool := decide (48 ≤ i) && decide (i ≤ 57)
noncomputable def isW (i : Int) : Bool := hits i [0, 9, 10, 12, 13, 32]
noncomputable def isD (i : Int) : Bool := hits i [40, 41, 60, 62, 91, 93, 123, 125, 47, 37]
noncomputable def isReg (i : Int) : Bool := decide (0 ≤ i) && (!isW i && !isD i)
structure Suf (ks : List Int) (e : Nat) (r : List Int) : Prop where
  le : e ≤ ks.length
  suf : r <:+ ks.take e
theorem Suf.len {ks r : List Int} {e : Nat} (h : Suf ks e r) : r.length ≤ e := by
  have := h.suf.length_le
  rwa [List.length_take, Nat.min_eq_left h.le] at this
theorem Suf.pre {ks r p : List Int} {e : Nat} (h : Suf ks e r) (hp : p ++ r = ks.take e) : p.length + r.length = e := by
  have := congrArg List.length hp
  rwa [List.length_append, List.length_take, Nat.min_eq_left h.le] at this
theorem Suf.tail {ks r r' : List Int} {e : Nat} (h : Suf ks e r) (k : r' <:+ r) : Suf ks e r' := ⟨h.le, k.trans h.suf⟩
theorem Suf.get {ks r : List Int} {e : Nat} (h : Suf ks e r) (j : Nat) (hj : j < r.length) : ks.getD (e - r.length + j) 0 = r[j] := by
  obtain ⟨p, hp⟩ := h.suf
  have he := h.pre hp
  have e1 : e - r.length = p.length := by rw [← he, Nat.add_sub_cancel]
  have h1 : (ks.take e)[p.length + j]? = r[j]? := by
    rw [← hp, List.getElem?_append_right (Nat.le_add_right _ _), Nat.add_sub_cancel_left]
  rw [List.getElem?_take_of_lt (by rw [← he]; exact Nat.add_lt_add_left hj _)] at h1
  rw [e1, List.getD_eq_getElem?_getD, h1, List.getElem?_eq_getElem hj]; rfl
theorem Suf.head {ks r : List Int} {x : Int} {e : Nat} (h : Suf ks e (x :: r)) : ks.getD (e - (r.length + 1)) 0 = x := by
  have := h.get 0 (by simp); simpa using this
theorem Suf.slice {ks r r' : List Int} {e : Nat} (h : Suf ks e (r ++ r')) : (ks.drop (e - (r.length + r'.length))).take r.length = r := by
  obtain ⟨p, hp⟩ := h.suf
  have e1 : e - (r.length + r'.length) = p.length := by
    have he := h.pre hp
    rw [List.length_append] at he
    rw [← he, Nat.add_sub_cancel]
  have h2 := List.take_append_drop e ks
  rw [← hp] at h2
  rw [e1, ← h2, List.append_assoc, List.drop_left, List.append_assoc, List.take_left]
theorem Suf.cons_of {ks r : List Int} {e : Nat} (h : Suf ks e r) (hlt : (e : Int) - r.length < e) : ∃ x r', r = x :: r' ∧ ks.getD ((e : Int) - r.length).toNat 0 = x := by
  cases r with
  | nil => simp at hlt
  | cons x r' =>
    refine ⟨x, r', rfl, ?_⟩
    have := h.head
    rw [← this]; exact congrArg (fun z => ks.getD z 0) (Int.toNat_sub e (r'.length + 1))
theorem Suf.nil_of {ks r : List Int} {e : Nat} (_ : Suf ks e r) (hlt : ¬ (e : Int) - r.length < e) : r = [] := by
  cases r with
  | nil => rfl
  | cons x r' => exact absurd (Int.sub_lt_self _ (Int.natCast_pos.mpr (Nat.succ_pos _))) hlt
section
variable {prog : Program} {w : World}
theorem is_figure_ct (n : Nat) (i : Int) (t : Tok) :
    Fun prog w 96 n [.int i t] (fun _ => True) [] (fun v news' _ => news' = [] ∧ v = .bool (isFig i)) := by
  intro A base l s R M O _ ret
  have bd : Bd [("code", .int i t)] := ⟨⟩
  k_dflt walk_at "my enter"
  k_dflt walk_at "my steps"
  all_goals (unfold Hold isFig; refine ⟨rfl, ?_⟩; dsimp only; congr 1; simp [*])
theorem is_regular_ct (n : Nat) (i : Int) (t : Tok) :
    Fun prog w 89 n [.int i t] (fun _ => True) [] (fun v news' _ => news' = [] ∧ v = .bool (isReg i)) := by
  intro A base l s R M O _ ret
  have bd : Bd [("code", .int i t)] := ⟨⟩
  k_dflt walk_at "my enter"
  k_dflt walk_at "my steps"
  all_goals (unfold Hold isReg isW isD; refine ⟨rfl, ?_⟩; dsimp only; congr 1; simp [*])
variable {c d : Addr} {k1 k2 k3 : Tok} {b : Array UInt8} {ks r : List Int} {tb ti te : Tok} {i : Int} {e : Nat}
theorem is_done_ct (n : Nat) :
    Fun prog w 118 n [.ref c] (fun _ => True) (curN w.params c d k1 k2 k3 b tb i ti e te) (fun v news' _ => news' = curN w.params c d k1 k2 k3 b tb i ti e te ∧ v = .bool (decide ((e : Int) ≤ i))) := by
  intro A base l s R M O _ ret
  have bd : Bd [("self", .ref c)] := ⟨⟩
  k_dflt walk_at "my enter"
  k_dflt walk_at "my steps"
  all_goals (unfold Hold; exact ⟨rfl, rfl⟩)
theorem peek_ct (n : Nat) (hk : KBw.bInts b = ks) (hz : ks.length ≤ 16777216) (hs : Suf ks e r) :
    Fun prog w 126 n [.ref c] (fun _ => True) (curN w.params c d k1 k2 k3 b tb ((e : Int) - r.length) ti e te)
      (fun v news' _ => news' = curN w.params c d k1 k2 k3 b tb ((e : Int) - r.length) ti e te ∧ ∃ t, v = .int (r.headD (-1)) t) := by
  intro A base l s R M O _ ret
  have bd : Bd [("self", .ref c), ("ahead", .int 0 349)] := ⟨⟩
  have hl := hs.len
  have hle := hs.le
  k_dflt walk_at "my enter"
  k_dflt walk_at "my steps"
  all_goals (unfold Hold; refine ⟨rfl, ?_⟩; dsimp only)
  · cases r with
    | nil => exfalso; simp only [List.length_nil] at *; omega
    | cons x r =>
      refine ⟨_, congrArg (fun z => Value.int z _) ?_⟩
      have := hs.head
      simp only [List.length_cons, List.headD_cons] at *
      rw [← this]; refine congrArg (fun z => ks.getD z 0) ?_; first | exact Int.toNat_sub e (r.length + 1) | (rw [Int.add_zero]; exact Int.toNat_sub e (r.length + 1)) | omega
  · cases r with
    | nil => exact ⟨_, rfl⟩
    | cons x r => exfalso; simp only [List.length_cons] at *; omega
theorem take_ct (n : Nat) (hk : KBw.bInts b = ks) (hz : ks.length ≤ 16777216) {x : Int} (hs : Suf ks e (x :: r)) :
    Fun prog w 133 n [.ref c] (fun _ => True) (curN w.params c d k1 k2 k3 b tb ((e : Int) - (x :: r).length) ti e te)
      (fun v news' _ => ∃ t t', news' = curN w.params c d k1 k2 k3 b tb ((e : Int) - r.length) t' e te ∧ v = .int x t) := by
  intro A base l s R M O _ ret
  have bd : Bd [("self", .ref c)] := ⟨⟩
  have hne : c ≠ d := O.ne (List.Mem.head _) (List.Mem.tail _ (List.Mem.head _)) (by simp)
  have hl := hs.len
  have hle := hs.le
  have hh := hs.head
  simp only [List.length_cons] at hl O ret ⊢
  k_dflt walk_at "my enter"
  k_dflt walk_at "my steps"
  all_goals (unfold Hold; dsimp only)
  have e1 : ((e : Int) - ((r.length + 1 : Nat) : Int) + 1) = (e : Int) - r.length := by rw [Int.natCast_succ, ← Int.sub_sub, Int.sub_add_cancel]
  have e2 : ((e : Int) - ((r.length + 1 : Nat) : Int)).toNat = e - (r.length + 1) := Int.toNat_sub _ _
  rw [e1, e2, hh]
  exact ⟨_, _, rfl, rfl⟩
noncomputable abbrev mp (l : List (Str × Value)) : Str → Option Value := fun y => List.lookup y l.reverse
noncomputable abbrev mon (m : Str → Option Value) (x : Str) (u : Option Value) : Str → Option Value := fun y => if y = x then u else m y
theorem mShadow {x : Str} {a b : Option Value} {f : Str → Option Value} : mon (mon f x b) x a = mon f x a := by
  funext y; by_cases h : y = x <;> simp [mon, h]
theorem mNone {x : Str} {f : Str → Option Value} (h : f x = none) : f = mon f x none := by
  funext y; by_cases e : y = x <;> simp [mon, e, h]
theorem skip_white_ct (n : Nat) (hk : KBw.bInts b = ks) (hz : ks.length ≤ 16777216) (hs : Suf ks e r) (hc : ∀ x ∈ r, x ≠ 37) :
    Fun prog w 154 n [.ref c] (fun _ => True) (curN w.params c d k1 k2 k3 b tb ((e : Int) - r.length) ti e te)
      (fun v news' _ => v = .none ∧ ∃ t', news' = curN w.params c d k1 k2 k3 b tb ((e : Int) - (r.dropWhile isW).length) t' e te) := by
  intro A base l s R M O _ ret
  have bd : Bd [("self", .ref c)] := ⟨⟩
  have hne : c ≠ d := O.ne (List.Mem.head _) (List.Mem.tail _ (List.Mem.head _)) (by simp)
  k_dflt walk_at "my enter"
  k_dflt walk_at "my steps"
  rename Fr _ _ _ _ => F
  change Fr _ _ _ (mp _) at F
  rename News _ _ _ _ => N
  rw [mNone (x := "code") (f := mp [("self", .ref c)]) (by rfl)] at F
  refine While_inv2 (fun n m₁ news₁ => ∃ r' ti' u, n = r'.length ∧ r' <:+ r ∧ r'.dropWhile isW = r.dropWhile isW ∧ news₁ = curN w.params c d k1 k2 k3 b tb ((e : Int) - r'.length) ti' e te ∧
      m₁ = mon (mp [("self", .ref c)]) "code" u)
    F N (iE3 r ti _ (iA5 rfl (List.suffix_refl _) rfl rfl rfl)) ?_
  intro n' m₁ news₁ h₁ tk₁ F₁ N₁ HJ
  refine x3_5 HJ ?_
  clear HJ
  rintro r' ti' u rfl hr' hd' rfl rfl
  clear F N
  have hs' := hs.tail hr'
  have hl := hs'.len
  have hle := hs'.le
  (try k_fold)
  k_dflt walk_at "my steps"
  · obtain ⟨x, r'', rfl, hx⟩ := hs'.cons_of (by assumption)
    exact absurd (hx.symm.trans (by assumption)) (hc x (hr'.subset (List.mem_cons_self ..)))
  · obtain ⟨x, r'', rfl, hx⟩ := hs'.cons_of (by assumption)
    have hw : isW x = true := by rw [← hx]; assumption
    have e1 : ((e : Int) - ((x :: r'').length : Nat) + 1) = (e : Int) - r''.length := by simp only [List.length_cons]; omega
    rename News _ _ _ _ => N'
    rw [e1] at N'
    exact (iE5 _ _ _ _ _ (iA5 rfl (by assumption) (by assumption) (Nat.lt_succ_self r''.length) (iE3 r'' _ _ (iA5 rfl ((List.suffix_cons x r'').trans hr') (by rw [← hd', List.dropWhile_cons_of_pos hw]) rfl mShadow))))
  · obtain ⟨x, r'', rfl, hx⟩ := hs'.cons_of (by assumption)
    have hw : isW x = false := by rw [← hx]; assumption
    exact ⟨rfl, _, by rw [← hd', List.dropWhile_cons_of_neg (by simp [hw])]⟩
  · obtain rfl := hs'.nil_of (by assumption)
    exact ⟨rfl, _, by rw [← hd']; rfl⟩
end
theorem ln_14 : True := by
  k_with "my suf" => (first | assumption | (refine Suf.tail ?_ (List.dropWhile_suffix _); walk_at "my suf"))
  trivial
theorem noc_drop {q : Int → Bool} {r : List Int} (h : ∀ x ∈ r, x ≠ 37) : ∀ x ∈ r.dropWhile q, x ≠ 37 := fun x hx => h x ((List.dropWhile_suffix _).subset hx)
theorem ln_15 : True := by
  k_with "my noc" => (first | assumption | (refine noc_drop ?_; walk_at "my noc"))
  trivial
theorem rs_C2 : True := by
  w_top off
  trivial
section
variable {prog : Program} {w : World}
variable {c d : Addr} {k1 k2 k3 : Tok} {b : Array UInt8} {ks r : List Int} {tb ti te : Tok} {i : Int} {e : Nat}
theorem ln_16 : True := by
  k_with "my call" => (((with_reducible show wpAny _ _ (call (Value.ref 89) [Value.int _ _]) _ _ _); k_dflt (refine' useA0 (is_regular_ct _ _ _) ?q16zM ?q16zB ?q16zF ?q16zN (List.forall_mem_nil _) Pick.all trivial ?_ rfl rfl; (case q16zM => assumption); (case q16zB => assumption); (case q16zF => k_asm); (case q16zN => k_asm)); intro _ _ _ _; walk_at "tout"; (try k_sweep)))
  trivial
theorem slice_is {p : List Int} {q : Int → Bool} (hs : Suf ks e r) (h : p = (ks.drop (clipAt ks.length ((e : Int) - r.length))).take (clipAt ks.length ((e : Int) - (r.dropWhile q).length) - clipAt ks.length ((e : Int) - r.length))) :
    p = r.takeWhile q := by
  have hl := hs.len
  have hle := hs.le
  have hd := List.takeWhile_append_dropWhile (p := q) (l := r)
  have hlen := congrArg List.length hd
  rw [List.length_append] at hlen
  rw [clipAt_in (by omega) (by omega), clipAt_in (by omega) (by omega)] at h
  have hs' : Suf ks e (r.takeWhile q ++ r.dropWhile q) := by rw [hd]; exact hs
  have := hs'.slice
  rw [h, ← this]
  have e1 : ((e : Int) - r.length).toNat = e - ((r.takeWhile q).length + (r.dropWhile q).length) := by rw [hlen, Int.toNat_sub]
  have e2 : ((e : Int) - (r.dropWhile q).length).toNat - ((e : Int) - r.length).toNat = (r.takeWhile q).length := by
    rw [Int.toNat_sub, Int.toNat_sub]
    clear h this e1 hs' hd
    omega
  rw [e2, e1]
theorem take_regular_ct (n : Nat) (hk : KBw.bInts b = ks) (hz : ks.length ≤ 16777216) (hs : Suf ks e r) :
    Fun prog w 161 (n + 1) [.ref c] (fun _ => True) (curN w.params c d k1 k2 k3 b tb ((e : Int) - r.length) ti e te)
      (fun v news' _ => (∃ b' t, v = .bytes b' t ∧ KBw.bInts b' = r.takeWhile isReg) ∧ ∃ t', news' = curN w.params c d k1 k2 k3 b tb ((e : Int) - (r.dropWhile isReg).length) t' e te) := by
  intro A base l s R M O _ ret
  have bd : Bd [("self", .ref c)] := ⟨⟩
  have hne : c ≠ d := O.ne (List.Mem.head _) (List.Mem.tail _ (List.Mem.head _)) (by simp)
  k_dflt walk_at "my enter"
  k_dflt walk_at "my steps"
  rename Fr _ _ _ _ => F
  rename News _ _ _ _ => N
  refine While_inv2 (fun n m₁ news₁ => ∃ r' ti', n = r'.length ∧ r' <:+ r ∧ r'.dropWhile isReg = r.dropWhile isReg ∧ news₁ = curN w.params c d k1 k2 k3 b tb ((e : Int) - r'.length) ti' e te ∧
      m₁ = mon (mp [("self", .ref c)]) "first" (some (.int ((e : Int) - r.length) ti)))
    F N (iE2 r ti (iA5 rfl (List.suffix_refl _) rfl rfl rfl)) ?_
  intro n' m₁ news₁ h₁ tk₁ F₁ N₁ HJ
  refine x2_5 HJ ?_
  clear HJ
  rintro r' ti' rfl hr' hd' rfl rfl
  clear F N
  have hs' := hs.tail hr'
  have hl := hs'.len
  have hle := hs'.le
  (try k_fold)
  k_dflt walk_at "my steps"
  · obtain ⟨x, r'', rfl, hx⟩ := hs'.cons_of (by assumption)
    have hw : isReg x = true := by rw [← hx]; assumption
    have e1 : ((e : Int) - ((x :: r'').length : Nat) + 1) = (e : Int) - r''.length := by simp only [List.length_cons]; omega
    rename News _ _ _ _ => N'
    rw [e1] at N'
    exact (iE5 _ _ _ _ _ (iA5 rfl (by assumption) (by assumption) (Nat.lt_succ_self r''.length) (iE2 r'' _ (iA5 rfl ((List.suffix_cons x r'').trans hr') (by rw [← hd', List.dropWhile_cons_of_pos hw]) rfl rfl))))
  · obtain ⟨x, r'', rfl, hx⟩ := hs'.cons_of (by assumption)
    have hw : isReg x = false := by rw [← hx]; assumption
    rw [List.dropWhile_cons_of_neg (by simp [hw])] at hd'
    rename KBw.bInts _ = _ => hb
    rw [hd'] at hb
    exact ⟨⟨_, _, rfl, (congrArg KBw.bInts (by rw [hd'])).trans (slice_is hs hb)⟩, _, by rw [← hd']⟩
  · obtain rfl := hs'.nil_of (by assumption)
    rename KBw.bInts _ = _ => hb
    have hd'' : [] = List.dropWhile isReg r := hd'
    rw [hd''] at hb
    exact ⟨⟨_, _, rfl, (congrArg KBw.bInts (by rw [hd''])).trans (slice_is hs hb)⟩, _, by rw [← hd'']⟩
end
theorem rs_C3 : True := by
  w_top off
  trivial
noncomputable def val (ds : List Int) : Int := ds.foldl (fun a x => a * 10 + x - 48) 0
section
variable {prog : Program} {w : World}
variable {c d : Addr} {k1 k2 k3 : Tok} {b : Array UInt8} {ks r : List Int} {tb ti te : Tok} {i : Int} {e : Nat}
theorem ln_17 : True := by
  k_with "my call" => (((with_reducible show wpAny _ _ (call (Value.ref 96) [Value.int _ _]) _ _ _); k_dflt (refine' useA0 (is_figure_ct _ _ _) ?q17zM ?q17zB ?q17zF ?q17zN (List.forall_mem_nil _) Pick.all trivial ?_ rfl rfl; (case q17zM => assumption); (case q17zB => assumption); (case q17zF => k_asm); (case q17zN => k_asm)); intro _ _ _ _; walk_at "tout"; (try k_sweep)))
  k_with "my call" => (((with_reducible show wpAny _ _ (call (Value.ref 126) [Value.ref _]) _ _ _); k_dflt (refine' useA1 (peek_ct _ ?q18zhk ?q18zhz ?q18zhs) ?q18zM ?q18zB ?q18zF ?q18zN ?q18zhb ?q18zhp trivial ?_ rfl rfl; (case q18zM => assumption); (case q18zB => assumption); (case q18zF => k_asm); (case q18zN => k_asm); (case q18zhb => walk_at "my subs"); (case q18zhk => assumption); (case q18zhz => assumption); (case q18zhs => walk_at "my suf"); (case q18zhp => walk_at "my pick")); intro _ _ _ _ _; walk_at "tout"; (try k_sweep)))
  k_with "my call" => (((with_reducible show wpAny _ _ (call (Value.ref 133) [Value.ref _]) _ _ _); k_dflt (refine' useB2 (take_ct _ ?q19zhk ?q19zhz ?q19zhs) ?q19zM ?q19zB ?q19zF ?q19zN ?q19zhb ?q19zhp trivial ?_ rfl rfl; (case q19zM => assumption); (case q19zB => assumption); (case q19zF => k_asm); (case q19zN => k_asm); (case q19zhb => walk_at "my subs"); (case q19zhk => assumption); (case q19zhz => assumption); (case q19zhs => walk_at "my suf"); (case q19zhp => walk_at "my pick")); intro _ _ _ _ _ _; walk_at "tout"; (try k_sweep)))
  trivial
theorem fig_cons {r : List Int} (h : isFig (r.headD (-1)) = true) : ∃ x r', r = x :: r' ∧ isFig x = true := by
  cases r with
  | nil => exact absurd h (by decide)
  | cons x r' => exact ⟨x, r', rfl, h⟩
theorem fig_stop {r : List Int} (h : isFig (r.headD (-1)) = false) : r.takeWhile isFig = [] ∧ r.dropWhile isFig = r := by
  cases r with
  | nil => exact ⟨rfl, rfl⟩
  | cons x r' =>
    have h : isFig x = false := h
    simp [List.takeWhile_cons, List.dropWhile_cons, h]
theorem number_ct (n : Nat) (hk : KBw.bInts b = ks) (hz : ks.length ≤ 16777216) (hs : Suf ks e r) :
    Fun prog w 182 (n + 1) [.ref c] (fun _ => True) (curN w.params c d k1 k2 k3 b tb ((e : Int) - r.length) ti e te)
      (fun v news' _ => if r.takeWhile isFig = [] ∨ 20 < (r.takeWhile isFig).length then v = .none ∧ ∃ t', news' = curN w.params c d k1 k2 k3 b tb ((e : Int) - r.length) t' e te
        else (∃ t, v = .int (val (r.takeWhile isFig)) t) ∧ ∃ t', news' = curN w.params c d k1 k2 k3 b tb ((e : Int) - (r.dropWhile isFig).length) t' e te) := by
  intro A base l s R M O _ ret
  have bd : Bd [("self", .ref c)] := ⟨⟩
  have hne : c ≠ d := O.ne (List.Mem.head _) (List.Mem.tail _ (List.Mem.head _)) (by simp)
  k_dflt walk_at "my enter"
  k_dflt walk_at "my steps"
  rename Fr _ _ _ _ => F
  rename News _ _ _ _ => N
  refine While_x (fun n m₁ news₁ => ∃ r' ti' x tx, n = r'.length ∧ r' <:+ r ∧ r'.dropWhile isFig = r.dropWhile isFig ∧ (r'.takeWhile isFig).foldl (fun a x => a * 10 + x - 48) x = val (r.takeWhile isFig) ∧
      news₁ = curN w.params c d k1 k2 k3 b tb ((e : Int) - r'.length) ti' e te ∧
      m₁ = mon (mon (mp [("self", .ref c)]) "first" (some (.int ((e : Int) - r.length) ti))) "number" (some (.int x tx)))
    (fun m₁ news₁ => ∃ ti' tx, news₁ = curN w.params c d k1 k2 k3 b tb ((e : Int) - (r.dropWhile isFig).length) ti' e te ∧
      m₁ = mon (mon (mp [("self", .ref c)]) "first" (some (.int ((e : Int) - r.length) ti))) "number" (some (.int (val (r.takeWhile isFig)) tx)))
    F N (iE4 r ti _ _ (iA6 rfl (List.suffix_refl _) rfl rfl rfl rfl)) ?_ ?_
  · intro n' m₁ news₁ h₁ tk₁ F₁ N₁ HJ
    refine x4_6 HJ ?_
    clear HJ
    rintro r' ti' x tx rfl hr' hd' hv' rfl rfl
    clear F N
    have hs' := hs.tail hr'
    clear hs
    (try k_fold)
    cases hf : isFig (r'.headD (-1))
    · k_dflt walk_at "my steps"
      obtain ⟨h1, h2⟩ := fig_stop hf
      rw [h1] at hv'
      rw [h2] at hd'
      subst hd'
      obtain rfl : x = val (r.takeWhile isFig) := hv'
      exact (iE4 _ _ _ _ (iA4 rfl (by assumption) (by assumption) (iE2 _ _ ⟨rfl, rfl⟩)))
    · obtain ⟨y, r'', rfl, hy⟩ := fig_cons hf
      k_dflt walk_at "my steps"
      rw [List.dropWhile_cons_of_pos hy] at hd'
      rw [List.takeWhile_cons_of_pos hy] at hv'
      exact (iE5 _ _ _ _ _ (iA5 rfl (by assumption) (by assumption) (Nat.lt_succ_self r''.length) (iE4 r'' _ _ _ (iA6 rfl ((List.suffix_cons y r'').trans hr') hd' hv' rfl mShadow))))
  · intro m₁ news₁ h₁ tk₁ F₁ N₁ HJ
    refine x2_2 HJ ?_
    clear HJ
    rintro ti' tx rfl rfl
    clear F N
    have hl := List.takeWhile_append_dropWhile (p := isFig) (l := r)
    have hl := congrArg List.length hl
    rw [List.length_append] at hl
    (try k_fold)
    k_dflt walk_at "my steps"
    · have h0 : r.takeWhile isFig = [] := List.eq_nil_of_length_eq_zero (by omega)
      rw [h0]; exact ⟨rfl, _, rfl⟩
    · have h0 : 20 < (r.takeWhile isFig).length := by omega
      unfold Hold; rw [if_pos (.inr h0)]; exact ⟨rfl, _, rfl⟩
    · have h0 : ¬ ((r.takeWhile isFig) = [] ∨ 20 < (r.takeWhile isFig).length) := by
        rintro (h | h)
        · rw [h, List.length_nil] at hl; omega
        · omega
      unfold Hold; rw [if_neg h0]; exact ⟨⟨_, rfl⟩, _, rfl⟩
end
theorem rs_X1 : True := by
  w_top off
  trivial
section
open Builtin Builtin.ObjectAttr
section
variable {prog : Program} {w : World} {A : Around} {E : Value → Shared → Prop} {s : Shared} {R : Result → Shared → Prop} {x : Addr} {vs : Array Value} {sl : Array (Option Value)} {od : Option Addr} {name : Str} {tk : Tok} {v : Value}
theorem refuse71 (self : Value) : refuseLoop self "__setattr__" [.ref 71, .ref 46, .type "Exception", .type "BaseException", .type "object"] = pure () := by
  rw [refuseLoop_ref, refuseLoop_ref]; exact PySem.F.store_Exception.passes self
theorem osaE (X : (Mine.hd.heap_39 w.params).In s.heap) (hx : s.heap.get? x = some ⟨.ref 71, od, .fields vs, sl⟩) (ha : findIn (Mine.hd.heap_39 w.params) (.ref 71) name = some none)
    (h : wpAny (model prog w) A.in1 (storeInOwnDict (.ref x) (.ref 71) (.str name tk) name v false)
      (fun fin s' => match fin with | .done f => R (.ok f) s' | .again c' => c'.quiet = true ∧ codeAny (model prog w) A c' R s') (fun e s' => R (.error e) s') s) :
    codeAny (model prog w) A (.call (.builtin "object.__setattr__") ⟨[.ref x, .str name tk, v], []⟩) R s := by
  have SF := PySem.F.store_object
  have T : Looks (model prog w) s.heap (typeOf (.ref x)) (.ref 71) := (Looks.ld hx).andThen .now
  have hc : ∃ cd, clsIn (Mine.hd.heap_39 w.params) 71 = some cd ∧ cd.mro = [.ref 71, .ref 46, .type "Exception", .type "BaseException", .type "object"] := ⟨_, rfl, rfl⟩
  obtain ⟨cd, hc, hm⟩ := hc
  have sub : Looks (model prog w) s.heap (isInstance (.ref x) (.type "object")) true := T.andThen (looks_mroIn X (by unfold mroIn; rw [hc, Option.bind_some, hm]; rfl))
  refine codeAny_call_builtin SF.slot.plain SF.entry (@check_slot (model prog w) _ _ s "object.__setattr__" "object" "__setattr__" (.ref x) [.str name tk, v] [] _ SF.kind SF.split sub (SF.args (.ref x) (.str name tk) v) ?_)
  have hm' : Looks (model prog w) s.heap (mroOf (.ref 71)) [.ref 71, .ref 46, .type "Exception", .type "BaseException", .type "object"] := by
    have := (looks_clsIn (M := model prog w) X hc).andThen (f := fun cd => pure cd.mro) .now
    rw [hm] at this; exact this
  rw [osa_eq, refuse_eq]
  refine wpAny_bind (wpAny_bind (T.here (wpAny_bind (hm'.here ?_))))
  rw [refuse71]
  refine wpAny_pure (wpAny_bind (T.here (wpAny_bind ((looks_findIn X ha).here (wpAny_bind (wpAny_pure ?_))))))
  exact h
noncomputable def EI (h : Heap) (x : Addr) (vs : Array Value) (sl : Array (Option Value)) (od : Option Addr) (mA : Str → Option Value) : Prop :=
  h.get? x = some ⟨.ref 71, od, .fields vs, sl⟩ ∧ match od with | none => ∀ n, mA n = none | some d => d ≠ x ∧ h.Ns1 d mA
theorem storeE {mA : Str → Option Value} {ns : List Str} {h : Heap} {g : Array GenState} {d : Drawn} {t : Nat} {os : OsState} {Q : Fin → Shared → Prop}
    (X : (Mine.hd.heap_39 w.params).In h) (I : EI h x vs sl od mA)
    (hq : ∀ h' tk' d', EI h' x vs sl (some d') (fun y => if y = name then some v else mA y) → (∀ b o, b ≠ x → (∀ dx, od = some dx → b ≠ dx) → h.get? b = some o → h'.get? b = some o) → (od = some d' ∨ h.get? d' = none) → Q (.done (.ret .none)) ⟨h', g, d, tk', os⟩)
    (hw : Within mA ns) (hsz : ns.length ≤ 1000) :
    wpAny (model prog w) A (storeInOwnDict (.ref x) (.ref 71) (.str name tk) name v false) Q E ⟨h, g, d, t, os⟩ := by
  obtain ⟨hx, hdd⟩ := I
  have hc : ∃ cd, clsIn (Mine.hd.heap_39 w.params) 71 = some cd ∧ cd.hasDict = true := ⟨_, rfl, rfl⟩
  obtain ⟨cd, hc, hcd⟩ := hc
  refine wpAny_bind (wpAny_pure (wpAny_bind (wpAny_bind (wpAny_loadPart hx (wpAny_bind ((looks_clsIn X hc).here ?_))))))
  rw [hcd]
  cases od with
  | none =>
    have hx₁ : (h.push { cls := .type "dict", data := .dict #[] }).get? x = some ⟨.ref 71, none, .fields vs, sl⟩ := Heap.get?_push_of_some _ hx
    have hxs : x ≠ h.objs.size := Nat.ne_of_lt (Heap.lt_size hx)
    refine wpAny_bind (wpAny_alloc' ?_)
    refine wpAny_bind (wpAny_update' hx₁ ?_)
    refine wpAny_pure (a := some h.objs.size) ?_
    have hgd : ((h.push { cls := .type "dict", data := .dict #[] }).update x fun o => { cls := o.cls, dict := some h.objs.size, data := o.data, slots := o.slots }).get? h.objs.size
        = some { cls := .type "dict", data := .dict #[] } :=
      (Heap.get?_update_ne _ _ _ _ hxs.symm).trans (Heap.get?_push_at rfl rfl)
    have hnd : ((h.push { cls := .type "dict", data := .dict #[] }).update x fun o => { cls := o.cls, dict := some h.objs.size, data := o.data, slots := o.slots }).Ns h.objs.size (fun _ => none) :=
      ⟨_, #[], _, hgd, rfl, fun e he => absurd he (by simp), fun _ => rfl⟩
    show wpAny _ _ (storeInDict h.objs.size (.str name tk) name v) _ _ _
    unfold storeInDict newKeyGuard
    refine wpAny_bind (wpAny_pure (wpAny_bind (wpAny_nsSet1 (Heap.Ns1.of_empty hnd) fun h' hn' hs => ?_)))
    obtain ⟨oD, esD, epD, hoD, hdD, hcD⟩ := hn'.count (Within.cons name v Within.nil)
    refine wpAny_bind (wpAny_lookBehind hoD (by rw [hdD]; exact pastItsLine_dict (Nat.le_trans hcD (by rw [List.length_cons, List.length_nil, sizeLine_eq]; omega))) ?_)
    refine wpAny_pure ?_
    refine hq h' _ h.objs.size ⟨(hs.2 x hxs).trans (Heap.get?_update_self _ hx₁ rfl), hxs.symm, ?_⟩ (fun b ob hbx _ hb => ?_) (.inr (Heap.get?_none_of_le (Nat.le_refl _)))
    · obtain ⟨o', es, ep, e1, e2, e3, eu, e4⟩ := hn'
      exact ⟨o', es, ep, e1, e2, e3, eu, fun y => by rw [e4 y]; by_cases hy : y = name <;> simp [hy, hdd]⟩
    · exact (hs.2 b (Nat.ne_of_lt (Heap.lt_size hb))).trans ((Heap.get?_update_ne _ _ _ _ hbx).trans (Heap.get?_push_of_some _ hb))
  | some dx =>
    obtain ⟨hne, hns⟩ := hdd
    refine wpAny_pure (a := some dx) ?_
    show wpAny _ _ (storeInDict dx (.str name tk) name v) _ _ _
    unfold storeInDict newKeyGuard
    refine wpAny_bind (wpAny_pure (wpAny_bind (wpAny_nsSet1 hns fun h' hn' hs => ?_)))
    obtain ⟨oD, esD, epD, hoD, hdD, hcD⟩ := hn'.count (Within.cons name v hw)
    refine wpAny_bind (wpAny_lookBehind hoD (by rw [hdD]; exact pastItsLine_dict (Nat.le_trans hcD (by rw [List.length_cons, sizeLine_eq]; omega))) ?_)
    refine wpAny_pure ?_
    exact hq h' _ dx ⟨(hs.2 x hne.symm).trans hx, hne, hn'⟩ (fun b ob _ hbd hb => (hs.2 b (hbd dx rfl)).trans hb) (.inl rfl)
theorem set_exc {mA : Str → Option Value} {ns : List Str} {h : Heap} {g : Array GenState} {d : Drawn} {t : Nat} {os : OsState} {Q : Unit → Shared → Prop}
    (X : (Mine.hd.heap_39 w.params).In h) (I : EI h x vs sl od mA) (ha : findIn (Mine.hd.heap_39 w.params) (.ref 71) name = some none)
    (hq : ∀ h' tk' d', EI h' x vs sl (some d') (fun y => if y = name then some v else mA y) → (∀ b o, b ≠ x → (∀ dx, od = some dx → b ≠ dx) → h.get? b = some o → h'.get? b = some o) → (od = some d' ∨ h.get? d' = none) → Q () ⟨h', g, d, tk', os⟩)
    (hw : Within mA ns) (hsz : ns.length ≤ 1000) :
    wpAny (model prog w) A (setAttr (.ref x) name v) Q E ⟨h, g, d, t, os⟩ := by
  have T : Looks (model prog w) h (typeOf (.ref x)) (.ref 71) := (Looks.ld I.1).andThen .now
  have hs : findIn (Mine.hd.heap_39 w.params) (.ref 71) "__setattr__" = some (some (.builtin "object.__setattr__")) := by rfl
  refine wpAny_bind (wpAny_mkText (wpAny_bind (wpAny_bind (wpAny_bind (T _ _ _ _ (fun _ _ e => e) (looks_findIn X hs _ _ _ _ (fun _ _ e => e) (wpAny_holding ?_)))))))
  rw [PySem.F.store_object.slot.bind]
  refine wpAny_bind (wpAny_pure (wpAny_bind (wpAny_call (osaE X I.1 ha (storeE X I (fun h' tk' d' I' k o => ?_) hw hsz)))))
  exact wpAny_pure (wpAny_pure (hq h' tk' d' I' k o))
section
variable {h : Heap} {g : Array GenState} {d : Drawn} {t : Nat} {os : OsState} {nm q : Str} {N : Addr} {bs : List Value} {hdct : Bool} {sn : List Str} {sub : List Value} {ab : Bool} {col : Option Bool} {dd : Option Addr} {k0 k1 k2 k3 k5 : Option Value}
noncomputable abbrev bm71 : List Value := [.ref 46, .type "Exception", .type "BaseException", .type "object"]
theorem Looks.ofExc {α : Type} {M : Model} {tr : Sem α} {r : α} (hh : ∀ (A : Around) (E : Value → Shared → Prop) (Q : α → Shared → Prop) h' g d t os, (∀ b o, h.get? b = some o → h'.get? b = some o) → Q r ⟨h', g, d, t, os⟩ → wpAny M A tr Q E ⟨h', g, d, t, os⟩) : Looks M h tr r :=
  fun A Q E s k q => by obtain ⟨h', g, d, t, os⟩ := s; exact hh A E Q h' g d t os k q
theorem new71 {rest : List Value} (X : (Mine.hd.heap_39 w.params).In h) (hC : h.get? 71 = some (excClassObj nm q 71 N bs bm71 hdct sn sub ab col dd k0 k1 k2 k3 k5 "Exception.__new__"))
    (hq : R (.ok (.ret (.ref (h.objs.size + 1)))) ⟨(h.push { cls := .type "tuple", data := .seq rest.toArray }).push
      { cls := .ref 71, data := .fields #[.ref h.objs.size, .none, .none, .none, .bool false, .none] }, g, d, t, os⟩) (hrest : rest.length ≤ sizeLine) :
    codeAny (model prog w) A (.builtin "Exception.__new__" ⟨.ref 71 :: rest, []⟩) R ⟨h, g, d, t, os⟩ := by
  have F := PySem.F.excBase_Exception
  have hends := F.ends
  have hB : Looks (model prog w) h (isSubtype (.ref 71) (.type "Exception")) true := looks_mroIn X (by rfl)
  have hA : Looks (model prog w) h (isSubtype (.ref 71) (.type "AttributeError")) false := looks_mroIn X (by rfl)
  have hN : Looks (model prog w) h (isSubtype (.ref 71) (.type "NameError")) false := looks_mroIn X (by rfl)
  have hH : Looks (model prog w) h (Bind.madeHere "BaseException.__new__" (.ref 71)) () := Looks.ofExc fun A E Q h' g d t os k q => wpAny_madeHere_exc F.canon (k _ _ hC) q
  refine codeAny_builtinAt F.entry ?_
  unfold Builtin.«BaseException.__new__»
  refine PySem.wpAt_bind ?_
  show PySem.wpAt _ _ _ (stack >>= _) _ _ _
  refine PySem.wpAt_bind (PySem.wpAt_stack fun p below => PySem.wpAt_of_wpAny ?_)
  wp_walk
  refine PySem.wpAt_of_wpAny ?_
  rw [F.owner]
  have hC1 := Heap.get?_push_of_some (h := h) { cls := .type "tuple", data := .seq rest.toArray } hC
  have hC2 := Heap.get?_push_of_some (h := h.push { cls := .type "tuple", data := .seq rest.toArray }) { cls := .ref 71, data := .fields #[.ref h.objs.size, .none, .none, .none, .bool false, .none] } hC1
  repeat lk
  rw [if_neg (show ¬ rest.toArray.size > sizeLine by simpa using hrest)]
  repeat lk
  rw [Heap.size_push]
  exact hq
theorem checknew71 {M : Model} {rest : List Value} {Q : Unit → Shared → Prop} (X : (Mine.hd.heap_39 w.params).In h) (hC : h.get? 71 = some (excClassObj nm q 71 N bs bm71 hdct sn sub ab col dd k0 k1 k2 k3 k5 "Exception.__new__"))
    (hq : Q () ⟨h, g, d, t, os⟩) : wpAny M A (checkBuiltinCall "Exception.__new__" ⟨.ref 71 :: rest, []⟩) Q E ⟨h, g, d, t, os⟩ := PySem.wpAny_check_new_subU PySem.F.excBase_Exception (by decide +kernel) (.base (bmB := bm71)) hC hq
noncomputable abbrev excAt (t : Addr) (od : Option Addr) : Obj := ⟨.ref 71, od, .fields #[.ref t, .none, .none, .none, .bool false, .none], #[]⟩
theorem make71 {rest : List Value} (X : (Mine.hd.heap_39 w.params).In h)
    (hC : h.get? 71 = some (excClassObj nm q 71 N bs bm71 hdct sn sub false col dd k0 k1 k2 k3 k5 "Exception.__new__")) (hrest : rest.length ≤ sizeLine)
    (hq : ∀ h' e t', (∀ b o, h.get? b = some o → h'.get? b = some o) → h.get? e = none → h'.get? e = some (excAt t' none) →
      codeAny (model prog w) (A.under (.builtin "type.__call__" ⟨.ref 71 :: rest, []⟩)) (.call (.ref 36) ⟨.ref e :: rest, []⟩) (InitBack e R) ⟨h', g, d, t, os⟩) :
    codeAny (model prog w) A (.call (.ref 71) ⟨rest, []⟩) R ⟨h, g, d, t, os⟩ := by
  have call : Looks (model prog w) h (specialOf (.ref 71) "__call__") (some (.builtin "type.__call__")) := looks_specialIn X (by rfl)
  have typ : Looks (model prog w) h (isInstance (.ref 71) (.type "type")) true := looks_instIn X (by rfl)
  have made : Looks (model prog w) h (Bind.madeBy (.ref 71)) (some "Exception.__new__") := Looks.ofExc fun A E Q h' g d t os k q => wpAny_madeBy_exc (k _ _ hC) q
  have hm : Looks (model prog w) h (mroOf (.ref 71)) (.ref 71 :: bm71) := Looks.ofExc fun A E Q h' g d t os k q => wpAny_mroOf_exc (k _ _ hC) q
  have F := PySem.F.excBase_Exception
  refine codeAny_of_tree ?_
  show wpAny _ _ (callAny (.ref 71) _) _ _ _
  refine nd_load hC ?_
  show wpAny _ _ (callAny.viaDunder (.ref 71) _) _ _ _
  unfold callAny.viaDunder
  refine wpAny_bind (call.at ?_)
  dsimp only
  rw [tc_bind]
  refine wpAny_bind (wpAny_pure (wpAny_bind (wpAny_pure ?_)))
  refine wpAny_pure (a := Fin.again (.call (.builtin "type.__call__") ⟨.ref 71 :: rest, []⟩)) (And.intro rfl ?_)
  refine codeAny_call_builtin_at (Code.quiet_builtin _ (by decide +kernel)) entry_typeCall ?_
  refine PySem.W.check_slot (s := ⟨h, g, d, t, os⟩) (i := "type.__call__") (owner := "type") (n := "__call__") (self := .ref 71) (rest := rest) (kw := []) tc_kind tc_split typ (tc_args _ _ _) ?_
  unfold Builtin.«type.__call__»
  repeat (first | with_reducible refine wpAny_call ?_ | lk)
  refine codeAny_call_builtin_code (Code.quiet_builtin _ F.quiet) (checknew71 X hC ?_)
  refine new71 X hC ?_ hrest
  have k : ∀ b o, h.get? b = some o → ((h.push { cls := .type "tuple", data := .seq rest.toArray }).push { cls := .ref 71, data := .fields #[.ref h.objs.size, .none, .none, .none, .bool false, .none] }).get? b = some o :=
    fun b o e => Heap.get?_push_of_some _ (Heap.get?_push_of_some _ e)
  have hget : ((h.push { cls := .type "tuple", data := .seq rest.toArray }).push
      { cls := .ref 71, data := .fields #[.ref h.objs.size, .none, .none, .none, .bool false, .none] }).get? (h.objs.size + 1) = some
      { cls := .ref 71, data := .fields #[.ref h.objs.size, .none, .none, .none, .bool false, .none] } := by heap_get
  have X₁ := X.keeps k
  have t1 : Looks (model prog w) ((h.push { cls := .type "tuple", data := .seq rest.toArray }).push { cls := .ref 71, data := .fields #[.ref h.objs.size, .none, .none, .none, .bool false, .none] }) (typeOf (.ref (h.objs.size + 1))) (.ref 71) := (Looks.ld hget).andThen .now
  have s1 : Looks (model prog w) _ (isSubtype (.ref 71) (.ref 71)) true := looks_mroIn X₁ (by rfl)
  have i1 : Looks (model prog w) _ (typeLookup (.ref 71) "__init__") (some (.ref 36)) := looks_findIn X₁ (by rfl)
  have b1 : Looks (model prog w) _ (bindSpecial (.ref 36) (.ref (h.objs.size + 1))) (.ref 36, [.ref (h.objs.size + 1)]) := bind_fn X₁ _ (by rfl)
  unfold isInstance callSpecial? specialOf
  repeat (first | with_reducible refine wpAny_call ?_ | lk)
  refine codeAny_mono (hq _ _ _ k (Heap.get?_none_of_le (Nat.le_succ _)) hget) fun r s' z => ?_
  rcases r with e | (v | _ | _ | _) <;> first | exact z | exact z.elim | skip
  obtain ⟨rfl, z⟩ := z
  exact wpAny_pure (wpAny_pure z)
end
end
end
theorem rs_X2 : True := by
  w_top off
  trivial
section
variable {prog : Program} {w : World}
theorem excinit {A : Around} {E : Value → Shared → Prop} {h : Heap} {g : Array GenState} {d : Drawn} {tk : Nat} {os : OsState} {Q : Value → Shared → Prop} {e t : Addr} {v : Value} (X : (Mine.hd.heap_39 w.params).In h) (he : h.get? e = some (excAt t none))
    (hq : ∀ h' t', (∀ b o, b ≠ e → h.get? b = some o → h'.get? b = some o) → h'.get? e = some (excAt t' none) → Q .none ⟨h', g, d, tk, os⟩) :
    wpAny (model prog w) A (call (.builtin "Exception.__init__") [.ref e, v]) Q E ⟨h, g, d, tk, os⟩ := by
  have F := PySem.F.excBase_Exception
  have T : Looks (model prog w) h (typeOf (.ref e)) (.ref 71) := (Looks.ld he).andThen .now
  have hi : Looks (model prog w) h (isInstance (.ref e) (.type "Exception")) true := T.andThen (looks_mroIn X (by rfl))
  have hstar := F.noStar
  have hC := X 71 _ rfl
  have f71 : Looks (model prog w) h (classData 71) _ := looks_clsIn X rfl
  have he1 := Heap.get?_push_of_some (h := h) { cls := .type "tuple", data := .seq #[v] } he
  have f0 : Looks (model prog w) (h.push { cls := .type "tuple", data := .seq #[v] }) (field (.ref e) 0) (.ref t) := PySem.W.looks_field he1 0 rfl
  refine wpAny_call (codeAny_call_builtin F.init.plain F.initEntry ?_)
  simp only [checkBuiltinCall, F.initKind, F.initSplit, F.initRow]
  repeat lk
  show wpAny _ _ (update e _) _ _ _
  refine wpAny_update he1 ?_
  repeat lk
  refine hq _ h.objs.size (fun b o hb ho => ?_) ?_
  · rw [Heap.get?_update_other _ _ (Ne.symm hb)]
    exact Heap.get?_push_of_some _ ho
  · exact Heap.get?_update_self _ he1 rfl
section
variable {A : Around} {E : Value → Shared → Prop} {g hh : Heap} {gg : Array GenState} {dd : Drawn} {tt : Nat} {oo : OsState} {L e t : Addr} {m : Str → Option Value} {od : Option Addr}
noncomputable abbrev excF (t : Addr) : Array Value := #[.ref t, .none, .none, .none, .bool false, .none]
theorem frE {h' : Heap} {W : Addr → Prop} (F : Fr g L hh m) (hL : ¬ W L) (hg : ∀ b o, g.get? b = some o → ¬ W b) (k : ∀ b o, ¬ W b → hh.get? b = some o → h'.get? b = some o) : Fr g L h' m := by
  obtain ⟨oL, es, ep, hLo, r⟩ := F.ns
  exact ⟨⟨oL, es, ep, k _ _ hL hLo, r⟩, fun b o q => k _ _ (hg b o q) (F.keep b o q), F.above⟩
theorem excinitN {Q : Value → Shared → Prop} {v : Value} (F : Fr g L hh m) (X₀ : (Mine.hd.heap_39 w.params).In g) (N : News g L hh [(e, excAt t none)])
    (hq : ∀ h' t', Fr g L h' m → News g L h' [(e, excAt t' none)] → Q .none ⟨h', gg, dd, tt, oo⟩) :
    wpAny (model prog w) A (call (.builtin "Exception.__init__") [.ref e, v]) Q E ⟨hh, gg, dd, tt, oo⟩ := by
  have hN := N (e, excAt t none) (.head _)
  refine excinit (X₀.keeps F.keep) hN.1 fun h' t' k he => hq h' t' (frE (W := (· = e)) F (fun q => hN.2.1 q.symm) (fun b o q z => by rw [z, hN.2.2] at q; cases q) k) ?_
  intro p hp
  obtain rfl := List.mem_singleton.mp hp
  exact ⟨he, hN.2⟩
structure EOk (g : Heap) (L : Addr) (hh : Heap) (e t : Addr) (od : Option Addr) (mA : Str → Option Value) : Prop where
  I : EI hh e (excF t) #[] od mA
  off : ∀ d, od = some d → g.get? d = none ∧ d ≠ L
theorem set_excN {mA : Str → Option Value} {ns : List Str} {name : Str} {v : Value} {Q : Unit → Shared → Prop} (F : Fr g L hh m) (X₀ : (Mine.hd.heap_39 w.params).In g) (N : News g L hh [(e, excAt t od)]) (I : EOk g L hh e t od mA)
    (ha : findIn (Mine.hd.heap_39 w.params) (.ref 71) name = some none) (hw : Within mA ns) (hsz : ns.length ≤ 1000)
    (hq : ∀ h' tk d', Fr g L h' m → News g L h' [(e, excAt t (some d'))] → EOk g L h' e t (some d') (fun y => if y = name then some v else mA y) → Q () ⟨h', gg, dd, tk, oo⟩) :
    wpAny (model prog w) A (setAttr (.ref e) name v) Q E ⟨hh, gg, dd, tt, oo⟩ := by
  have hN := N (e, excAt t od) (.head _)
  refine set_exc (X₀.keeps F.keep) I.I ha (fun h' tk d' I' k o => ?_) hw hsz
  have F' : Fr g L h' m := frE (W := fun b => b = e ∨ od = some b) F (fun q => q.elim (fun z => hN.2.1 z.symm) fun z => (I.off _ z).2 rfl)
    (fun b o q z => z.elim (fun z => by rw [z, hN.2.2] at q; cases q) fun z => by rw [(I.off _ z).1] at q; cases q) fun b o hn hb => k b o (fun z => hn (.inl z)) (fun dx z y => hn (.inr (y ▸ z))) hb
  have off : ∀ d, some d' = some d → g.get? d = none ∧ d ≠ L := fun d z => by
    cases z
    rcases o with o | o
    · exact I.off _ o
    · refine ⟨?_, fun z => ?_⟩
      · cases q : g.get? d' with
        | none => rfl
        | some ob => have := F.keep _ _ q; rw [o] at this; cases this
      · obtain ⟨oL, _, _, hL, _⟩ := F.ns
        rw [z, hL] at o; cases o
  refine hq h' tk d' F' ?_ ⟨I', off⟩
  intro p hp
  obtain rfl := List.mem_singleton.mp hp
  exact ⟨I'.1, hN.2⟩
end
theorem init36 {A : Around} {base : Heap} {l : List Env} {s : Shared} {R : Result → Shared → Prop} {n : Nat} {e t : Addr} {v1 v2 : Value} (M : Rm w A base l s.heap n) (O : Own base l s.heap [(e, excAt t none)])
    (ret : Rt [(e, excAt t none)] (fun v news' _ => v = .none ∧ ∃ t' od, news' = [(e, excAt t' od)]) s R) :
    codeAny (model prog w) A (.call (.ref 36) ⟨[.ref e, v1, v2], []⟩) R s := by
  have bd : Bd [("self", .ref e), ("what", v1), ("at", v2)] := ⟨⟩
  k_dflt walk_at "my enter"
  k_dflt walk_at "my steps"
  k_dflt (refine' method_type (T := "Exception") (v := .builtin "Exception.__init__") ?a ?b ?c ?d ?e ?f ?_)
  case a => k_asm
  case b => k_asm
  case c => exact rfl
  case d => decide +kernel
  case e => k_is
  case f => decide +kernel
  k_dflt walk_at "my steps"
  k_dflt (refine' excinitN ?a ?b ?c ?_)
  case a => k_asm
  case b => k_asm
  case c => k_asm
  intro h1 t1 F1 N1
  k_dflt walk_at "my steps"
  k_dflt (refine' set_excN F1 ?b N1 ⟨⟨(N1 _ (.head _)).1, fun _ => rfl⟩, fun _ q => nomatch q⟩ ?d Within.nil (Nat.zero_le _) ?_)
  case b => k_asm
  case d => k_is
  intro h2 tk2 d2 F2 N2 I2
  clear F1 N1
  k_dflt walk_at "my steps"
  k_dflt (refine' set_excN F2 ?b N2 I2 ?d (Within.cons _ _ Within.nil) (by decide) ?_)
  case b => k_asm
  case d => k_is
  intro h3 tk3 d3 F3 N3 I3
  clear F2 N2
  k_dflt walk_at "my steps"
  exact ⟨rfl, _, _, rfl⟩
end
theorem rs_X3 : True := by
  w_top off
  trivial
section
variable {prog : Program} {w : World} {A : Around} {E : Value → Shared → Prop} {s : Shared} {env : Env}
theorem raise_ct {x : PySem.Expr} {pos : Pos} {Q : Flow → Shared → Prop} (hA : A.handled = none)
    (h : wpAny (model prog w) A (eval x env) (fun v s₁ => ∃ e t od, v = .ref e ∧ (Mine.hd.heap_39 w.params).In s₁.heap ∧ s₁.heap.get? e = some (excAt t od) ∧ E (.ref e) s₁) E s) :
    wpAny (model prog w) A (exec (.Raise (some x) none pos) env) Q E s := by
  rw [arm_exec_Raise]
  refine wpAny_bind (wpAny_standAt ?_)
  unfold raiseStmt
  refine wpAny_bind (wpAny_bind (wpAny_mono h (fun v s₁ h₁ => wpAny_bind (wpAny_standAt (wpAny_pure ?_))) fun _ _ x => x))
  obtain ⟨e, t, od, rfl, X, he, hE⟩ := h₁
  obtain ⟨hp, g, d, tk, os⟩ := s₁
  have T : Looks (model prog w) hp (typeOf (.ref e)) (.ref 71) := (Looks.ld he).andThen .now
  have T2 : Looks (model prog w) hp (typeOf (.ref 71)) (.type "type") := looks_typeIn X (by rfl)
  have S : Looks (model prog w) hp (isSubtype (.ref 71) (.type "BaseException")) true := looks_mroIn X (by rfl)
  have f1 : Looks (model prog w) hp (field (.ref e) 1) .none := PySem.W.looks_field he 1 rfl
  repeat lk
  show wpAny _ _ handled _ _ _
  refine wpAny_handled ?_
  rw [hA]
  exact wpAny_throw hE
end
theorem rs_X4 : True := by
  w_top off
  trivial
section
variable {prog : Program} {w : World} {A : Around} {base : Heap} {l : List Env} {n : Nat} {g h₀ hh : Heap} {gg : Array GenState} {dd : Drawn} {tt : Nat} {oo : OsState} {L : Addr} {m : Str → Option Value} {led : List (Addr × Obj)} {env : Env}
theorem Rm.make {A' : Around} {h : Heap} (M : Rm w A' base l h (n + 1)) (C : Addr) (vals : List Value) : Rm w (A'.under (.builtin "type.__call__" ⟨.ref C :: vals, []⟩)) base l h n :=
  ⟨M.handled, by have := M.depth; show A'.depth + 1 + 4 * n < _; omega, by have := M.units; show A'.units + 1 + 20 * n < _; omega, ⟨M.below.stack, M.below.stays, M.below.frames⟩, M.tp⟩
theorem Rm.grown {A' : Around} {h h' : Heap} (M : Rm w A' base l h n) (k : ∀ b o, h.get? b = some o → h'.get? b = some o) : Rm w A' base l h' n :=
  ⟨M.handled, M.depth, M.units, ⟨M.below.stack, fun b o e => k b o (M.below.stays b o e), M.below.frames.of_keeps fun b o e _ => ⟨o, k b o e, rfl⟩⟩, M.tp⟩
theorem own_of {l' : List Env} {news : List (Addr × Obj)} (B : Below A base l g) (N : News g L hh led) (hs : ∀ p ∈ news, p ∈ led) (hf : env.frame = some L) (hl : l' = env :: l) : Own base l' hh news := by
  subst hl
  intro p hp
  have hN := N p (hs p hp)
  refine ⟨hN.1, fresh_of_stays B.stays hN.2.2, fun e he q => ?_⟩
  rcases List.mem_cons.mp he with rfl | he
  · rw [hf] at q; exact hN.2.1 (Option.some.inj q).symm
  · obtain ⟨L₁, o₁, hf₁, ho₁⟩ := funFrames_in B.frames e he
    rw [hf₁] at q
    rw [Option.some.inj q, hN.2.2] at ho₁; cases ho₁
theorem after {h' : Heap} {news news' rest : List (Addr × Obj)} (F : Fr g L hh m) (N : News g L hh led) (hs : ∀ p ∈ news, p ∈ led) (hr : Pick (news.map Prod.fst) led rest)
    (kp : Kp (news.map Prod.fst) hh h') (hn : Has (news.map Prod.fst) hh h' news') : Fr g L h' m ∧ News g L h' (news' ++ rest) := by
  have hg : ∀ b o, g.get? b = some o → b ∉ news.map Prod.fst := fun b o e hm => by
    obtain ⟨q, hq, rfl⟩ := List.mem_map.mp hm
    rw [(N q (hs q hq)).2.2] at e; cases e
  obtain ⟨oL, es, ep, hL, r⟩ := F.ns
  have hLn : L ∉ news.map Prod.fst := fun hm => by
    obtain ⟨q, hq, e⟩ := List.mem_map.mp hm
    exact (N q (hs q hq)).2.1 e
  refine ⟨⟨⟨oL, es, ep, kp _ _ hLn hL, r⟩, fun b o e => kp _ _ (hg b o e) (F.keep b o e), F.above⟩, ?_⟩
  intro p hp
  rcases List.mem_append.mp hp with hp | hp
  · refine ⟨(hn p hp).1, fun e => ?_, ?_⟩
    · rcases (hn p hp).2 with h1 | h1
      · exact hLn (e ▸ h1)
      · rw [e, hL] at h1; cases h1
    · rcases (hn p hp).2 with h1 | h1
      · obtain ⟨q, hq, e⟩ := List.mem_map.mp h1
        rw [← e]; exact (N q (hs q hq)).2.2
      · cases e : g.get? p.1 with
        | none => rfl
        | some o => have := F.keep _ _ e; rw [h1] at this; cases this
  · obtain ⟨h1, h2⟩ := hr.spec p hp
    exact ⟨kp _ _ h2 (N p h1).1, (N p h1).2⟩
theorem useNew {E : Value → Shared → Prop} {Q₀ : Value → Shared → Prop} {vals : List Value} {P : Heap → Prop} {C fI : Addr} {Qi : Addr → Addr → List (Addr × Obj) → Prop}
    (hC : ∀ x dx, Fun prog w fI n (.ref x :: vals) P [(x, instObj C dx), (dx, dictOf [] 0)] (fun v news' _ => v = .none ∧ Qi x dx news'))
    (M : Rm w A base l h₀ (n + 2)) (B : Below A base l g) (F : Fr g L hh m) (X₀ : (Mine.hd.heap_39 w.params).In g) (N : News g L hh led)
    (hm : makesIn (Mine.hd.heap_39 w.params) C = true) (hi : findIn (Mine.hd.heap_39 w.params) (.ref C) "__init__" = some (some (.ref fI))) (hfn : isFn (Mine.hd.heap_39 w.params) (.ref fI) = true)
    (hP : ∀ h', (∀ b o, hh.get? b = some o → h'.get? b = some o) → P h')
    (k : ∀ x dx h' tk news', Fr g L h' m → News g L h' (news' ++ led) → (∀ p ∈ led, p.1 < dx) → dx < x → Qi x dx news' → Q₀ (.ref x) ⟨h', gg, dd, tk, oo⟩)
    (hf : env.frame = some L) (hk : env.scope.kind = .function) :
    wpAny (model prog w) (A.deeper env) (call (.ref C) vals) Q₀ E ⟨hh, gg, dd, tt, oo⟩ := by
  refine wpAny_call (codeAny_mono (R := fun r s' => match r with | .ok (.ret v) => Q₀ v s' | .ok _ => False | .error e => E e s') ?_ fun r s' z => z)
  have X := X₀.keeps F.keep
  have N' := (N.push F emptyDict).push (F.push _) (instObj C hh.objs.size)
  rw [Heap.size_push] at N'
  refine make_core (makes_of X hm) (looks_findIn X hi) (fun self => bind_fn X self (beq_iff_eq.mp hfn)) (.inl rfl) ?_
  have kk : ∀ b o, hh.get? b = some o → ((hh.push emptyDict).push (instObj C hh.objs.size)).get? b = some o := fun b o e => Heap.get?_push_of_some _ (Heap.get?_push_of_some _ e)
  have F' : Fr g L ((hh.push emptyDict).push (instObj C hh.objs.size)) m := (F.push _).push _
  have M' := (M.deeper (env := env) B F' hf hk).make C vals
  refine hC (hh.objs.size + 1) hh.objs.size _ _ _ _ _ M' (own_of B N' (by intro p hp; rcases List.mem_cons.mp hp with rfl | hp; · exact .head _
                                                                          · rcases List.mem_cons.mp hp with rfl | hp; · exact .tail _ (.head _)
                                                                            · cases hp) hf rfl) (hP _ kk) ⟨fun v h' tk news' kp hn q => ?_⟩
  obtain ⟨rfl, q⟩ := q
  refine ⟨rfl, ?_⟩
  have hlt : ∀ p ∈ led, p.1 < hh.objs.size := fun p hp => Heap.lt_size (N p hp).1
  have pk : Pick (List.map Prod.fst [(hh.objs.size + 1, instObj C hh.objs.size), (hh.objs.size, dictOf [] 0)]) ((hh.objs.size + 1, instObj C hh.objs.size) :: (hh.objs.size, emptyDict) :: led) led := by
    refine .take (.head _) (.take (.tail _ (.head _)) ?_)
    have : ∀ (l : List (Addr × Obj)), (∀ p ∈ l, p.1 < hh.objs.size) → Pick (List.map Prod.fst [(hh.objs.size + 1, instObj C hh.objs.size), (hh.objs.size, dictOf [] 0)]) l l := by
      intro l
      induction l with
      | nil => exact fun _ => .nil
      | cons p r ih =>
        refine fun h => .skip (fun hm => ?_) (ih fun q hq => h q (.tail _ hq))
        have h1 := h p (.head _)
        rcases List.mem_cons.mp hm with e | hm
        · rw [show p.1 = hh.objs.size + 1 from e] at h1; exact absurd h1 (Nat.not_lt.mpr (Nat.le_succ _))
        · rcases List.mem_cons.mp hm with e | hm
          · rw [show p.1 = hh.objs.size from e] at h1; exact absurd h1 (Nat.lt_irrefl _)
          · cases hm
    exact this led hlt
  obtain ⟨F₂, N₂⟩ := after F' N' (by intro p hp; rcases List.mem_cons.mp hp with rfl | hp; · exact .head _
                                     · rcases List.mem_cons.mp hp with rfl | hp; · exact .tail _ (.head _)
                                       · cases hp) pk kp hn
  exact k _ _ h' tk news' F₂ N₂ hlt (Nat.lt_succ_self _) q
theorem useN1 {α : Type} {E : Value → Shared → Prop} {Q₀ : Value → Shared → Prop} {vals : List Value} {P : Heap → Prop} {C fI : Addr} {NW : Addr → Addr → α → List (Addr × Obj)}
    (hC : ∀ x dx, Fun prog w fI n (.ref x :: vals) P [(x, instObj C dx), (dx, dictOf [] 0)] (fun v news' _ => v = .none ∧ ∃ t, news' = NW x dx t))
    (M : Rm w A base l h₀ (n + 2)) (B : Below A base l g) (F : Fr g L hh m) (X₀ : (Mine.hd.heap_39 w.params).In g) (N : News g L hh led)
    (hm : makesIn (Mine.hd.heap_39 w.params) C = true) (hi : findIn (Mine.hd.heap_39 w.params) (.ref C) "__init__" = some (some (.ref fI))) (hfn : isFn (Mine.hd.heap_39 w.params) (.ref fI) = true)
    (hP : ∀ h', (∀ b o, hh.get? b = some o → h'.get? b = some o) → P h')
    (k : ∀ x dx h' tk, Fr g L h' m → (∀ p ∈ led, p.1 < dx) → dx < x → ∀ t, News g L h' (NW x dx t ++ led) → Q₀ (.ref x) ⟨h', gg, dd, tk, oo⟩)
    (hf : env.frame = some L) (hk : env.scope.kind = .function) :
    wpAny (model prog w) (A.deeper env) (call (.ref C) vals) Q₀ E ⟨hh, gg, dd, tt, oo⟩ :=
  useNew hC M B F X₀ N hm hi hfn hP (fun x dx h' tk nw F' N' l1 l2 q => by obtain ⟨t, rfl⟩ := q; exact k x dx h' tk F' l1 l2 t N') hf hk
theorem useN2 {α β : Type} {E : Value → Shared → Prop} {Q₀ : Value → Shared → Prop} {vals : List Value} {P : Heap → Prop} {C fI : Addr} {NW : Addr → Addr → α → β → List (Addr × Obj)}
    (hC : ∀ x dx, Fun prog w fI n (.ref x :: vals) P [(x, instObj C dx), (dx, dictOf [] 0)] (fun v news' _ => v = .none ∧ ∃ t u, news' = NW x dx t u))
    (M : Rm w A base l h₀ (n + 2)) (B : Below A base l g) (F : Fr g L hh m) (X₀ : (Mine.hd.heap_39 w.params).In g) (N : News g L hh led)
    (hm : makesIn (Mine.hd.heap_39 w.params) C = true) (hi : findIn (Mine.hd.heap_39 w.params) (.ref C) "__init__" = some (some (.ref fI))) (hfn : isFn (Mine.hd.heap_39 w.params) (.ref fI) = true)
    (hP : ∀ h', (∀ b o, hh.get? b = some o → h'.get? b = some o) → P h')
    (k : ∀ x dx h' tk, Fr g L h' m → (∀ p ∈ led, p.1 < dx) → dx < x → ∀ t u, News g L h' (NW x dx t u ++ led) → Q₀ (.ref x) ⟨h', gg, dd, tk, oo⟩)
    (hf : env.frame = some L) (hk : env.scope.kind = .function) :
    wpAny (model prog w) (A.deeper env) (call (.ref C) vals) Q₀ E ⟨hh, gg, dd, tt, oo⟩ :=
  useNew hC M B F X₀ N hm hi hfn hP (fun x dx h' tk nw F' N' l1 l2 q => by obtain ⟨t, u, rfl⟩ := q; exact k x dx h' tk F' l1 l2 t u N') hf hk
theorem useN3 {α β γ : Type} {E : Value → Shared → Prop} {Q₀ : Value → Shared → Prop} {vals : List Value} {P : Heap → Prop} {C fI : Addr} {NW : Addr → Addr → α → β → γ → List (Addr × Obj)}
    (hC : ∀ x dx, Fun prog w fI n (.ref x :: vals) P [(x, instObj C dx), (dx, dictOf [] 0)] (fun v news' _ => v = .none ∧ ∃ t u y, news' = NW x dx t u y))
    (M : Rm w A base l h₀ (n + 2)) (B : Below A base l g) (F : Fr g L hh m) (X₀ : (Mine.hd.heap_39 w.params).In g) (N : News g L hh led)
    (hm : makesIn (Mine.hd.heap_39 w.params) C = true) (hi : findIn (Mine.hd.heap_39 w.params) (.ref C) "__init__" = some (some (.ref fI))) (hfn : isFn (Mine.hd.heap_39 w.params) (.ref fI) = true)
    (hP : ∀ h', (∀ b o, hh.get? b = some o → h'.get? b = some o) → P h')
    (k : ∀ x dx h' tk, Fr g L h' m → (∀ p ∈ led, p.1 < dx) → dx < x → ∀ t u y, News g L h' (NW x dx t u y ++ led) → Q₀ (.ref x) ⟨h', gg, dd, tk, oo⟩)
    (hf : env.frame = some L) (hk : env.scope.kind = .function) :
    wpAny (model prog w) (A.deeper env) (call (.ref C) vals) Q₀ E ⟨hh, gg, dd, tt, oo⟩ :=
  useNew hC M B F X₀ N hm hi hfn hP (fun x dx h' tk nw F' N' l1 l2 q => by obtain ⟨t, u, y, rfl⟩ := q; exact k x dx h' tk F' l1 l2 t u y N') hf hk
theorem useN4 {α β γ δ : Type} {E : Value → Shared → Prop} {Q₀ : Value → Shared → Prop} {vals : List Value} {P : Heap → Prop} {C fI : Addr} {NW : Addr → Addr → α → β → γ → δ → List (Addr × Obj)}
    (hC : ∀ x dx, Fun prog w fI n (.ref x :: vals) P [(x, instObj C dx), (dx, dictOf [] 0)] (fun v news' _ => v = .none ∧ ∃ t u y z, news' = NW x dx t u y z))
    (M : Rm w A base l h₀ (n + 2)) (B : Below A base l g) (F : Fr g L hh m) (X₀ : (Mine.hd.heap_39 w.params).In g) (N : News g L hh led)
    (hm : makesIn (Mine.hd.heap_39 w.params) C = true) (hi : findIn (Mine.hd.heap_39 w.params) (.ref C) "__init__" = some (some (.ref fI))) (hfn : isFn (Mine.hd.heap_39 w.params) (.ref fI) = true)
    (hP : ∀ h', (∀ b o, hh.get? b = some o → h'.get? b = some o) → P h')
    (k : ∀ x dx h' tk, Fr g L h' m → (∀ p ∈ led, p.1 < dx) → dx < x → ∀ t u y z, News g L h' (NW x dx t u y z ++ led) → Q₀ (.ref x) ⟨h', gg, dd, tk, oo⟩)
    (hf : env.frame = some L) (hk : env.scope.kind = .function) :
    wpAny (model prog w) (A.deeper env) (call (.ref C) vals) Q₀ E ⟨hh, gg, dd, tt, oo⟩ :=
  useNew hC M B F X₀ N hm hi hfn hP (fun x dx h' tk nw F' N' l1 l2 q => by obtain ⟨t, u, y, z, rfl⟩ := q; exact k x dx h' tk F' l1 l2 t u y z N') hf hk
end
theorem rs_X5 : True := by
  w_top off
  trivial
section
variable {prog : Program} {w : World}
theorem init36d {A : Around} {base : Heap} {l : List Env} {s : Shared} {R : Result → Shared → Prop} {n : Nat} {e t : Addr} {v1 : Value} (M : Rm w A base l s.heap n) (O : Own base l s.heap [(e, excAt t none)])
    (ret : Rt [(e, excAt t none)] (fun v news' _ => v = .none ∧ ∃ t' od, news' = [(e, excAt t' od)]) s R) :
    codeAny (model prog w) A (.call (.ref 36) ⟨[.ref e, v1], []⟩) R s := by
  have bd : Bd [("self", .ref e), ("what", v1), ("at", .int (-1) 209)] := ⟨⟩
  k_dflt walk_at "my enter"
  k_dflt walk_at "my steps"
  k_dflt (refine' method_type (T := "Exception") (v := .builtin "Exception.__init__") ?a ?b ?c ?d ?e ?f ?_)
  case a => k_asm
  case b => k_asm
  case c => exact rfl
  case d => decide +kernel
  case e => k_is
  case f => decide +kernel
  k_dflt walk_at "my steps"
  k_dflt (refine' excinitN ?a ?b ?c ?_)
  case a => k_asm
  case b => k_asm
  case c => k_asm
  intro h1 t1 F1 N1
  k_dflt walk_at "my steps"
  k_dflt (refine' set_excN F1 ?b N1 ⟨⟨(N1 _ (.head _)).1, fun _ => rfl⟩, fun _ q => nomatch q⟩ ?d Within.nil (Nat.zero_le _) ?_)
  case b => k_asm
  case d => k_is
  intro h2 tk2 d2 F2 N2 I2
  clear F1 N1
  k_dflt walk_at "my steps"
  k_dflt (refine' set_excN F2 ?b N2 I2 ?d (Within.cons _ _ Within.nil) (by decide) ?_)
  case b => k_asm
  case d => k_is
  intro h3 tk3 d3 F3 N3 I3
  clear F2 N2
  k_dflt walk_at "my steps"
  exact ⟨rfl, _, _, rfl⟩
noncomputable def SlotsBut (W : List Addr) (h h' : Heap) : Prop := ∀ b o, b ∉ W → h.get? b = some o → (∀ vs, o.data ≠ .fields vs) → ∃ sl, h'.get? b = some { o with slots := sl }
structure Fly (g base : Heap) (l : List Env) (e : Addr) (h' : Heap) : Prop where
  fl : Heap.Flying base l e (.ref 71) h'
  up : g.UpToSlots h'
noncomputable def Bad (base : Heap) (l : List Env) (news : List (Addr × Obj)) (s : Shared) (R : Result → Shared → Prop) : Prop :=
  ∀ e h' tk, Heap.Flying base l e (.ref 71) h' → SlotsBut (news.map Prod.fst) s.heap h' → R (.error (.ref e)) { s with heap := h', toks := tk }
noncomputable def FunE (prog : Program) (w : World) (f n : Nat) (vs : List Value) (P : Heap → Prop) (news : List (Addr × Obj)) (Q : Post) (X : Prop) : Prop :=
  ∀ (A : Around) (base : Heap) (l : List Env) (s : Shared) (R : Result → Shared → Prop),
    Rm w A base l s.heap n → Own base l s.heap news → P s.heap → Rt news Q s R → (X → Bad base l news s R) → codeAny (model prog w) A (.call (.ref f) ⟨vs, []⟩) R s
section
variable {f n : Nat} {vs : List Value} {P : Heap → Prop} {news : List (Addr × Obj)} {Q : Post} {X : Prop}
theorem FunE.fun (C : FunE prog w f n vs P news Q X) (h : ¬ X) : Fun prog w f n vs P news Q :=
  fun A base l s R M O hP ret => C A base l s R M O hP ret fun x => absurd x h
variable {A : Around} {base : Heap} {l : List Env} {E : Value → Shared → Prop} {Q₀ : Value → Shared → Prop} {g h₀ hh : Heap} {gg : Array GenState} {dd : Drawn} {tt : Nat} {oo : OsState} {L : Addr} {m : Str → Option Value} {led rest : List (Addr × Obj)} {env : Env}
theorem useE (C : FunE prog w f n vs P news Q X) (M : Rm w A base l h₀ (n + 1)) (B : Below A base l g) (F : Fr g L hh m) (N : News g L hh led)
    (hs : ∀ p ∈ news, p ∈ led) (hr : Pick (news.map Prod.fst) led rest) (hP : P hh)
    (k : ∀ v h' tk news', Fr g L h' m → News g L h' (news' ++ rest) → (∀ p ∈ news', p.1 ∈ news.map Prod.fst ∨ hh.get? p.1 = none) → Q v news' h' → Q₀ v ⟨h', gg, dd, tk, oo⟩)
    (kE : X → ∀ e h' tk, Fly g base (env :: l) e h' → E (.ref e) ⟨h', gg, dd, tk, oo⟩)
    (hf : env.frame = some L) (hk : env.scope.kind = .function) :
    wpAny (model prog w) (A.deeper env) (call (.ref f) vs) Q₀ E ⟨hh, gg, dd, tt, oo⟩ := by
  have M' := M.deeper (env := env) B F hf hk
  refine wpAny_call (C _ _ _ _ _ M' (own_of B N hs hf rfl) hP ⟨fun v h' tk news' kp hn q => ?_⟩ fun x e h' tk fl up => kE x e h' tk ⟨fl, fun b o q nf => up b o (fun hm => by obtain ⟨p, hp, rfl⟩ := List.mem_map.mp hm; rw [(N p (hs p hp)).2.2] at q; cases q) (F.keep b o q) nf⟩)
  obtain ⟨F', N'⟩ := after F N hs hr kp hn
  exact k v h' tk news' F' N' (fun p hp => (hn p hp).2) q
theorem useExc {rest : List Value} (hinit : ∀ {A' : Around} {l' : List Env} {s' : Shared} {R' : Result → Shared → Prop} {e t : Addr}, Rm w A' base l' s'.heap n → Own base l' s'.heap [(e, excAt t none)] →
      Rt [(e, excAt t none)] (fun v news' _ => v = .none ∧ ∃ t' od, news' = [(e, excAt t' od)]) s' R' → codeAny (model prog w) A' (.call (.ref 36) ⟨.ref e :: rest, []⟩) R' s')
    (M : Rm w A base l h₀ (n + 2)) (B : Below A base l g) (F : Fr g L hh m) (X₀ : (Mine.hd.heap_39 w.params).In g) (N : News g L hh led) (hrest : rest.length ≤ sizeLine)
    (k : ∀ e t od h' tk, Fr g L h' m → News g L h' ((e, excAt t od) :: led) → (∀ p ∈ led, p.1 ≠ e) → Q₀ (.ref e) ⟨h', gg, dd, tk, oo⟩)
    (hf : env.frame = some L) (hk : env.scope.kind = .function) :
    wpAny (model prog w) (A.deeper env) (call (.ref 71) rest) Q₀ E ⟨hh, gg, dd, tt, oo⟩ := by
  have XX := X₀.keeps F.keep
  have hC := XX 71 _ rfl
  refine wpAny_call (codeAny_mono (R := fun r s' => match r with | .ok (.ret v) => Q₀ v s' | .ok _ => False | .error e => E e s') ?_ fun r s' z => z)
  refine make71 XX hC hrest fun h' e t' kk hn he => ?_
  have F' : Fr g L h' m := by
    obtain ⟨oL, es, ep, hLo, r⟩ := F.ns
    exact ⟨⟨oL, es, ep, kk _ _ hLo, r⟩, fun b o q => kk _ _ (F.keep b o q), F.above⟩
  have N' : News g L h' ((e, excAt t' none) :: led) := by
    intro p hp
    rcases List.mem_cons.mp hp with rfl | hp
    · refine ⟨he, fun z => ?_, ?_⟩
      · obtain ⟨oL, es, ep, hLo, r⟩ := F.ns
        have z : e = L := z
        rw [z, hLo] at hn; cases hn
      · show g.get? e = none
        cases q : g.get? e with
        | none => rfl
        | some o => have := F.keep _ _ q; rw [hn] at this; cases this
    · exact ⟨kk _ _ (N p hp).1, (N p hp).2⟩
  have hne : ∀ p ∈ led, p.1 ≠ e := fun p hp z => by have := (N p hp).1; rw [z, hn] at this; cases this
  have M' := (M.deeper (env := env) B F' hf hk).make 71 rest
  have pk : Pick (List.map Prod.fst [(e, excAt t' none)]) ((e, excAt t' none) :: led) led := by
    refine .take (.head _) ?_
    have : ∀ (l : List (Addr × Obj)), (∀ p ∈ l, p.1 ≠ e) → Pick (List.map Prod.fst [(e, excAt t' none)]) l l := by
      intro l
      induction l with
      | nil => exact fun _ => .nil
      | cons p r ih => exact fun h => .skip (fun hm => h p (.head _) (List.mem_singleton.mp hm)) (ih fun q hq => h q (.tail _ hq))
    exact this led hne
  have hs1 : ∀ p ∈ [(e, excAt t' none)], p ∈ (e, excAt t' none) :: led := fun p hp => by rw [List.mem_singleton.mp hp]; exact .head _
  refine hinit M' (own_of B N' hs1 hf rfl) ⟨fun v h'' tk news' kp hn' q => ?_⟩
  obtain ⟨rfl, t'', od, rfl⟩ := q
  obtain ⟨F₂, N₂⟩ := after F' N' hs1 pk kp hn'
  exact ⟨rfl, k e t'' od h'' tk F₂ N₂ hne⟩
end
end
theorem rs_X6 : True := by
  w_top off
  trivial
section
variable {prog : Program} {w : World} {A : Around} {base : Heap} {l : List Env} {E : Value → Shared → Prop} {g : Heap} {L a e : Addr} {m : Str → Option Value} {led : List (Addr × Obj)} {name : Str} {scope : Scope} {cd : Value} {s s₁ : Shared} {R : Result → Shared → Prop} {X : Prop} {n : Nat}
noncomputable def Rz (P : Params) (E : Value → Shared → Prop) (v : Value) (s₁ : Shared) : Prop := ∃ e t od, v = .ref e ∧ (Mine.hd.heap_39 P).In s₁.heap ∧ s₁.heap.get? e = some (excAt t od) ∧ E (.ref e) s₁
theorem rz_end {t : Addr} {od : Option Addr} (F : Fr g L s₁.heap m) (X₀ : (Mine.hd.heap_39 w.params).In g) (N : News g L s₁.heap ((e, excAt t od) :: led)) (h : E (.ref e) s₁) : Rz w.params E (.ref e) s₁ :=
  ⟨e, t, od, rfl, X₀.keeps F.keep, (N _ (.head _)).1, h⟩
theorem raise_z {env : Env} {h₀ : Heap} {x : PySem.Expr} {pos : Pos} {Q : Flow → Shared → Prop} (M : Rm w A base l h₀ n)
    (h : wpAny (model prog w) (A.deeper env) (eval x env) (Rz w.params E) E s) : wpAny (model prog w) (A.deeper env) (exec (.Raise (some x) none pos) env) Q E s :=
  raise_ct M.handled h
theorem leave_excB {M : Model} {t : Addr} {od : Option Addr} {h₁ : Heap} {tk : Nat} {news : List (Addr × Obj)} {E' : Value → Shared → Prop} (B : Below A base l g) (kg : Kg news s.heap g) (F : Fr g L h₁ m) (N : News g L h₁ ((e, excAt t od) :: led))
    (bad : X → Bad base l news s R) (hX : Hold X) (hk : scope.kind = .function := by rfl) :
    wpAny M (A.deeper (envOf name scope L a cd)) (leaving (envOf name scope L a cd) (.ref e)) (fun _ s'' => R (.error (.ref e)) s'') E' { s with heap := h₁, toks := tk } := by
  have K := B.push (name := name) (a := a) (cd := cd) F hk
  refine wpAny_leaving_first (s := { s with heap := h₁, toks := tk }) K.stack K.frames rfl (N _ (.head _)).1 K.stays (fresh_of_stays B.stays (N _ (.head _)).2.2) rfl rfl fun h' hL => ?_
  obtain ⟨k1, ⟨_, _, k2⟩, k3, k4⟩ := hL
  exact bad hX e h' tk ⟨k1, fresh_of_stays B.stays (N _ (.head _)).2.2, k2, k3⟩ fun b o hb q nf => k4 b o (F.keep b o (kg.to b o hb q)) nf
theorem leave_flyB {M : Model} {h₁ : Heap} {tk : Nat} {news : List (Addr × Obj)} {E' : Value → Shared → Prop} (B : Below A base l g) (kg : Kg news s.heap g) (fl : Fly g base (envOf name scope L a cd :: l) e h₁)
    (bad : X → Bad base l news s R) (hX : Hold X) :
    wpAny M (A.deeper (envOf name scope L a cd)) (leaving (envOf name scope L a cd) (.ref e)) (fun _ s'' => R (.error (.ref e)) s'') E' { s with heap := h₁, toks := tk } := by
  obtain ⟨⟨f1, f2, f3, f4⟩, up⟩ := fl
  refine wpAny_leaving_next (s := { s with heap := h₁, toks := tk }) (Around.frames_deeper B.stack) f3 rfl f4 f1 f2 fun h' hL => ?_
  obtain ⟨k1, ⟨_, _, k2⟩, k3, k4⟩ := hL
  refine bad hX e h' tk ⟨k1, f2, k2, k3⟩ fun b o hb q nf => ?_
  obtain ⟨sl, q'⟩ := up b o (kg.to b o hb q) nf
  obtain ⟨sl', q''⟩ := k4 b _ q' nf
  exact ⟨sl', q''⟩
end
section
theorem ln_20 : True := by
  k_with "exec Raise some none" => ((k_here; k_dflt (refine' raise_z ?q20zM ?_; (case q20zM => assumption); k_whole)))
  k_with "Rz" => ((k_dflt (refine' rz_end ?q21zF ?q21zX ?q21zN ?_; (case q21zF => k_asm); (case q21zX => k_asm); (case q21zN => k_asm))))
  k_with "leaving ref" => ((k_dflt (refine' leave_excB ?q22zB ?q22zkg ?q22zF ?q22zN ?q22zb ?_; (case q22zB => assumption); (case q22zkg => assumption); (case q22zF => k_asm); (case q22zN => k_asm); (case q22zb => assumption))))
  k_with "leaving ref" => ((k_dflt (refine' leave_flyB ?q23zB ?q23zkg ?q23zF ?q23zb ?_; (case q23zB => assumption); (case q23zkg => assumption); (case q23zF => assumption); (case q23zb => assumption))))
  k_with "my call" => (((with_reducible show wpAny _ _ (call (Value.ref 71) [_, _]) _ _ _); k_dflt (refine' useExc (fun M O R => init36 M O R) ?q24zM ?q24zB ?q24zF ?q24zX ?q24zN ?q24zz ?_ rfl rfl; (case q24zM => assumption); (case q24zB => assumption); (case q24zF => k_asm); (case q24zX => k_asm); (case q24zN => k_asm); (case q24zz => size_fits)); intro _ _ _ _ _ _ _ _; (try k_sweep)))
  k_with "my call" => (((with_reducible show wpAny _ _ (call (Value.ref 71) [_]) _ _ _); k_dflt (refine' useExc (fun M O R => init36d M O R) ?q25zM ?q25zB ?q25zF ?q25zX ?q25zN ?q25zz ?_ rfl rfl; (case q25zM => assumption); (case q25zB => assumption); (case q25zF => k_asm); (case q25zX => k_asm); (case q25zN => k_asm); (case q25zz => size_fits)); intro _ _ _ _ _ _ _ _; (try k_sweep)))
  trivial
end
theorem rs_C4 : True := by
  w_top off
  trivial
section
variable {prog : Program} {w : World}
variable {c d : Addr} {k1 k2 k3 : Tok} {b : Array UInt8} {ks r : List Int} {tb ti te : Tok} {i : Int} {e : Nat}
theorem ln_26 : True := by
  k_with "my call" => (((with_reducible show wpAny _ _ (call (Value.ref 154) [Value.ref _]) _ _ _); k_dflt (refine' useC1 (skip_white_ct _ ?q26zhk ?q26zhz ?q26zhs ?q26zhc) ?q26zM ?q26zB ?q26zF ?q26zN ?q26zhb ?q26zhp trivial ?_ rfl rfl; (case q26zM => assumption); (case q26zB => assumption); (case q26zF => k_asm); (case q26zN => k_asm); (case q26zhb => walk_at "my subs"); (case q26zhk => assumption); (case q26zhz => assumption); (case q26zhs => walk_at "my suf"); (case q26zhc => walk_at "my noc"); (case q26zhp => walk_at "my pick")); intro _ _ _ _ _; walk_at "tout"; (try k_sweep)))
  k_with "my call" => (((with_reducible show wpAny _ _ (call (Value.ref 182) [Value.ref _]) _ _ _); k_dflt (refine' use (number_ct _ ?q27zhk ?q27zhz ?q27zhs) ?q27zM ?q27zB ?q27zF ?q27zN ?q27zhb ?q27zhp trivial ?_ rfl rfl; (case q27zM => assumption); (case q27zB => assumption); (case q27zF => k_asm); (case q27zN => k_asm); (case q27zhb => walk_at "my subs"); (case q27zhk => assumption); (case q27zhz => assumption); (case q27zhs => exact Suf.tail (by assumption) (List.dropWhile_suffix _)); (case q27zhp => walk_at "my pick")); intro _ _ _ _ _ _ ho' q'; clear ho'; split at q' <;> (first | (obtain ⟨rfl, ⟨_, rfl⟩⟩ := q') | (obtain ⟨⟨_, rfl⟩, ⟨_, rfl⟩⟩ := q')) <;> walk_at "tout" <;> (try k_sweep)))
  trivial
theorem next_count_ct (n : Nat) (hk : KBw.bInts b = ks) (hz : ks.length ≤ 16777216) (hs : Suf ks e r) (hc : ∀ x ∈ r, x ≠ 37) :
    FunE prog w 695 (n + 3) [.ref c] (fun _ => True) (curN w.params c d k1 k2 k3 b tb ((e : Int) - r.length) ti e te)
      (fun v news' _ => ¬ ((r.dropWhile isW).takeWhile isFig = [] ∨ 20 < ((r.dropWhile isW).takeWhile isFig).length) ∧ (∃ t, v = .int (val ((r.dropWhile isW).takeWhile isFig)) t) ∧
        ∃ t', news' = curN w.params c d k1 k2 k3 b tb ((e : Int) - ((r.dropWhile isW).dropWhile isFig).length) t' e te)
      ((r.dropWhile isW).takeWhile isFig = [] ∨ 20 < ((r.dropWhile isW).takeWhile isFig).length) := by
  intro A base l s R M O _ ret bad
  have bd : Bd [("cursor", .ref c)] := ⟨⟩
  have hne : c ≠ d := O.ne (List.Mem.head _) (List.Mem.tail _ (List.Mem.head _)) (by simp)
  k_dflt walk_at "my enter"
  k_dflt walk_at "my steps"
  · unfold Hold; assumption
  · exact ⟨by assumption, ⟨_, rfl⟩, _, rfl⟩
end
theorem rs_Lp : True := by
  w_top off
  trivial
section
variable {prog : Program} {w : World} {A : Around} {E : Value → Shared → Prop} {s : Shared} {env : Env} {h₀ : Heap} {x : Str} {body : List Stmt} {Q : Flow → Shared → Prop}
noncomputable def Turn (h₀ : Heap) (L : Addr) (I : Addr) (oI : Obj) (J : (Str → Option Value) → List (Addr × Obj) → Prop) (s₁ s₂ : Shared) : Prop :=
  ∃ h' tk m' news' nx, s₂ = { s₁ with heap := h', toks := tk } ∧ Fr h₀ L h' m' ∧ News h₀ L h' news' ∧ (I, oI) ∈ news' ∧ (∀ p ∈ nx, p ∈ news') ∧ (∀ p ∈ nx, p.1 ≠ I) ∧ J m' nx
noncomputable def TurnStep (h₀ : Heap) (L : Addr) (I : Addr) (oI : Obj) (J : (Str → Option Value) → List (Addr × Obj) → Prop) (s₁ : Shared) (Q : Flow → Shared → Prop) (f : Flow) (s₂ : Shared) : Prop :=
  match f with
  | .ret v => Q (.ret v) s₂
  | .brk => Q .next s₂
  | _ => Turn h₀ L I oI J s₁ s₂
theorem Turn.intro {L I : Addr} {oI : Obj} {J : (Str → Option Value) → List (Addr × Obj) → Prop} {m' : Str → Option Value} {nx : List (Addr × Obj)} {s₁ : Shared} {h' : Heap} {tk : Nat} {news' : List (Addr × Obj)} (F : Fr h₀ L h' m') (N : News h₀ L h' news')
    (hI : (I, oI) ∈ news') (hn : ∀ p ∈ nx, p ∈ news') (hne : ∀ p ∈ nx, p.1 ≠ I) (hj : J m' nx) : Turn h₀ L I oI J s₁ { s₁ with heap := h', toks := tk } := ⟨h', tk, m', _, nx, rfl, F, N, hI, hn, hne, hj⟩
theorem loop_my {I : Addr} {fp : List Addr} {n : Nat} {P : Nat → Value → Prop} {St : Nat → Heap → Prop} {m₀ : Str → Option Value} {news : List (Addr × Obj)} (J : Nat → (Str → Option Value) → List (Addr × Obj) → Prop)
    (W : Walks prog w A I fp [I] n P St) (hI : I ∈ fp) (hI0 : h₀.get? I = none) (hob : ∀ i h, St i h → ∃ o, h.get? I = some o) (hfp : ∀ b ∈ fp, b = I ∨ (∃ o, h₀.get? b = some o) ∨ ∃ o, ∀ i m nx, J i m nx → (b, o) ∈ nx)
    (hLf : env.locals ∉ fp) (hnI : ∀ p ∈ news, p.1 ≠ I) (hst : St 0 s.heap) (F : Fr h₀ env.locals s.heap m₀) (N : News h₀ env.locals s.heap news) (hj : J 0 m₀ news)
    (turn : ∀ i v m₁ news₁ h tk oI, i < n → P i v → J i m₁ news₁ → (∀ p ∈ news₁, p.1 ≠ I) → Fr h₀ env.locals h (fun y => if y = x then some v else m₁ y) → News h₀ env.locals h ((I, oI) :: news₁) →
      wpAny (model prog w) A (execs body env) (TurnStep h₀ env.locals I oI (J (i + 1)) { s with heap := h, toks := tk } Q) E { s with heap := h, toks := tk })
    (done : ∀ m₁ news₁ h tk, J n m₁ news₁ → Fr h₀ env.locals h m₁ → News h₀ env.locals h news₁ → Q .next { s with heap := h, toks := tk }) :
    LoopAtV prog w A h₀ env x body Q E (.ref I) s := by
  refine (iE9 I fp [I] n P St m₀ news J (iA11 rfl W hLf ?_ ?_ hst F N hj ?_ ?_))
  · intro b hb; rw [List.mem_singleton.mp hb]; exact hI0
  · intro p hp hq; exact hnI p hp (List.mem_singleton.mp hq)
  · rintro i v m₁ news₁ s₁ own ⟨hh', tk', rfl⟩ hin hP hJ hoff hown hget hall hst₁ F₁ N₁
    obtain ⟨oI, hoI⟩ := hob _ _ hst₁
    have hIo : (I, oI) ∈ own := hall I hI hI0 oI hoI
    have N₂ : News h₀ env.locals hh' ((I, oI) :: news₁) := fun p hp => by
      rcases List.mem_cons.mp hp with rfl | hp
      · exact N₁ _ (List.mem_append_left _ hIo)
      · exact N₁ _ (List.mem_append_right _ hp)
    refine wpAny_mono (turn i v m₁ news₁ hh' tk' oI hin hP hJ (fun p hp e => hoff p hp (List.mem_singleton.mpr e)) F₁ N₂) (fun f s₂ p => ?_) fun _ _ e => e
    have fin : Turn h₀ env.locals I oI (J (i + 1)) { s with heap := hh', toks := tk' } s₂ → LoopStepU h₀ env.locals [I] own (J (i + 1)) { s with heap := hh', toks := tk' } .next s₂ := by
      rintro ⟨h', tk, m', news', nx, e, F', N', h1, h2, h3, hm⟩
      refine ⟨rfl, h', tk, m', nx, e, F', fun p hp => ?_, fun p hp hq => h3 p hp (List.mem_singleton.mp hq), hm⟩
      rcases List.mem_append.mp hp with hp | hp
      · have hg := hget p hp
        rcases hfp p.1 (hown p hp) with e1 | ⟨o, e1⟩ | ⟨o, e1⟩
        · have hg' : hh'.get? p.1 = some p.2 := hg
          rw [e1, hoI] at hg'
          have : p = (I, oI) := Prod.ext e1 (Option.some.inj hg').symm
          rw [this]; exact N' _ h1
        · have := (N₁ p (List.mem_append_left _ hp)).2.2
          rw [e1] at this; cases this
        · have hq := (N₁ _ (List.mem_append_right _ (e1 _ _ _ hJ))).1
          have hg' : hh'.get? p.1 = some p.2 := hg
          have hq' : hh'.get? p.1 = some o := hq
          rw [hq'] at hg'
          have : p = (p.1, o) := Prod.ext rfl (Option.some.inj hg').symm
          rw [this]; exact N' _ (h2 _ (e1 _ _ _ hm))
      · exact N' _ (h2 p hp)
    cases f with
    | ret v => exact .ret p
    | brk => exact .brk p
    | next => exact .next (fin p)
    | cont => exact .cont (fin p)
  · rintro h' tk m' news' F' N' _ hJ
    exact done m' news' h' tk hJ F' N'
theorem iter_bytes_my {b : Array UInt8} {ks : List Int} {tb : Tok} {m₀ : Str → Option Value} {news : List (Addr × Obj)} (J : Nat → (Str → Option Value) → List (Addr × Obj) → Prop)
    (hb : KBw.bInts b = ks) (hh : A.handled = none) (F : Fr h₀ env.locals s.heap m₀) (N : News h₀ env.locals s.heap news) (hj : J 0 m₀ news)
    (turn : ∀ i n t m₁ news₁ h tk I oI, ks[i]? = some n → J i m₁ news₁ → (∀ p ∈ news₁, p.1 ≠ I) → Fr h₀ env.locals h (fun y => if y = x then some (.int n t) else m₁ y) → News h₀ env.locals h ((I, oI) :: news₁) →
      wpAny (model prog w) A (execs body env) (TurnStep h₀ env.locals I oI (J (i + 1)) { s with heap := h, toks := tk } Q) E { s with heap := h, toks := tk })
    (done : ∀ m₁ news₁ h tk, J ks.length m₁ news₁ → Fr h₀ env.locals h m₁ → News h₀ env.locals h news₁ → Q .next { s with heap := h, toks := tk }) :
    wpAny (model prog w) A (pyIter (.bytes b tb)) (fun it s₂ => LoopAtV prog w A h₀ env x body Q E it s₂) E s := by
  subst hb
  refine KBw.pyIter_bytes ?_
  have W := KBw.walks (prog := prog) (w := w) hh s.heap.objs.size b tb
  refine loop_my J W (.head _) (next_is_new F) (fun i h ⟨o, ho, _⟩ => ⟨o, ho⟩) (fun b hb => .inl (List.mem_singleton.mp hb)) (fun hm => absurd F.ns.lt ((List.mem_singleton.mp hm) ▸ Nat.lt_irrefl _))
    (fun p hp => Nat.ne_of_lt (Heap.lt_size (N p hp).1)) ⟨_, Heap.get?_push_size _ rfl, rfl, rfl⟩ (F.push _) (fun p hp => ⟨Heap.get?_push_of_some _ (N p hp).1, (N p hp).2⟩) hj ?_ ?_
  · rintro i v m₁ news₁ h tk oI hi ⟨c, u, hc, rfl⟩ hJ hne F₁ N₁
    exact turn i _ u m₁ news₁ h tk _ oI (KBw.ints_get hc) hJ hne F₁ N₁
  · intro m₁ news₁ h tk hJ F₁ N₁
    rw [← KBw.ints_length] at hJ
    exact done m₁ news₁ h tk hJ F₁ N₁
theorem iter_range_my {r : Addr} {a₀ b₀ : Int} {t₀ u₀ v₀ : Tok} {n : Nat} {m₀ : Str → Option Value} {news : List (Addr × Obj)} (J : Nat → (Str → Option Value) → List (Addr × Obj) → Prop)
    (hh : A.handled = none) (hr : IsRange s.heap r a₀ b₀ 1 t₀ u₀ v₀) (hsmall : Builtin.Range.small a₀ b₀ 1 = true) (hn : Builtin.Range.rangeSize a₀ b₀ 1 = (n : Int)) (F : Fr h₀ env.locals s.heap m₀) (N : News h₀ env.locals s.heap news) (hj : J 0 m₀ news)
    (turn : ∀ i t m₁ news₁ h tk I oI, i < n → J i m₁ news₁ → (∀ p ∈ news₁, p.1 ≠ I) → Fr h₀ env.locals h (fun y => if y = x then some (.int (a₀ + (i : Int)) t) else m₁ y) → News h₀ env.locals h ((I, oI) :: news₁) →
      wpAny (model prog w) A (execs body env) (TurnStep h₀ env.locals I oI (J (i + 1)) { s with heap := h, toks := tk } Q) E { s with heap := h, toks := tk })
    (done : ∀ m₁ news₁ h tk, J n m₁ news₁ → Fr h₀ env.locals h m₁ → News h₀ env.locals h news₁ → Q .next { s with heap := h, toks := tk }) :
    wpAny (model prog w) A (pyIter (.ref r)) (fun it s₂ => LoopAtV prog w A h₀ env x body Q E it s₂) E s := by
  refine wpAny_pyIter_range hr hsmall ?_
  have W : Walks prog w A s.heap.objs.size [s.heap.objs.size] [s.heap.objs.size] n (fun i v => i < n ∧ ∃ t, v = .int (a₀ + i * 1) t)
      (fun i h => IsRangeIter h s.heap.objs.size (a₀ + (i : Nat) * 1) ((n : Int) - (i : Nat)) 1) := (Walks.range hh _ a₀ 1 n).bound
  refine loop_my J W (.head _) (next_is_new F) (fun i h ho => ⟨_, ho⟩) (fun b hb => .inl (List.mem_singleton.mp hb)) (fun hm => absurd F.ns.lt ((List.mem_singleton.mp hm) ▸ Nat.lt_irrefl _))
    (fun p hp => Nat.ne_of_lt (Heap.lt_size (N p hp).1)) (by show IsRangeIter _ _ _ _ _; rw [hn]; simpa using Heap.get?_push_size _ rfl) (F.push _) (fun p hp => ⟨Heap.get?_push_of_some _ (N p hp).1, (N p hp).2⟩) hj ?_ ?_
  · rintro i v m₁ news₁ h tk oI hi ⟨_, t, rfl⟩ hJ hne F₁ N₁
    rw [Int.mul_one] at F₁
    exact turn i t m₁ news₁ h tk _ oI hi hJ hne F₁ N₁
  · exact done
theorem iter_list_my {l : Addr} {vs : List Value} {k : Nat} {m₀ : Str → Option Value} {news : List (Addr × Obj)} (J : Nat → (Str → Option Value) → List (Addr × Obj) → Prop)
    (hh : A.handled = none) (hl : ∀ i m nx, J i m nx → (l, listOf vs.toArray k) ∈ nx) (F : Fr h₀ env.locals s.heap m₀) (N : News h₀ env.locals s.heap news) (hj : J 0 m₀ news)
    (turn : ∀ i v m₁ news₁ h tk I oI, vs[i]? = some v → J i m₁ news₁ → (∀ p ∈ news₁, p.1 ≠ I) → Fr h₀ env.locals h (fun y => if y = x then some v else m₁ y) → News h₀ env.locals h ((I, oI) :: news₁) →
      wpAny (model prog w) A (execs body env) (TurnStep h₀ env.locals I oI (J (i + 1)) { s with heap := h, toks := tk } Q) E { s with heap := h, toks := tk })
    (done : ∀ m₁ news₁ h tk, J vs.length m₁ news₁ → Fr h₀ env.locals h m₁ → News h₀ env.locals h news₁ → Q .next { s with heap := h, toks := tk }) :
    wpAny (model prog w) A (pyIter (.ref l)) (fun it s₂ => LoopAtV prog w A h₀ env x body Q E it s₂) E s := by
  have hN := N _ (hl _ _ _ hj)
  have hls : s.heap.IsList l vs.toArray := ⟨_, hN.1, rfl, k, rfl⟩
  have hne : l ≠ s.heap.objs.size := Nat.ne_of_lt (Heap.lt_size hN.1)
  refine wpAny_pyIter_list hls ?_
  have W := Walks.list (prog := prog) (w := w) hh s.heap.objs.size l hne vs.toArray
  rw [List.size_toArray] at W
  refine loop_my J W (.head _) (next_is_new F) (fun i h ho => let ⟨⟨o, ho, _⟩, _⟩ := ho; ⟨o, ho⟩) (fun b hb => ?_) (fun hm => ?_)
    (fun p hp => Nat.ne_of_lt (Heap.lt_size (N p hp).1)) ⟨⟨_, Heap.get?_push_size _ rfl, rfl, rfl⟩, hls.at fun o e => Heap.get?_push_of_some _ e⟩ (F.push _) (fun p hp => ⟨Heap.get?_push_of_some _ (N p hp).1, (N p hp).2⟩) hj ?_ ?_
  · rcases List.mem_cons.mp hb with e | hb
    · exact .inl e
    · rw [List.mem_singleton.mp hb]; exact .inr (.inr ⟨_, hl⟩)
  · rcases List.mem_cons.mp hm with e | hm
    · exact absurd F.ns.lt (e ▸ Nat.lt_irrefl _)
    · exact hN.2.1 (List.mem_singleton.mp hm).symm
  · rintro i v m₁ news₁ h tk oI hi hv hJ hne F₁ N₁
    exact turn i v m₁ news₁ h tk _ oI (by simpa using hv) hJ hne F₁ N₁
  · exact done
end
theorem Rm.handledD {w : World} {A : Around} {base : Heap} {l : List Env} {h : Heap} {n : Nat} {env : Env} (M : Rm w A base l h n) : (A.deeper env).handled = none := M.handled
theorem Fr.put {h₀ h : Heap} {L : Addr} {m : Str → Option Value} (F : Fr h₀ L h m) (x : Str) {u : Option Value} (e : m x = u) : Fr h₀ L h (fun y => if y = x then u else m y) := by
  have : m = fun y => if y = x then u else m y := by
    funext y; by_cases h : y = x
    · rw [if_pos h, h, e]
    · rw [if_neg h]
  rw [← this]; exact F
section
theorem ln_28 : True := by
  k_with "ite" => ((k_here; k_openite; k_spoken; first
      | (refine ite_neg (by ((try simp only [decide_eq_true_eq, beq_iff_eq, bne_iff_ne, ne_eq, Bool.not_eq_true]); omega)) ?_; walk_say "PRUNED by omega")
      | (refine ite_pos (by ((try simp only [decide_eq_true_eq, beq_iff_eq, bne_iff_ne, ne_eq, Bool.not_eq_true]); omega)) ?_; walk_say "PRUNED by omega")))
  k_with "assign Tuple" => ((k_here; (with_reducible show wpAny _ _ (assign (Expr.Tuple _ _ _) _ (Value.ref _)) _ _ _); k_dflt (refine' unpackN_ ?q29zF ?q29zN ?q29zT ?q29zk1 ?q29zk2 ?q29zk3 ?_; (case q29zF => k_asm); (case q29zN => k_asm); (case q29zT => first | with_reducible assumption | (refine News.isTup (by k_asm) (by k_mem)) | exact Fr.tup (by k_asm) (by assumption)); (case q29zk1 => exact Rm.handledD (by assumption)); (case q29zk2 => exact rfl); (case q29zk3 => exact rfl)); intro _ _ _; (try k_sweep)))
  k_with "TurnStep" => ((dsimp only [TurnStep]))
  trivial
end
theorem rs_C5 : True := by
  w_top off
  trivial
section
variable {prog : Program} {w : World}
variable {c d : Addr} {k1 k2 k3 : Tok} {b : Array UInt8} {ks r : List Int} {tb ti te : Tok} {i : Int} {e : Nat}
theorem instne {base : Heap} {l : List Env} {h : Heap} {C x dx : Addr} {es : List DictEntry} {k : Nat} {r : List (Addr × Obj)} (O : Own base l h ((x, instObj C dx) :: (dx, dictOf es k) :: r)) : x ≠ dx :=
  O.ne (List.Mem.head _) (List.Mem.tail _ (List.Mem.head _)) (by simp)
theorem min_le {A : Around} {base : Heap} {l : List Env} {h₀ : Heap} {n : Nat} {env : Env} {E : Value → Shared → Prop} {g : Heap} {L : Addr} {m : Str → Option Value} {s : Shared} {news : List (Addr × Obj)} {a b : Int} {t u : Tok} {Q : Value → Shared → Prop} (M : Rm w A base l h₀ n) (F : Fr g L s.heap m) (N : News g L s.heap news) (hle : a ≤ b)
    (h : ∀ h' tk, Fr g L h' m → News g L h' news → Q (.int a t) { s with heap := h', toks := tk }) :
    wpAny (model prog w) (A.deeper env) (call (.builtin "min") [.int a t, .int b u]) Q E s := by
  refine min_two_N M.handled F N fun h' tk F' N' => ?_
  rw [if_neg (by omega), if_neg (by omega)]
  exact h h' tk F' N'
theorem ln_31 : True := by
  k_with "call builtin:min cons" => ((k_here; k_dflt (refine' min_le ?q31zM ?q31zF ?q31zN ?q31zh ?_; (case q31zM => assumption); (case q31zF => k_asm); (case q31zN => k_asm); (case q31zh => omega)); intro _ _ _ _; (try k_sweep)))
  trivial
theorem cursor_init_ct (n : Nat) (hk : KBw.bInts b = ks) (hz : ks.length ≤ 16777216) (he : e ≤ ks.length) (x dx : Addr) :
    Fun prog w 111 n [.ref x, .bytes b tb, .int i ti, .int e te] (fun _ => True) [(x, instObj 199 dx), (dx, dictOf [] 0)]
      (fun v news' _ => v = .none ∧ ∃ k1 k2 k3 te', news' = curN w.params x dx k1 k2 k3 b tb i ti e te') := by
  intro A base l s R M O _ ret
  have bd : Bd [("self", .ref x), ("data", .bytes b tb), ("at", .int i ti), ("end", .int e te)] := ⟨⟩
  have hne : x ≠ dx := instne O
  k_dflt walk_at "my enter"
  k_dflt walk_at "my steps"
  exact ⟨rfl, iE4 _ _ _ _ rfl⟩
theorem is_whole_none (n : Nat) :
    Fun prog w 626 n [.none] (fun _ => True) [] (fun v news' _ => news' = [] ∧ v = .bool false) := by
  intro A base l s R M O _ ret
  have bd : Bd [("value", .none)] := ⟨⟩
  k_dflt walk_at "my enter"
  k_dflt walk_at "my steps"
  exact ⟨rfl, rfl⟩
theorem slice0 (ks : List Int) : List.take (ks.length - clipAt ks.length 0) (List.drop (clipAt ks.length 0) ks) = ks := by
  rw [clipAt_in (by omega) (by omega)]; simp
theorem val_snoc (l : List Int) (x : Int) : val (l ++ [x]) = 10 * val l + x - 48 := by
  unfold val; rw [List.foldl_append]; simp only [List.foldl_cons, List.foldl_nil]; omega
theorem read_decimal_nil (n : Nat) (hk : KBw.bInts b = []) :
    Fun prog w 315 n [.bytes b tb] (fun _ => True) [] (fun v news' _ => news' = [] ∧ v = .none) := by
  intro A base l s R M O _ ret
  have bd : Bd [("octets", .bytes b tb)] := ⟨⟩
  k_dflt walk_at "my enter"
  k_dflt walk_at "my steps"
  rename Fr _ _ _ _ => F
  k_dflt (refine' For_invVF F ?k1 ?k2 ?_; (case k1 => exact rfl); (case k2 => exact rfl))
  k_dflt walk_at "my steps"
  rename Fr _ _ _ _ => F
  rename News _ _ _ _ => N
  refine iter_bytes_my (fun i m nx => nx = [] ∧ (∃ t, m "numerals" = some (.int 0 t))) (by assumption) M.handled F N ⟨rfl, _, rfl⟩ ?_ ?_
  · intro i n t m₁ news₁ h tk I oI hi
    simp at hi
  · rintro m₁ news₁ h tk ⟨rfl, t, e⟩ F₁ N₁
    clear F N
    have F₂ := Fr.put F₁ "numerals" e
    clear F₁
    (try k_fold)
    k_dflt walk_at "my steps"
    exact ⟨rfl, rfl⟩
theorem read_decimal_ct (n : Nat) (hk : KBw.bInts b = ks) (hf : ∀ x ∈ ks, isFig x = true) (h0 : ks ≠ []) (hl : ks.length ≤ 40) :
    Fun prog w 315 n [.bytes b tb] (fun _ => True) [] (fun v news' _ => news' = [] ∧ ∃ t, v = .int (val ks) t) := by
  intro A base l s R M O _ ret
  have bd : Bd [("octets", .bytes b tb)] := ⟨⟩
  have g0 : isFig (ks.getD (Int.toNat 0) 0) = true := by
    cases ks with
    | nil => exact absurd rfl h0
    | cons x r => exact hf x (.head _)
  have g1 : 48 ≤ ks.getD (Int.toNat 0) 0 := by simp only [isFig, Bool.and_eq_true, decide_eq_true_eq] at g0; exact g0.1
  have g2 : (0 : Int) < (ks.length : Int) := by have := List.length_pos_iff.mpr h0; omega
  k_dflt walk_at "my enter"
  k_dflt walk_at "my steps"
  rename Fr _ _ _ _ => F
  k_dflt (refine' For_invVF F ?k1 ?k2 ?_; (case k1 => exact rfl); (case k2 => exact rfl))
  k_dflt walk_at "my steps"
  rename Fr _ _ _ _ => F
  rename News _ _ _ _ => N
  rename KBw.bInts _ = _ => hb
  rw [slice0] at hb
  refine iter_bytes_my (fun i m nx => nx = [] ∧ ∃ t1 t2 t3, m "octets" = some (.bytes b tb) ∧ m "top" = some (.int (val (ks.take i)) t1) ∧ m "numerals" = some (.int (i : Int) t2) ∧ m "places" = some (.int (-1) t3)) hb M.handled F N ⟨rfl, iE3 _ _ _ (iA4 rfl rfl rfl rfl)⟩ ?_ ?_
  · intro i x t m₁ news₁ h tk I oI hi HJ
    refine a2 HJ ?_
    clear HJ
    rintro rfl HJ
    refine x3_4 HJ ?_
    clear HJ
    rintro t1 t2 t3 e1 e2 e3 e4
    intro hne F₁ N₁
    clear F N
    have F₂ := Fr.put (Fr.put (Fr.put F₁ "top" e2) "numerals" e3) "places" e4
    clear F₁
    have hx := hf x (List.mem_of_getElem? hi)
    simp only [isFig, Bool.and_eq_true, decide_eq_true_eq] at hx
    have hx1 : (48 : Int) ≤ x := hx.1
    have hx2 : x ≤ 57 := hx.2
    (try k_fold)
    k_dflt walk_at "my steps"
    rename Fr _ _ _ _ => F'
    rename News _ _ _ _ => N'
    have v1 : 10 * val (List.take i ks) + x - 48 = val (List.take (i + 1) ks) := by rw [List.take_add_one, hi]; exact (val_snoc _ _).symm
    have v2 : (i : Int) + 1 = ((i + 1 : Nat) : Int) := by omega
    exact Turn.intro (nx := []) F' N' (.head _) (fun p hp => nomatch hp) (fun p hp => nomatch hp) ⟨rfl, iE3 _ _ _ (iA4 e1 (congrArg (fun z => some (Value.int z _)) v1) (congrArg (fun z => some (Value.int z _)) v2) rfl)⟩
  · intro m₁ news₁ h tk HJ
    refine a2 HJ ?_
    clear HJ
    rintro rfl HJ
    refine x3_4 HJ ?_
    clear HJ
    rintro t1 t2 t3 e1 e2 e3 e4
    intro F₁ N₁
    clear F N
    have F₂ := Fr.put (Fr.put (Fr.put (Fr.put F₁ "top" e2) "numerals" e3) "places" e4) "octets" e1
    clear F₁
    rw [List.take_length] at F₂
    (try k_fold)
    k_dflt walk_at "my steps"
    exact ⟨rfl, _, rfl⟩
end
theorem rs_C6 : True := by
  w_top off
  trivial
section
variable {prog : Program} {w : World}
variable {c d : Addr} {k1 k2 k3 : Tok} {b : Array UInt8} {ks r : List Int} {tb ti te : Tok} {i : Int} {e : Nat}
theorem Fun.sub {f n : Nat} {vs : List Value} {P : Heap → Prop} {news : List (Addr × Obj)} {Q : Post} (C : Fun prog w f n vs P news (fun v nw h => ∃ nx, (∀ p ∈ nx, p ∈ nw) ∧ Q v nx h)) : Fun prog w f n vs P news Q :=
  fun A base l s R M O hP ret => C A base l s R M O hP ⟨fun v h' tk _ kp hs ⟨nx, hn, q⟩ => ret.go v h' tk nx kp (fun p hp => hs p (hn p hp)) q⟩
theorem FunE.sub {f n : Nat} {vs : List Value} {P : Heap → Prop} {news : List (Addr × Obj)} {Q : Post} {X : Prop} (C : FunE prog w f n vs P news (fun v nw h => ∃ nx, (∀ p ∈ nx, p ∈ nw) ∧ Q v nx h) X) : FunE prog w f n vs P news Q X :=
  fun A base l s R M O hP ret bad => C A base l s R M O hP ⟨fun v h' tk _ kp hs ⟨nx, hn, q⟩ => ret.go v h' tk nx kp (fun p hp => hs p (hn p hp)) q⟩ bad
theorem ln_32 : True := by
  k_with "my call" => (((with_reducible show wpAny _ _ (call (Value.ref 199) [Value.bytes _ _, Value.int _ _, Value.int _ _]) _ _ _); k_dflt (refine' useN4 (fun x dx => cursor_init_ct _ ?q32zhk ?q32zhz ?q32zhe x dx) ?q32zM ?q32zB ?q32zF ?q32zX ?q32zN ?q32zhm ?q32zhi ?q32zhf (fun _ _ => trivial) ?_ rfl rfl; (case q32zM => assumption); (case q32zB => assumption); (case q32zF => k_asm); (case q32zX => k_asm); (case q32zN => k_asm); (case q32zhm => k_is); (case q32zhi => k_is); (case q32zhf => k_is); (case q32zhk => assumption); (case q32zhz => assumption); (case q32zhe => first | assumption | exact Suf.le (by assumption))); walk_at "tinN"; intro _ _ _ _ _; walk_at "tout"; (try k_sweep)))
  k_with "my call" => (((with_reducible show wpAny _ _ (call (Value.ref 161) [Value.ref _]) _ _ _); k_dflt (refine' useT3 (take_regular_ct _ ?q33zhk ?q33zhz ?q33zhs) ?q33zM ?q33zB ?q33zF ?q33zN ?q33zhb ?q33zhp trivial ?_ rfl rfl; (case q33zM => assumption); (case q33zB => assumption); (case q33zF => k_asm); (case q33zN => k_asm); (case q33zhb => walk_at "my subs"); (case q33zhk => assumption); (case q33zhz => assumption); (case q33zhs => walk_at "my suf"); (case q33zhp => walk_at "my pick")); intro _ _ _ _ _ _ _ _; walk_at "tout"; (try k_sweep)))
  k_with "my call" => (((with_reducible show wpAny _ _ (call (Value.ref 315) [Value.bytes _ _]) _ _ _); k_dflt (refine' useA0 (read_decimal_nil _ ?q34zhk) ?q34zM ?q34zB ?q34zF ?q34zN (List.forall_mem_nil _) Pick.all trivial ?_ rfl rfl; (case q34zM => assumption); (case q34zB => assumption); (case q34zF => k_asm); (case q34zN => k_asm); (case q34zhk => simp only [*, List.takeWhile_nil])); intro _ _ _ _; walk_at "tout"; (try k_sweep)))
  k_with "my call" => (((with_reducible show wpAny _ _ (call (Value.ref 626) [Value.none]) _ _ _); k_dflt (refine' useA0 (is_whole_none _) ?q35zM ?q35zB ?q35zF ?q35zN (List.forall_mem_nil _) Pick.all trivial ?_ rfl rfl; (case q35zM => assumption); (case q35zB => assumption); (case q35zF => k_asm); (case q35zN => k_asm)); intro _ _ _ _; walk_at "tout"; (try k_sweep)))
  trivial
theorem take_reference_ct (n : Nat) (hk : KBw.bInts b = ks) (hz : ks.length ≤ 16777216) (hs : Suf ks e r) (hc : ∀ x ∈ r, x ≠ 37) (hw : r.dropWhile isW = []) (v : Int) (tv : Tok) :
    Fun prog w 633 (n + 3) [.ref c, .int v tv] (fun _ => True) (curN w.params c d k1 k2 k3 b tb ((e : Int) - r.length) ti e te)
      (fun v' news' _ => v' = .int v tv ∧ news' = curN w.params c d k1 k2 k3 b tb ((e : Int) - r.length) ti e te) := by
  refine Fun.sub ?_
  intro A base l s R M O _ ret
  have bd : Bd [("cursor", .ref c), ("number", .int v tv)] := ⟨⟩
  have hne : c ≠ d := instne O
  k_dflt walk_at "my enter"
  k_dflt walk_at "my steps"
  exact ⟨curN w.params c d k1 k2 k3 b tb ((e : Int) - r.length) ti e te, by walk_at "my subs", rfl, rfl⟩
noncomputable abbrev tupO (vs : List Value) : Obj := { cls := .type "tuple", data := .seq vs.toArray }
theorem ln_36 : True := by
  k_with "my call" => (((with_reducible show wpAny _ _ (call (Value.ref 315) [Value.bytes _ _]) _ _ _); k_dflt (refine' useA1 (read_decimal_ct _ ?q36zhk ?q36zhf ?q36zh0 ?q36zhl) ?q36zM ?q36zB ?q36zF ?q36zN (List.forall_mem_nil _) Pick.all trivial ?_ rfl rfl; (case q36zM => assumption); (case q36zB => assumption); (case q36zF => k_asm); (case q36zN => k_asm); (case q36zhk => assumption); (case q36zhf => assumption); (case q36zh0 => assumption); (case q36zhl => assumption)); intro _ _ _ _ _; walk_at "tout"; (try k_sweep)))
  trivial
theorem run_token_ct (n : Nat) (hk : KBw.bInts b = ks) (hz : ks.length ≤ 16777216) (hs : Suf ks e r) {ds : List Int} (hd : r.takeWhile isReg = ds) (hf : ∀ x ∈ ds, isFig x = true) (h0 : ds ≠ []) (hl : ds.length ≤ 40) (a : Int) (ta : Tok) :
    Fun prog w 570 (n + 3) [.ref c, .int a ta] (fun _ => True) (curN w.params c d k1 k2 k3 b tb ((e : Int) - r.length) ti e te)
      (fun v' news' _ => ∃ t k t1 t', v' = .ref t ∧ news' = (t, tupO [.str "int" k, .int (val ds) t1, .int a ta]) :: curN w.params c d k1 k2 k3 b tb ((e : Int) - (r.dropWhile isReg).length) t' e te ∧ t ≠ c ∧ t ≠ d) := by
  intro A base l s R M O _ ret
  have bd : Bd [("cursor", .ref c), ("at", .int a ta)] := ⟨⟩
  have hne : c ≠ d := instne O
  subst hd
  k_dflt walk_at "my enter"
  k_dflt walk_at "my steps"
  exact (iE4 _ _ _ _ (iA4 rfl rfl (by k_ne) (by k_ne)))
theorem ln_37 : True := by
  k_with "my call" => (((with_reducible show wpAny _ _ (call (Value.ref 633) [Value.ref _, Value.int _ _]) _ _ _); k_dflt (refine' useR0 (take_reference_ct _ ?q37zhk ?q37zhz ?q37zhs ?q37zhc ?q37zhw _ _) ?q37zM ?q37zB ?q37zF ?q37zN ?q37zhb ?q37zhp trivial ?_ rfl rfl; (case q37zM => assumption); (case q37zB => assumption); (case q37zF => k_asm); (case q37zN => k_asm); (case q37zhb => walk_at "my subs"); (case q37zhk => assumption); (case q37zhz => assumption); (case q37zhs => walk_at "my suf"); (case q37zhc => walk_at "my noc"); (case q37zhw => assumption); (case q37zhp => walk_at "my pick")); intro _ _ _ _; walk_at "tout"; (try k_sweep)))
  trivial
theorem plain_value_ct (n : Nat) (hk : KBw.bInts b = ks) (hz : ks.length ≤ 16777216) (hs : Suf ks e r) (hc : ∀ x ∈ r, x ≠ 37) (hw : r.dropWhile isW = []) {v : Int} (hv : 0 ≤ v) (tv : Tok) {t : Addr} {k : Tok} {a : Int} {ta : Tok} (htc : t ≠ c) (htd : t ≠ d) :
    Fun prog w 647 (n + 4) [.ref c, .ref t, .bool true] (fun _ => True) ((t, tupO [.str "int" k, .int v tv, .int a ta]) :: curN w.params c d k1 k2 k3 b tb ((e : Int) - r.length) ti e te)
      (fun v' news' _ => v' = .int v tv ∧ news' = curN w.params c d k1 k2 k3 b tb ((e : Int) - r.length) ti e te) := by
  refine Fun.sub ?_
  intro A base l s R M O _ ret
  have bd : Bd [("cursor", .ref c), ("token", .ref t), ("lets_references", .bool true)] := ⟨⟩
  have hne : c ≠ d := instne fun p hp => O p (.tail _ hp)
  k_dflt walk_at "my enter"
  k_dflt walk_at "my steps"
  exact ⟨curN w.params c d k1 k2 k3 b tb ((e : Int) - r.length) ti e te, by walk_at "my subs", rfl, rfl⟩
theorem ln_38 : True := by
  k_with "my call" => (((with_reducible show wpAny _ _ (call (Value.ref 570) [Value.ref _, Value.int _ _]) _ _ _); k_dflt (refine' useU4 (run_token_ct _ ?q38zhk ?q38zhz ?q38zhs ?q38zhd ?q38zhf ?q38zh0 ?q38zhl _ _) ?q38zM ?q38zB ?q38zF ?q38zN ?q38zhb ?q38zhp trivial ?_ rfl rfl; (case q38zM => assumption); (case q38zB => assumption); (case q38zF => k_asm); (case q38zN => k_asm); (case q38zhb => walk_at "my subs"); (case q38zhk => assumption); (case q38zhz => assumption); (case q38zhs => walk_at "my suf"); (case q38zhd => assumption); (case q38zhf => assumption); (case q38zh0 => assumption); (case q38zhl => assumption); (case q38zhp => walk_at "my pick")); intro _ _ _ _ _ _ _ _ _ _; walk_at "tout"; (try k_sweep)))
  trivial
theorem next_token_ct (n : Nat) (hk : KBw.bInts b = ks) (hz : ks.length ≤ 16777216) (hs : Suf ks e r) (hc : ∀ x ∈ r, x ≠ 37) {ds : List Int} (hd : (r.dropWhile isW).takeWhile isReg = ds) (hf : ∀ x ∈ ds, isFig x = true) (h0 : ds ≠ []) (hl : ds.length ≤ 40) :
    Fun prog w 584 (n + 4) [.ref c] (fun _ => True) (curN w.params c d k1 k2 k3 b tb ((e : Int) - r.length) ti e te)
      (fun v' news' _ => ∃ t k t1 t' a ta, v' = .ref t ∧ news' = (t, tupO [.str "int" k, .int (val ds) t1, .int a ta]) :: curN w.params c d k1 k2 k3 b tb ((e : Int) - ((r.dropWhile isW).dropWhile isReg).length) t' e te ∧ t ≠ c ∧ t ≠ d) := by
  intro A base l s R M O _ ret
  have bd : Bd [("cursor", .ref c)] := ⟨⟩
  have hne : c ≠ d := instne O
  have hx : 48 ≤ (r.dropWhile isW).headD (-1) ∧ (r.dropWhile isW).headD (-1) ≤ 57 := by
    subst hd
    cases hr : r.dropWhile isW with
    | nil => rw [hr] at h0; exact absurd rfl h0
    | cons x r' =>
      rw [hr] at hf h0
      have hx : isReg x = true := by
        cases q : isReg x with
        | true => rfl
        | false => rw [List.takeWhile_cons_of_neg (by simp [q])] at h0; exact absurd rfl h0
      have := hf x (by rw [List.takeWhile_cons_of_pos hx]; exact .head _)
      simp only [isFig, Bool.and_eq_true, decide_eq_true_eq] at this
      exact this
  have hx1 := hx.1
  have hx2 := hx.2
  have hx3 : hits ((r.dropWhile isW).headD (-1)) [91, 93, 123, 125] = false := by
    simp only [hits, List.any_cons, List.any_nil, Bool.or_false, Bool.or_eq_false_iff, beq_eq_false_iff_ne]
    refine ⟨?_, ?_, ?_, ?_⟩ <;> omega
  k_dflt walk_at "my enter"
  k_dflt walk_at "my steps"
  exact (iE6 _ _ _ _ _ _ (iA4 rfl rfl (by assumption) (by assumption)))
end
theorem rs_C7 : True := by
  w_top off
  trivial
section
variable {prog : Program} {w : World}
variable {c d : Addr} {k1 k2 k3 : Tok} {b : Array UInt8} {ks r : List Int} {tb ti te : Tok} {i : Int} {e : Nat}
theorem ln_39 : True := by
  k_with "my call" => (((with_reducible show wpAny _ _ (call (Value.ref 647) [Value.ref _, Value.ref _, Value.bool true]) _ _ _); k_dflt (refine' useR0 (plain_value_ct _ ?q39zhk ?q39zhz ?q39zhs ?q39zhc ?q39zhw ?q39zhv _ ?q39zh1 ?q39zh2) ?q39zM ?q39zB ?q39zF ?q39zN ?q39zhb ?q39zhp trivial ?_ rfl rfl; (case q39zM => assumption); (case q39zB => assumption); (case q39zF => k_asm); (case q39zN => k_asm); (case q39zhb => walk_at "my subs"); (case q39zhk => assumption); (case q39zhz => assumption); (case q39zhs => walk_at "my suf"); (case q39zhc => walk_at "my noc"); (case q39zhw => assumption); (case q39zhv => assumption); (case q39zh1 => assumption); (case q39zh2 => assumption); (case q39zhp => walk_at "my pick")); intro _ _ _ _; walk_at "tout"; (try k_sweep)))
  trivial
section
variable {A : Around} {E : Value → Shared → Prop} {base : Heap} {l : List Env} {h₀ g : Heap} {n : Nat} {env : Env} {L x y : Addr} {led : List (Addr × Obj)} {s : Shared} {Q : Value → Shared → Prop}
theorem reads_nil {h : Heap} {k : Nat} (hx : h.get? x = some (listOf #[] k)) : Reads h (.ref x) (.list []) [x] := Reads.list hx rfl rfl (by simpa using ReadsAll.nil)
theorem eq_nil (M : Rm w A base l h₀ (n + 4)) (N : News g L s.heap led) {j k : Nat} (hx : (x, listOf #[] j) ∈ led) (hy : (y, listOf #[] k) ∈ led) (h : Q (.bool true) s) :
    wpAny (model prog w) (A.deeper env) (compareOp .Eq (.ref x) (.ref y)) Q E s :=
  eq_dataH_same (reads_nil (N _ hx).1) (reads_nil (N _ hy).1) (by decide +kernel) (by decide +kernel) (by have := M.units; show A.units + 3 + 64 < _; omega) (by decide +kernel) h
theorem ne_nil (M : Rm w A base l h₀ (n + 4)) (N : News g L s.heap led) {j k : Nat} (hx : (x, listOf #[] j) ∈ led) (hy : (y, listOf #[] k) ∈ led) (h : Q (.bool false) s) :
    wpAny (model prog w) (A.deeper env) (compareOp .NotEq (.ref x) (.ref y)) Q E s :=
  ne_dataH_same (reads_nil (N _ hx).1) (reads_nil (N _ hy).1) (by decide +kernel) (by decide +kernel) (by have := M.units; show A.units + 3 + 64 < _; omega) (by decide +kernel) h
end
theorem ln_40 : True := by
  k_with "compareOp Eq ref ref" => ((k_here; k_dflt (refine' eq_nil ?q40zM ?q40zN ?q40za ?q40zb ?_; (case q40zM => assumption); (case q40zN => k_asm); (case q40za => k_mem); (case q40zb => k_mem))))
  k_with "compareOp NotEq ref ref" => ((k_here; k_dflt (refine' ne_nil ?q41zM ?q41zN ?q41za ?q41zb ?_; (case q41zM => assumption); (case q41zN => k_asm); (case q41za => k_mem); (case q41zb => k_mem))))
  trivial
theorem object_from_ct (n : Nat) (hk : KBw.bInts b = ks) (hz : ks.length ≤ 16777216) (hs : Suf ks e r) (hc : ∀ x ∈ r, x ≠ 37) (hw : r.dropWhile isW = []) {v : Int} (hv : 0 ≤ v) (tv : Tok) {t : Addr} {k : Tok} {a : Int} {ta : Tok} (htc : t ≠ c) (htd : t ≠ d) :
    Fun prog w 667 (n + 5) [.ref c, .ref t] (fun _ => True) ((t, tupO [.str "int" k, .int v tv, .int a ta]) :: curN w.params c d k1 k2 k3 b tb ((e : Int) - r.length) ti e te)
      (fun v' news' _ => v' = .int v tv ∧ news' = curN w.params c d k1 k2 k3 b tb ((e : Int) - r.length) ti e te) := by
  refine Fun.sub ?_
  intro A base l s R M O _ ret
  have bd : Bd [("cursor", .ref c), ("token", .ref t), ("lets_references", .bool true)] := ⟨⟩
  have hne : c ≠ d := instne fun p hp => O p (.tail _ hp)
  k_dflt walk_at "my enter"
  k_dflt walk_at "my steps"
  rename Fr _ _ _ _ => F
  rename News _ _ _ _ => N
  refine While_inv2 (fun _ m₁ news₁ => m₁ = _ ∧ news₁ = _) (n₀ := 0) F N ⟨rfl, rfl⟩ ?_
  rintro n' m₁ news₁ h₁ tk₁ F₁ N₁ ⟨rfl, rfl⟩
  clear F N
  (try k_fold)
  k_dflt walk_at "my steps"
  exact ⟨curN w.params c d k1 k2 k3 b tb ((e : Int) - r.length) ti e te, by walk_at "my subs", rfl, rfl⟩
theorem ln_42 : True := by
  k_with "my call" => (((with_reducible show wpAny _ _ (call (Value.ref 584) [Value.ref _]) _ _ _); k_dflt (refine' useU6 (next_token_ct _ ?q42zhk ?q42zhz ?q42zhs ?q42zhc ?q42zhd ?q42zhf ?q42zh0 ?q42zhl) ?q42zM ?q42zB ?q42zF ?q42zN ?q42zhb ?q42zhp trivial ?_ rfl rfl; (case q42zM => assumption); (case q42zB => assumption); (case q42zF => k_asm); (case q42zN => k_asm); (case q42zhb => walk_at "my subs"); (case q42zhk => assumption); (case q42zhz => assumption); (case q42zhs => walk_at "my suf"); (case q42zhc => walk_at "my noc"); (case q42zhd => assumption); (case q42zhf => assumption); (case q42zh0 => assumption); (case q42zhl => assumption); (case q42zhp => walk_at "my pick")); intro _ _ _ _ _ _ _ _ _ _ _ _; walk_at "tout"; (try k_sweep)))
  k_with "my call" => (((with_reducible show wpAny _ _ (call (Value.ref 667) [Value.ref _, Value.ref _]) _ _ _); k_dflt (refine' useR0 (object_from_ct _ ?q43zhk ?q43zhz ?q43zhs ?q43zhc ?q43zhw ?q43zhv _ ?q43zh1 ?q43zh2) ?q43zM ?q43zB ?q43zF ?q43zN ?q43zhb ?q43zhp trivial ?_ rfl rfl; (case q43zM => assumption); (case q43zB => assumption); (case q43zF => k_asm); (case q43zN => k_asm); (case q43zhb => walk_at "my subs"); (case q43zhk => assumption); (case q43zhz => assumption); (case q43zhs => walk_at "my suf"); (case q43zhc => walk_at "my noc"); (case q43zhw => assumption); (case q43zhv => assumption); (case q43zh1 => assumption); (case q43zh2 => assumption); (case q43zhp => walk_at "my pick")); intro _ _ _ _; walk_at "tout"; (try k_sweep)))
  trivial
theorem read_object_ct (n : Nat) (hk : KBw.bInts b = ks) (hz : ks.length ≤ 16777216) (hs : Suf ks e r) (hc : ∀ x ∈ r, x ≠ 37) {ds : List Int} (hd : (r.dropWhile isW).takeWhile isReg = ds) (hf : ∀ x ∈ ds, isFig x = true) (h0 : ds ≠ []) (hl : ds.length ≤ 40)
    (hw : ((r.dropWhile isW).dropWhile isReg).dropWhile isW = []) (hv : 0 ≤ val ds) :
    Fun prog w 674 (n + 6) [.ref c] (fun _ => True) (curN w.params c d k1 k2 k3 b tb ((e : Int) - r.length) ti e te)
      (fun v' news' _ => ∃ t1 t', v' = .int (val ds) t1 ∧ news' = curN w.params c d k1 k2 k3 b tb ((e : Int) - ((r.dropWhile isW).dropWhile isReg).length) t' e te) := by
  intro A base l s R M O _ ret
  have bd : Bd [("cursor", .ref c)] := ⟨⟩
  have hne : c ≠ d := instne O
  k_dflt walk_at "my enter"
  k_dflt walk_at "my steps"
  exact ⟨_, _, rfl, rfl⟩
theorem kind_of_int (n : Nat) (v : Int) (tv : Tok) :
    Fun prog w 414 n [.int v tv] (fun _ => True) [] (fun v' news' _ => news' = [] ∧ ∃ t, v' = .str "int" t) := by
  intro A base l s R M O _ ret
  have bd : Bd [("value", .int v tv)] := ⟨⟩
  k_dflt walk_at "my enter"
  k_dflt walk_at "my steps"
  exact ⟨rfl, _, rfl⟩
end
theorem rs_C8 : True := by
  w_top off
  trivial
section
variable {prog : Program} {w : World}
variable {c d : Addr} {k1 k2 k3 : Tok} {b : Array UInt8} {ks r : List Int} {tb ti te : Tok} {i : Int} {e : Nat}
theorem ln_44 : True := by
  k_with "my call" => (((with_reducible show wpAny _ _ (call (Value.ref 414) [Value.int _ _]) _ _ _); k_dflt (refine' useA1 (kind_of_int _ _ _) ?q44zM ?q44zB ?q44zF ?q44zN (List.forall_mem_nil _) Pick.all trivial ?_ rfl rfl; (case q44zM => assumption); (case q44zB => assumption); (case q44zF => k_asm); (case q44zN => k_asm)); intro _ _ _ _ _; walk_at "tout"; (try k_sweep)))
  k_with "my call" => (((with_reducible show wpAny _ _ (call (Value.ref 674) [Value.ref _]) _ _ _); k_dflt (refine' useD2 (read_object_ct _ ?q45zhk ?q45zhz ?q45zhs ?q45zhc ?q45zhd ?q45zhf ?q45zh0 ?q45zhl ?q45zhw ?q45zhv) ?q45zM ?q45zB ?q45zF ?q45zN ?q45zhb ?q45zhp trivial ?_ rfl rfl; (case q45zM => assumption); (case q45zB => assumption); (case q45zF => k_asm); (case q45zN => k_asm); (case q45zhb => walk_at "my subs"); (case q45zhk => assumption); (case q45zhz => assumption); (case q45zhs => walk_at "my suf"); (case q45zhc => walk_at "my noc"); (case q45zhd => assumption); (case q45zhf => assumption); (case q45zh0 => assumption); (case q45zhl => assumption); (case q45zhw => assumption); (case q45zhv => assumption); (case q45zhp => walk_at "my pick")); intro _ _ _ _ _ _; walk_at "tout"; (try k_sweep)))
  k_with "my call" => (((with_reducible show wpAny _ _ (call (Value.ref 118) [Value.ref _]) _ _ _); k_dflt (refine' useA0 (is_done_ct _) ?q46zM ?q46zB ?q46zF ?q46zN ?q46zhb ?q46zhp trivial ?_ rfl rfl; (case q46zM => assumption); (case q46zB => assumption); (case q46zF => k_asm); (case q46zN => k_asm); (case q46zhb => walk_at "my subs"); (case q46zhp => walk_at "my pick")); intro _ _ _ _; walk_at "tout"; (try k_sweep)))
  trivial
theorem read_part_ct (n : Nat) (hk : KBw.bInts b = ks) (hz : ks.length ≤ 16777216) (hs : Suf ks e r) (hr : r ≠ []) (hc : ∀ x ∈ r, x ≠ 37) {ds : List Int} (hd : (r.dropWhile isW).takeWhile isReg = ds) (hf : ∀ x ∈ ds, isFig x = true) (h0 : ds ≠ []) (hl : ds.length ≤ 40)
    (hw : ((r.dropWhile isW).dropWhile isReg).dropWhile isW = []) (hv : 0 ≤ val ds) :
    Fun prog w 709 (n + 7) [.bytes b tb, .int ((e : Int) - r.length) ti, .int e te] (fun _ => True) [] (fun v' news' _ => news' = [] ∧ ∃ t1, v' = .int (val ds) t1) := by
  refine Fun.sub ?_
  intro A base l s R M O _ ret
  have bd : Bd [("data", .bytes b tb), ("begin", .int ((e : Int) - r.length) ti), ("end", .int e te)] := ⟨⟩
  have hlr : 0 < r.length := List.length_pos_iff.mpr hr
  have hle := hs.le
  have hw' : (((r.dropWhile isW).dropWhile isReg).dropWhile isW).length = 0 := by rw [hw]; rfl
  k_dflt walk_at "my enter"
  k_dflt walk_at "my steps"
  exact ⟨[], List.forall_mem_nil _, rfl, _, rfl⟩
end
theorem rs_C9 : True := by
  w_top off
  trivial
structure Part (ks : List Int) (bg en v : Int) : Prop where
  ex : ∃ (e : Nat) (r ds : List Int), en = (e : Int) ∧ bg = (e : Int) - r.length ∧ Suf ks e r ∧ r ≠ [] ∧ (∀ x ∈ r, x ≠ 37) ∧ (r.dropWhile isW).takeWhile isReg = ds ∧ (∀ x ∈ ds, isFig x = true) ∧ ds ≠ [] ∧ ds.length ≤ 40 ∧
    ((r.dropWhile isW).dropWhile isReg).dropWhile isW = [] ∧ 0 ≤ val ds ∧ val ds = v
structure PR where
  a : Addr
  n : Int
  o : Int
  tn : Tok
  to : Tok
noncomputable abbrev pRefs (ps : List PR) : List Value := ps.map fun p => Value.ref p.a
noncomputable abbrev pItems (p : PR) : List Value := [.int p.n p.tn, .int p.o p.to]
noncomputable abbrev opD (P : Params) (k1 k2 k3 : Tok) (b : Array UInt8) (tb : Tok) (f : Int) (tf : Tok) (l : Addr) : Obj :=
  dictOf [⟨PyData.keyHash P "data", .str "data" k1, .bytes b tb⟩, ⟨PyData.keyHash P "first", .str "first" k2, .int f tf⟩, ⟨PyData.keyHash P "pairs", .str "pairs" k3, .ref l⟩] 3
structure OpAt (P : Params) (h : Heap) (x dx l : Addr) (k1 k2 k3 : Tok) (b : Array UInt8) (tb : Tok) (f : Int) (tf : Tok) (ps : List PR) : Prop where
  hx : h.get? x = some (instObj 738 dx)
  hd : h.get? dx = some (opD P k1 k2 k3 b tb f tf l)
  hl : h.IsList l (pRefs ps).toArray
  ht : ∀ p ∈ ps, IsTup h p.a (pItems p).toArray
theorem OpAt.keeps {P : Params} {h h' : Heap} {x dx l : Addr} {k1 k2 k3 : Tok} {b : Array UInt8} {tb : Tok} {f : Int} {tf : Tok} {ps : List PR} (O : OpAt P h x dx l k1 k2 k3 b tb f tf ps) (k : ∀ b o, h.get? b = some o → h'.get? b = some o) : OpAt P h' x dx l k1 k2 k3 b tb f tf ps :=
  ⟨k _ _ O.hx, k _ _ O.hd, O.hl.at fun _ e => k _ _ e, fun p hp => (O.ht p hp).keeps k⟩
theorem Kg.keeps {h g : Heap} (kg : Kg [] h g) : ∀ b o, h.get? b = some o → g.get? b = some o := fun b o e => kg.to b o (by simp) e
theorem inst_ro {g h : Heap} {L x C dx : Addr} {m : Str → Option Value} {od : Obj} {sl : Array (Option Value)} (F : Fr g L h m) (h1 : g.get? x = some (⟨.ref C, some dx, .plain, sl⟩ : Obj)) (h2 : g.get? dx = some od) :
    InstAt h x ⟨.ref C, some dx, .plain, sl⟩ C (some od) := ⟨F.keep _ _ h1, rfl, rfl, F.keep _ _ h2⟩
theorem ln_47 : True := by
  k_with "my inst" => ((refine' inst_ro ?q47zF ?q47zh1 ?q47zh2; (case q47zF => k_asm); (case q47zh1 => assumption); (case q47zh2 => assumption)))
  trivial
local macro_rules | `(tactic| k_inst) => `(tactic| walk_at "my inst")
section
variable {prog : Program} {w : World} {A : Around} {E : Value → Shared → Prop} {s : Shared} {g : Heap} {L l : Addr} {m : Str → Option Value}
theorem item_ro {value slice : PySem.Expr} {vs : List Value} {k : Int} {u : Tok} {v : Value} {Q : Value → Shared → Prop} (F : Fr g L s.heap m) (hl : g.IsList l vs.toArray) (hx : vs[k.toNat]? = some v) (h0 : 0 ≤ k) (hhi : k < 2 ^ 63) (h : Q v s)
    (hs : subscripted slice false (.ref l) (.int k u) = operate [.ref l, .int k u] (getItem (.ref l) (.int k u)) := by with_unfolding_all rfl) :
    wpAny (model prog w) A (subscriptTail value slice (.ref l) (.int k u)) Q E s :=
  tail_any (F.lst hl).typeIs slot_list_getitem.lookup (wpAny_getItem_list (F.lst hl) h0 hhi (by simpa using hx) h) hs
theorem itemT_ro {value slice : PySem.Expr} {vs : List Value} {k : Int} {u : Tok} {j : Nat} {v : Value} {Q : Value → Shared → Prop} (F : Fr g L s.heap m) (ht : IsTup g l vs.toArray) (hlo : -(2 ^ 63) ≤ k) (hhi : k < 2 ^ 63) (hj : seqIndex? k vs.length = some j) (hx : vs[j]? = some v) (h : Q v s)
    (hs : subscripted slice false (.ref l) (.int k u) = operate [.ref l, .int k u] (getItem (.ref l) (.int k u)) := by with_unfolding_all rfl) :
    wpAny (model prog w) A (subscriptTail value slice (.ref l) (.int k u)) Q E s := item_tupleT (F.tup ht) hlo hhi hj hx h hs
theorem len_ro {vs : List Value} {Q : Value → Shared → Prop} (F : Fr g L s.heap m) (hl : g.IsList l vs.toArray) (hz : vs.length ≤ 1000) (h : Q (.int vs.length (s.toks + 1)) { s with toks := s.toks + 1 + 1 }) :
    wpAny (model prog w) A (call (.builtin "len") [.ref l]) Q E s := len_list (F.lst hl) (by rw [List.size_toArray]; omega) (by rw [List.size_toArray]; exact h)
end
theorem ln_48 : True := by
  k_with "call builtin:len cons" => ((k_here; (with_reducible show wpAny _ _ (call (Value.builtin "len") [Value.ref _]) _ _ _); k_dflt (refine' len_ro ?q48zF ?q48zl ?q48zz ?_; (case q48zF => k_asm); (case q48zl => assumption); (case q48zz => ((try simp only [List.length_map]); omega))); (try simp only [List.length_map])))
  k_with "my itemT" => ((k_here; (with_reducible show wpAny _ _ (subscriptTail _ _ (Value.ref _) (Value.int _ _)) _ _ _); (with_unfolding_all refine' itemT_ro ?q49zk0 ?q49zk1 ?q49zk2 ?q49zk3 ?q49zk4 ?q49zk5 ?_ ?q49zk6; (case q49zk0 => k_asm); (case q49zk1 => assumption); (case q49zk2 => decide); (case q49zk3 => decide); (case q49zk4 => rfl); (case q49zk5 => rfl); (case q49zk6 => with_unfolding_all rfl); k_whole)))
  k_with "my item" => ((k_here; (with_reducible show wpAny _ _ (subscriptTail _ _ (Value.ref _) (Value.int _ _)) _ _ _); (with_unfolding_all refine' item_ro ?q50zk0 ?q50zk1 ?q50zk2 ?q50zk3 ?q50zk4 ?_ ?q50zk6; (case q50zk0 => k_asm); (case q50zk1 => assumption); (case q50zk2 => assumption); (case q50zk3 => omega); (case q50zk4 => omega); (case q50zk6 => with_unfolding_all rfl); k_whole)))
  k_with "subscriptTail Name Name ref int" => (walk_at "my item")
  k_with "subscriptTail Name BinOp ref int" => (walk_at "my item")
  k_with "subscriptTail Name Constant ref int" => (walk_at "my itemT")
  trivial
section
variable {prog : Program} {w : World}
variable {x dx l : Addr} {k1 k2 k3 : Tok} {b : Array UInt8} {ks r : List Int} {tb ti te tf : Tok} {bg en v f : Int} {e : Nat} {ps : List PR}
theorem read_part_ct2 (n : Nat) (hk : KBw.bInts b = ks) (hz : ks.length ≤ 16777216) (hP : Part ks bg en v) :
    Fun prog w 709 (n + 7) [.bytes b tb, .int bg ti, .int en te] (fun _ => True) [] (fun v' news' _ => news' = [] ∧ ∃ t1, v' = .int v t1) := by
  obtain ⟨e, r, ds, rfl, rfl, h1, h2, h3, h4, h5, h6, h7, h8, h9, rfl⟩ := hP
  exact read_part_ct n hk hz h1 h2 h3 h4 h5 h6 h7 h8 h9
theorem ln_54 : True := by
  k_with "my call" => (((with_reducible show wpAny _ _ (call (Value.ref 709) [Value.bytes _ _, Value.int _ _, Value.int _ _]) _ _ _); k_dflt (refine' useA1 (read_part_ct2 _ ?q54zhk ?q54zhz ?q54zhP) ?q54zM ?q54zB ?q54zF ?q54zN (List.forall_mem_nil _) Pick.all trivial ?_ rfl rfl; (case q54zM => assumption); (case q54zB => assumption); (case q54zF => k_asm); (case q54zN => k_asm); (case q54zhk => assumption); (case q54zhz => assumption); (case q54zhP => assumption)); intro _ _ _ _ _; walk_at "tout"; (try k_sweep)))
  trivial
theorem object_at_ct (n : Nat) (hk : KBw.bInts b = ks) (hz : ks.length ≤ 16777216) {j : Nat} {p : PR} {tj : Tok} (hj : ps[j]? = some p) (hps : ps.length ≤ 1000)
    (h1 : ∀ q, ps[j + 1]? = some q → Part ks (f + p.o) (f + q.o) v) (h2 : ps[j + 1]? = none → Part ks (f + p.o) ks.length v) :
    Fun prog w 730 (n + 8) [.ref x, .int (j : Int) tj] (fun h => OpAt w.params h x dx l k1 k2 k3 b tb f tf ps) [] (fun v' news' _ => news' = [] ∧ ∃ t1, v' = .int v t1) := by
  intro A base l₀ s R M O hP ret
  have bd : Bd [("self", .ref x), ("index", .int (j : Int) tj)] := ⟨⟩
  have hj' : j < ps.length := (List.getElem?_eq_some_iff.mp hj).1
  have e1 : (pRefs ps)[((j : Int)).toNat]? = some (.ref p.a) := by simp [hj]
  k_dflt walk_at "my enter"
  rename Kg _ _ _ => kg
  obtain ⟨hx, hd, hl, ht⟩ := hP.keeps kg.keeps
  have ht1 := ht p (List.mem_of_getElem? hj)
  cases hq : ps[j + 1]? with
  | none =>
    have hP := h2 hq
    have hlen : ps.length ≤ j + 1 := List.getElem?_eq_none_iff.mp hq
    clear h1 h2
    k_dflt walk_at "my steps"
    exact ⟨rfl, _, rfl⟩
  | some q =>
    have hP := h1 q hq
    have hlen : j + 1 < ps.length := (List.getElem?_eq_some_iff.mp hq).1
    have ht2 := ht q (List.mem_of_getElem? hq)
    have e2 : (pRefs ps)[((j : Int) + 1).toNat]? = some (.ref q.a) := by
      have : ((j : Int) + 1).toNat = j + 1 := by omega
      rw [this]; simp [hq]
    clear h1 h2
    k_dflt walk_at "my steps"
    exact ⟨rfl, _, rfl⟩
end
theorem rs_C10 : True := by
  w_top off
  trivial
section
variable {prog : Program} {w : World} {A : Around} {s : Shared} {base : Heap} {l : List Env} {news : List (Addr × Obj)} {n : Nat}
  {R : Result → Shared → Prop} {name qual : Str} {params : Arguments} {body : List Stmt} {scope : Scope} {dV kV doc pm cdv ct oc : Value} {an od : Option Addr} {osl : Array (Option Value)} {f : Addr} {args : Args} {binds : List (Str × Value)}
theorem enterC (_ : Bd binds) (M : Rm w A base l s.heap n) (O : Own base l s.heap news)
    (ho : (hd.heap_39 w.params).lookup f = some ⟨oc, od, .func (fnOf name qual params body scope dV kV doc pm an cdv ct), osl⟩) (hcd : codeIn (hd.heap_39 w.params) cdv qual = true)
    (hbind : BindsTo s (fnOf name qual params body scope dV kV doc pm an cdv ct) args binds)
    (hkind : (binds.all fun y => scope.names.lookup y.1 == some .local || scope.names.lookup y.1 == some .cell) = true)
    (hnd : ((cellsFrom 0 scope.names []).map (·.1)).Nodup)
    (hco : scope.isCoroutine = false) (hgen : scope.isGenerator = false) (hk : scope.kind = .function)
    (h : ∀ g L' h₁ tk cells p loose mean mg mb, Fr g L' h₁ (bindL (envOfC qual scope L' f cdv).kindOf binds fun _ => none) → News g L' h₁ (cells ++ news) →
      CellsAre (bindC (envOfC qual scope L' f cdv).kindOf binds fun _ => none) (cellsFrom (L' + 1) scope.names []) cells → Below A base l g → (hd.heap_39 w.params).In g → Top p loose mean mg mb g →
      Kg news s.heap g → (∀ p ∈ news, p.1 < L') →
      wpAny (model prog w) (A.deeper (envOfC qual scope L' f cdv)) (execs body (envOfC qual scope L' f cdv))
        (fun fl s' => Bk R (match fl with | .ret v => v | _ => .none) s')
        (fun e s' => wpAny (model prog w) (A.deeper (envOfC qual scope L' f cdv)) (leaving (envOfC qual scope L' f cdv) e) (fun _ s'' => R (.error e) s'') (fun e' s'' => R (.error e') s'') s')
        { s with heap := h₁, toks := tk }) : codeAny (model prog w) A (.call (.ref f) args) R s := by
  obtain ⟨p, loose, mean, mg, mb, T⟩ := M.tp.T
  have st : base.StaysIn (hideAll s.heap (news.map Prod.fst)) := fun b o e => hideAll_get _ (M.below.stays b o e) fun hm => by
    obtain ⟨q, hq, rfl⟩ := List.mem_map.mp hm
    rw [(O q hq).2.1] at e; cases e
  have T' := T.keeps M.below.stays
  have X' := M.tp.X.keeps M.below.stays
  refine codeAny_call_function (fd := fnOf name qual params body scope dV kV doc pm an cdv ct) M.lim (X' _ _ ho) rfl hco hgen rfl (codeRec_of X' hcd) (hbind _ _ _ _ ?_)
  refine wpAny_newFunctionEnv_cells hk (kindsX hkind _) fun env' he s' x => ?_
  subst he
  refine ⟨T'.nolimit.keeps x.toInCall.keep, codeAny_func ?_⟩
  obtain ⟨h₁, tk, rfl, _⟩ := x.done
  have hk₁ := x.toInCall.keep
  obtain ⟨cells, NC, Y⟩ := Cl.news (h₀ := s.heap) (Nat.le_refl _) fun n c hm => ⟨x.cell n c (lookup_of_mem_nodup (cellsFrom_names scope.names 0 (s.heap.objs.size + 1) [] [] rfl ▸ hnd) hm), x.above n c hm⟩
  refine h (hideAll s.heap (news.map Prod.fst)) s.heap.objs.size h₁ tk cells p loose mean mg mb ⟨x.toInCall.ns, fun b o e => hk₁ b o (of_hideAll _ e), Nat.le_of_eq (hideAll_size _ _)⟩ (fun p hp => ?_) Y ⟨M.below.stack, st, ?_⟩ (M.tp.X.keeps st) (T.keeps st) ⟨?_, ?_⟩ ?_
  · rcases List.mem_append.mp hp with hp | hp
    · refine ⟨(NC p hp).1, (NC p hp).2.1, ?_⟩
      cases q : (hideAll s.heap (news.map Prod.fst)).get? p.1 with
      | none => rfl
      | some o => have := of_hideAll _ q; rw [(NC p hp).2.2] at this; cases this
    · exact ⟨hk₁ _ _ (O p hp).1, Nat.ne_of_lt (Heap.lt_size (O p hp).1), hideAll_none _ (List.mem_map_of_mem hp)⟩
  · exact funFrames_hideAll M.below.frames fun env he a ha e => by
      obtain ⟨q, hq, rfl⟩ := List.mem_map.mp ha
      exact (O q hq).2.2 env he e
  · exact fun b o hb e => hideAll_get _ e hb
  · exact fun p hp => hideAll_none _ (List.mem_map_of_mem hp)
  · exact fun p hp => Heap.lt_size (O p hp).1
theorem range0_small {n : Nat} (h : n ≤ 1000000) : Builtin.Range.small 0 (n : Int) 1 = true := small_one (by omega) (by omega) (by omega) (by omega)
theorem range0_size {n : Nat} : Builtin.Range.rangeSize 0 (n : Int) 1 = ((n : Nat) : Int) := by rw [rangeSize_one]; split <;> omega
theorem comp_inv {h₀ : Heap} {L : Addr} {m : Str → Option Value} {env : Env} {elt : PySem.Expr} {x : Str} {sc : Scope} {cl : List (Str × Addr)} {S : List (Addr × Obj) → Prop} {P : Nat → Value → Prop} {Fin : List Value → List (Addr × Obj) → Prop} {N : Nat} {news : List (Addr × Obj)}
    (J : Nat → List Value → List (Addr × Obj) → Prop) (h0 : J 0 [] news)
    (turn : ∀ i ys nw v I oI C oC D m₂ h tk (E' : Value → Shared → Prop), i < N → ys.length = i → P i v → J i ys nw → LCg.NsObj oC m₂ → m₂ x = some v → Fr h₀ L h m → News h₀ L h ((I, oI) :: (C, oC) :: (D, LCg.lst ys) :: nw) → LCg.Off3 I C D nw → ((@Ne Nat I C) ∧ (@Ne Nat I D) ∧ (@Ne Nat C D)) →
      wpAny (model prog w) A (eval elt (compEnvC sc cl C env)) (LCg.CompEnd h₀ L m { s with heap := h, toks := tk } I oI C oC D (LCg.lst ys) S (fun y nw' => J (i + 1) (ys ++ [y]) nw')) E' { s with heap := h, toks := tk })
    (fin : ∀ ys nw, ys.length = N → J N ys nw → Fin ys nw) : LCg.CompRest prog w A h₀ L m env elt x sc cl s S P Fin N 0 [] news := by
  have key : ∀ (j i : Nat) (ys : List Value) (nw : List (Addr × Obj)), i + j = N → ys.length = i → J i ys nw → LCg.CompRest prog w A h₀ L m env elt x sc cl s S P Fin j i ys nw := by
    intro j
    induction j with
    | zero =>
      intro i ys nw hi hy hJ
      obtain rfl : i = N := by omega
      exact LCg.CompRest.zero (fin ys nw hy hJ)
    | succ j ih =>
      intro i ys nw hi hy hJ
      refine LCg.CompRest.succ ?_
      intro v I oI C oC D m₂ h tk E' hv hC hx F N off ne
      refine wpAny_mono (turn i ys nw v I oI C oC D m₂ h tk E' (by omega) hy hv hJ hC hx F N off ne) (fun y s₂ hq => ?_) fun _ _ e => e
      obtain ⟨h', tk', nw', e, F', N', off', hS, r⟩ := hq
      exact ⟨h', tk', nw', e, F', N', off', hS, ih (i + 1) _ _ (by omega) (by simp [hy]) r⟩
  exact key N 0 [] news (by omega) rfl h0
end
section
theorem ln_55 : True := by
  k_with "my enterC" => ((
      refine' enterC ?q55zk0 ?q55zk1 ?q55zk2 ?q55zk6 ?q55zk7 ?q55zk9 ?q55zkB ?q55zkD ?q55zc2 ?q55zc3 ?q55zc4 ?_; (case q55zk0 => assumption); (case q55zk1 => assumption); (case q55zk2 => assumption); (case q55zk6 => k_is); (case q55zk7 => k_is); (case q55zk9 => first | exact BindsTo.of_eq rfl | exact binds_K (Frag.In.keeps (Tp.X (Rm.tp (by assumption))) (Below.stays (Rm.below (by assumption)))) rfl (by k_is) rfl rfl rfl); (case q55zkB => exact rfl); (case q55zkD => decide); (case q55zc2 => exact rfl); (case q55zc3 => exact rfl); (case q55zc4 => exact rfl); k_whole;
      intro _ _ _ _ _ _ _ _ _ _ _ _ Y' _ _ _ _ _; (obtain ⟨_, rfl, _⟩ := CellsAre.one Y'; clear Y'); walk_at "tout"; (try dsimp only); (try k_fold)))
  trivial
end
theorem rs_C11 : True := by
  w_top off
  trivial
section
variable {prog : Program} {w : World}
variable {x dx l : Addr} {k1 k2 k3 : Tok} {b : Array UInt8} {ks r : List Int} {tb ti te tf : Tok} {bg en v f : Int} {e : Nat} {ps : List PR}
noncomputable abbrev pObj (p : PR) : Addr × Obj := (p.a, tupO (pItems p))
noncomputable def Parts (ks : List Int) (f : Int) (ps : List PR) (vals : List Int) : Prop :=
  vals.length = ps.length ∧ ∀ (j : Nat) (p : PR) (v : Int), ps[j]? = some p → vals[j]? = some v → (∀ q, ps[j + 1]? = some q → Part ks (f + p.o) (f + q.o) v) ∧ (ps[j + 1]? = none → Part ks (f + p.o) ks.length v)
theorem object_at_use (n : Nat) (hk : KBw.bInts b = ks) (hz : ks.length ≤ 16777216) {j : Nat} {tj : Tok} {vals : List Int} (hps : ps.length ≤ 1000) (hP : Parts ks f ps vals) (hv : vals[j]? = some v) :
    Fun prog w 730 (n + 8) [.ref x, .int (j : Int) tj] (fun h => OpAt w.params h x dx l k1 k2 k3 b tb f tf ps) [] (fun v' news' _ => news' = [] ∧ ∃ t1, v' = .int v t1) := by
  have hlt : j < ps.length := by rw [← hP.1]; exact (List.getElem?_eq_some_iff.mp hv).1
  obtain ⟨p, hp⟩ : ∃ p, ps[j]? = some p := ⟨_, List.getElem?_eq_getElem hlt⟩
  obtain ⟨h1, h2⟩ := hP.2 j p v hp hv
  exact object_at_ct n hk hz hp hps h1 h2
theorem ln_56 : True := by
  k_with "my call" => (((with_reducible show wpAny _ _ (call (Value.ref 730) [Value.ref _, Value.int _ _]) _ _ _); k_dflt (refine' useA1 (object_at_use _ ?q56zhk ?q56zhz ?q56zh1 ?q56zh2 ?q56zh3) ?q56zM ?q56zB ?q56zF ?q56zN (List.forall_mem_nil _) Pick.all ?q56zhP ?_ rfl rfl; (case q56zM => assumption); (case q56zB => assumption); (case q56zF => k_asm); (case q56zN => k_asm); (case q56zhk => assumption); (case q56zhz => assumption); (case q56zh1 => assumption); (case q56zh2 => assumption); (case q56zh3 => assumption); (case q56zhP => exact OpAt.keeps (by assumption) (Fr.keep (by k_asm)))); intro _ _ _ _ _; walk_at "tout"; (try k_sweep)))
  trivial
theorem pair_end {h₀ h' : Heap} {L I C D a : Addr} {m : Str → Option Value} {s₁ : Shared} {oI oC : Obj} {c : Addr × Obj} {nw : List (Addr × Obj)} {ys : List Value} {rest : Value → List (Addr × Obj) → Prop} {tk : Nat} {n o : Int} {tn to : Tok}
    (F : Fr h₀ L h' m) (N : News h₀ L h' (pObj ⟨a, n, o, tn, to⟩ :: (I, oI) :: (C, oC) :: (D, LCg.lst ys) :: c :: nw)) (off : LCg.Off3 I C D (c :: nw)) (hne : a ≠ I ∧ a ≠ C ∧ a ≠ D) (r : ∀ q : PR, q = ⟨a, n, o, tn, to⟩ → rest (.ref q.a) (c :: pObj q :: nw)) :
    LCg.CompEnd h₀ L m s₁ I oI C oC D (LCg.lst ys) (fun _ => True) rest (.ref a) { s₁ with heap := h', toks := tk } := by
  refine LCg.CompEnd.intro F N (c :: pObj ⟨a, n, o, tn, to⟩ :: nw) ?_ ⟨off.1, hne, off.2⟩ trivial (r _ rfl)
  intro p hp
  simp only [List.mem_cons] at hp ⊢
  rcases hp with h | h | h | h | h | h <;> simp [h]
theorem all_objects_ct (n : Nat) (hk : KBw.bInts b = ks) (hz : ks.length ≤ 16777216) {vals : List Int} (hps : ps.length ≤ 1000) (hP : Parts ks f ps vals) :
    Fun prog w 735 (n + 9) [.ref x] (fun h => OpAt w.params h x dx l k1 k2 k3 b tb f tf ps) []
      (fun v' news' _ => ∃ D qs, v' = .ref D ∧ qs.map PR.n = ps.map PR.n ∧ qs.map PR.o = vals ∧ news' = (D, LCg.lst (pRefs qs)) :: qs.map pObj) := by
  refine Fun.sub ?_
  intro A base l₀ s R M O hOp ret
  have bd : Bd [("self", .ref x)] := ⟨⟩
  k_dflt walk_at "my enterC"
  rename Kg _ _ _ => kg
  have hop := hOp.keeps kg.keeps
  have hx := hop.hx
  have hd := hop.hd
  have hl := hop.hl
  k_dflt walk_at "my steps"
  rename Fr _ _ _ _ => F
  k_dflt (refine' LCg.ListComp_U (F₀ := F) ?k1 ?k2 ?k3 ?k4 ?k5 ?_; (case k1 => exact rfl); (case k2 => decide); (case k3 => exact rfl); (case k4 => decide); (case k5 => exact rfl))
  k_dflt walk_at "my steps"
  rename Fr _ _ _ _ => F
  rename News _ _ _ _ => N
  rename IsRange _ _ _ _ _ _ _ _ => hr
  rename Obj => oS
  rename oS.data = _ => hoS
  refine LCg.CompSrc.range M.handledD F N hr (range0_small (by omega)) range0_size (by rw [sizeLine_eq]; omega) fun g₁ => ?_
  refine comp_inv (fun i ys nw => ∃ qs nw₂, ys = pRefs qs ∧ nw = (_, oS) :: nw₂ ∧ qs.map PR.n = (ps.take i).map PR.n ∧ qs.map PR.o = vals.take i ∧ ∀ q ∈ qs, pObj q ∈ nw₂) ⟨[], [], rfl, rfl, by simp, by simp, fun q hq => nomatch hq⟩ ?_ ?_
  · rintro i ys nw v I oI C oC D m₂ h tk E' hi hlen ⟨ti', rfl⟩ HJ
    refine x2_5 HJ ?_
    clear HJ
    rintro qs nw₂ rfl rfl hq1 hq2 hq3
    intro hoC hmx F₁ N₁ off ne
    rw [Int.zero_add] at hmx
    clear F N hr
    have hv : vals[i]? = some (vals[i]'(by rw [hP.1]; exact hi)) := List.getElem?_eq_getElem _
    have hp : ps[i]? = some (ps[i]) := List.getElem?_eq_getElem _
    have ht1 := hop.ht _ (List.mem_of_getElem? hp)
    have e1 : (pRefs ps)[((i : Int)).toNat]? = some (.ref ps[i].a) := by
      show (ps.map fun p => Value.ref p.a)[i]? = _
      rw [List.getElem?_map, hp]; rfl
    k_dflt walk_at "my steps"
    k_unmd
    k_unfold
    rename Fr _ _ _ _ => F'
    rename News _ _ _ _ => N'
    refine pair_end F' N' off ⟨by k_ne, by k_ne, by k_ne⟩ fun q hq => ⟨qs ++ [q], pObj q :: nw₂, by simp [pRefs], rfl, ?_, ?_, ?_⟩
    · subst hq; rw [List.map_append, hq1, List.take_add_one, hp, Option.toList_some, List.map_append]; rfl
    · subst hq; rw [List.map_append, hq2, List.take_add_one, hv, Option.toList_some]; rfl
    · intro p hpm
      rcases List.mem_append.mp hpm with h | h
      · exact .tail _ (hq3 p h)
      · rw [List.mem_singleton.mp h]; exact .head _
  · intro ys nw hlen HJ
    refine x2_5 HJ ?_
    clear HJ
    rintro qs nw₂ rfl rfl hq1 hq2 hq3
    rw [List.take_length] at hq1
    rw [← hP.1, List.take_length] at hq2
    k_dflt walk_at "my steps"
    refine ⟨(_, LCg.lst (pRefs qs)) :: qs.map pObj, ?_, _, qs, rfl, hq1, hq2, rfl⟩
    intro p hp
    rcases List.mem_cons.mp hp with rfl | hp
    · exact .head _
    · obtain ⟨q, hq, rfl⟩ := List.mem_map.mp hp
      exact .tail _ (.tail _ (hq3 q hq))
end
theorem rs_C12 : True := by
  w_top off
  trivial
noncomputable def Offs (T : List (Addr × Obj)) (W : List Addr) : Prop := ∀ p ∈ T, p.1 ∉ W
theorem Offs.ne {T : List (Addr × Obj)} {W : List Addr} {a : Addr} (h : Offs T W) (ha : a ∈ W) : ∀ p ∈ T, p.1 ≠ a := fun p hp e => h p hp (e ▸ ha)
theorem Pick.rest {T : List (Addr × Obj)} {W S : List Addr} (h : Offs T S) (hs : ∀ a ∈ W, a ∈ S) : Pick W T T := by
  induction T with
  | nil => exact .nil
  | cons p r ih => exact .skip (fun hm => h p (.head _) (hs _ hm)) (ih fun q hq => h q (.tail _ hq))
theorem Offs.cons {T : List (Addr × Obj)} {W : List Addr} {a : Addr} {o : Obj} (h : Offs T W) (ha : ∀ b ∈ W, b ≠ a) : Offs ((a, o) :: T) W := fun p hp => by
  rcases List.mem_cons.mp hp with rfl | hp
  · exact fun hm => ha _ hm rfl
  · exact h p hp
theorem ln_57 : True := by
  k_with "my pick" => ((refine' Pick.rest ?q57zpkD ?q57zpkE; (case q57zpkD => assumption); (case q57zpkE => walk_at "my subs")))
  k_with "my all" => (exact Offs.ne (by assumption) (by k_mem))
  trivial
local macro_rules | `(tactic| k_all) => `(tactic| walk_at "my all")
section
variable {prog : Program} {w : World} {A : Around} {E : Value → Shared → Prop} {s : Shared} {g : Heap} {L l : Addr} {led : List (Addr × Obj)}
theorem item_last {value slice : PySem.Expr} {vs : List Value} {k : Nat} {u : Tok} {v : Value} {Q : Value → Shared → Prop} (N : News g L s.heap led) (hm : (l, listOf vs.toArray k) ∈ led) (hx : vs.getLast? = some v) (hz : vs.length ≤ 100000) (h : Q v s)
    (hs : subscripted slice false (.ref l) (.int (-1) u) = operate [.ref l, .int (-1) u] (getItem (.ref l) (.int (-1) u)) := by with_unfolding_all rfl) :
    wpAny (model prog w) A (subscriptTail value slice (.ref l) (.int (-1) u)) Q E s := by
  have hl : s.heap.IsList l vs.toArray := ⟨_, (N _ hm).1, rfl, k, rfl⟩
  have hne : vs ≠ [] := fun e => by rw [e] at hx; cases hx
  have hpos := List.length_pos_iff.mpr hne
  refine tail_any hl.typeIs slot_list_getitem.lookup (wpAny_getItem_list_neg (k := -1) hl (by decide) (by simp; omega) (by decide) ?_ h) hs
  rw [List.getLast?_eq_getElem?] at hx
  simp only [List.size_toArray, List.getElem?_toArray]
  rw [← hx]; congr 1
  omega
theorem append_led {m : Str → Option Value} {vs : List Value} {n : Nat} {x : Value} {led' : List (Addr × Obj)} {Q : Value → Shared → Prop} (F : Fr g L s.heap m) (N : News g L s.heap led) (U : Upd l (listOf vs.toArray n) (listOf (vs ++ [x]).toArray (n + 1)) led led') (hz : vs.length ≤ 100000)
    (h : ∀ h', Fr g L h' m → News g L h' led' → Q .none { s with heap := h' }) : wpAny (model prog w) A (call (.builtin "list.append") [.ref l, x]) Q E s := by
  rw [← List.push_toArray] at U
  exact append_K F N U h (by rw [List.size_toArray, sizeLine_eq]; omega)
theorem truthy_led {vs : List Value} {k : Nat} {Q : Bool → Shared → Prop} (N : News g L s.heap led) (hm : (l, listOf vs.toArray k) ∈ led) (hz : vs.length ≤ 100000) (h : Q (!vs.isEmpty) { s with toks := s.toks + 1 + 1 }) :
    wpAny (model prog w) A (truthy (.ref l)) Q E s :=
  wpAny_truthy_list ⟨_, (N _ hm).1, rfl, k, rfl⟩ (by rw [List.size_toArray]; omega) (by simpa using h)
end
theorem ln_59 : True := by
  k_with "call builtin:list.append cons" => ((k_here; (with_reducible show wpAny _ _ (call (Value.builtin _) [Value.ref _, _]) _ _ _); k_dflt (refine' append_led ?q59zk1 ?q59zk2 ?q59zk3 ?q59zz ?_; (case q59zk1 => k_asm); (case q59zk2 => k_asm); (case q59zk3 => k_upd); (case q59zz => first | omega | (simp only [List.length_map, List.length_append, List.length_cons, List.length_nil]; done) | (simp only [List.length_map, List.length_append, List.length_cons, List.length_nil]; omega)); k_whole); intro _ _ _; (try k_sweep)))
  k_with "truthy ref" => ((k_here; k_dflt (refine' truthy_led ?q60zN ?q60zm ?q60zz ?_; (case q60zN => k_asm); (case q60zm => k_mem); (case q60zz => first | omega | (simp only [List.length_map, List.length_append, List.length_cons, List.length_nil]; done) | (simp only [List.length_map, List.length_append, List.length_cons, List.length_nil]; omega)))))
  k_with "subscriptTail Name UnaryOp ref int" => ((k_here; (with_reducible show wpAny _ _ (subscriptTail _ _ (Value.ref _) (Value.int (-1) _)) _ _ _); (with_unfolding_all refine' item_last ?q61zN ?q61zm ?q61zx ?q61zz ?_ ?q61zk6; (case q61zN => k_asm); (case q61zm => k_mem); (case q61zx => assumption); (case q61zz => first | omega | (simp only [List.length_map, List.length_append, List.length_cons, List.length_nil]; done) | (simp only [List.length_map, List.length_append, List.length_cons, List.length_nil]; omega)); (case q61zk6 => with_unfolding_all rfl))))
  k_with "my memA" => (first | exact List.Mem.head _ | walk_at "memI" | assumption | (refine List.Mem.tail _ ?_; walk_at "my memA"))
  trivial
section
variable {prog : Program} {w : World} {A : Around} {E : Value → Shared → Prop} {s : Shared} {g : Heap} {L l : Addr} {led : List (Addr × Obj)}
theorem itemT_led {value slice : PySem.Expr} {vs : List Value} {k : Int} {u : Tok} {j : Nat} {v : Value} {Q : Value → Shared → Prop} (N : News g L s.heap led) (hm : (l, tupO vs) ∈ led) (hlo : -(2 ^ 63) ≤ k) (hhi : k < 2 ^ 63) (hj : seqIndex? k vs.length = some j) (hx : vs[j]? = some v) (h : Q v s)
    (hs : subscripted slice false (.ref l) (.int k u) = operate [.ref l, .int k u] (getItem (.ref l) (.int k u)) := by with_unfolding_all rfl) :
    wpAny (model prog w) A (subscriptTail value slice (.ref l) (.int k u)) Q E s := item_tupleT (N.isTup hm) hlo hhi hj hx h hs
end
theorem ln_63 : True := by
  k_with "my itemT" => ((k_here; (with_reducible show wpAny _ _ (subscriptTail _ _ (Value.ref _) (Value.int _ _)) _ _ _); (with_unfolding_all refine' itemT_led ?q63zk0 ?q63zk1 ?q63zk2 ?q63zk3 ?q63zk4 ?q63zk5 ?_ ?q63zk6; (case q63zk0 => k_asm); (case q63zk1 => walk_at "my memA"); (case q63zk2 => decide); (case q63zk3 => decide); (case q63zk4 => rfl); (case q63zk5 => rfl); (case q63zk6 => with_unfolding_all rfl); k_whole)))
  trivial
noncomputable def Num (r : List Int) (v : Int) (r' : List Int) : Prop :=
  ¬ ((r.dropWhile isW).takeWhile isFig = [] ∨ 20 < ((r.dropWhile isW).takeWhile isFig).length) ∧ val ((r.dropWhile isW).takeWhile isFig) = v ∧ r' = (r.dropWhile isW).dropWhile isFig
noncomputable def Lead : List (Int × Int) → List Int → Prop
  | [], r => (r.dropWhile isW).takeWhile isFig = []
  | (n, o) :: ps, r => ∃ r1 r2, Num r n r1 ∧ Num r1 o r2 ∧ Lead ps r2
noncomputable def Asc : Option Int → List (Int × Int) → Prop
  | _, [] => True
  | prev, (n, o) :: ps => n ≠ 0 ∧ (∀ p, prev = some p → p < o) ∧ Asc (some o) ps
noncomputable abbrev prOf (p : PR) : Int × Int := (p.n, p.o)
section
variable {prog : Program} {w : World}
variable {b : Array UInt8} {ks r : List Int} {tb ti te tm : Tok} {e mm : Nat} {ps : List (Int × Int)}
theorem Num.suf {r r' : List Int} {v : Int} (h : Num r v r') : r' <:+ r := by rw [h.2.2]; exact (List.dropWhile_suffix _).trans (List.dropWhile_suffix _)
theorem next_count_num {c d : Addr} {k1 k2 k3 : Tok} {r r' : List Int} {v : Int} (n : Nat) (hk : KBw.bInts b = ks) (hz : ks.length ≤ 16777216) (hs : Suf ks e r) (hc : ∀ x ∈ r, x ≠ 37) (hN : Num r v r') :
    Fun prog w 695 (n + 3) [.ref c] (fun _ => True) (curN w.params c d k1 k2 k3 b tb ((e : Int) - r.length) ti e te)
      (fun v' news' _ => ∃ t t', v' = .int v t ∧ news' = curN w.params c d k1 k2 k3 b tb ((e : Int) - r'.length) t' e te) := by
  obtain ⟨h1, rfl, rfl⟩ := hN
  refine fun A base l s R M O hP ret => (FunE.fun (next_count_ct n hk hz hs hc) h1) A base l s R M O hP ⟨fun v h' tk nw kp hs' q => ?_⟩
  obtain ⟨_, ⟨t, rfl⟩, t', rfl⟩ := q
  exact ret.go _ h' tk _ kp hs' ⟨t, t', rfl, rfl⟩
theorem next_count_bad {c d : Addr} {k1 k2 k3 : Tok} {r : List Int} (n : Nat) (hk : KBw.bInts b = ks) (hz : ks.length ≤ 16777216) (hs : Suf ks e r) (hc : ∀ x ∈ r, x ≠ 37) (hN : (r.dropWhile isW).takeWhile isFig = []) :
    FunE prog w 695 (n + 3) [.ref c] (fun _ => True) (curN w.params c d k1 k2 k3 b tb ((e : Int) - r.length) ti e te) (fun _ _ _ => False) True :=
  fun A base l s R M O hP ret bad => next_count_ct n hk hz hs hc A base l s R M O hP ⟨fun _ _ _ _ _ _ q => absurd (.inl hN) q.1⟩ fun _ => bad trivial
theorem ln_64 : True := by
  k_with "my call" => (((with_reducible show wpAny _ _ (call (Value.ref 695) [Value.ref _]) _ _ _); k_dflt (refine' useE (next_count_bad _ ?q64zhk ?q64zhz ?q64zhs ?q64zhc ?q64zhN) ?q64zM ?q64zB ?q64zF ?q64zN ?q64zhb ?q64zhp trivial (fun _ _ _ _ _ _ _ q => q.elim) ?_ rfl rfl; (case q64zM => assumption); (case q64zB => assumption); (case q64zF => k_asm); (case q64zN => k_asm); (case q64zhb => walk_at "my subs"); (case q64zhN => assumption); (case q64zhk => assumption); (case q64zhz => assumption); (case q64zhs => walk_at "my suf"); (case q64zhc => walk_at "my noc"); (case q64zhp => walk_at "my pick")); intro _ _ _ _ _))
  k_with "my call" => (((with_reducible show wpAny _ _ (call (Value.ref 695) [Value.ref _]) _ _ _); k_dflt (refine' useD2 (next_count_num _ ?q65zhk ?q65zhz ?q65zhs ?q65zhc ?q65zhN) ?q65zM ?q65zB ?q65zF ?q65zN ?q65zhb ?q65zhp trivial ?_ rfl rfl; (case q65zM => assumption); (case q65zB => assumption); (case q65zF => k_asm); (case q65zN => k_asm); (case q65zhb => walk_at "my subs"); (case q65zhN => assumption); (case q65zhk => assumption); (case q65zhz => assumption); (case q65zhs => walk_at "my suf"); (case q65zhc => walk_at "my noc"); (case q65zhp => walk_at "my pick")); intro _ _ _ _ _ _; walk_at "tout"; (try k_sweep)))
  trivial
theorem turn_pair {h₀ h' : Heap} {L I a l : Addr} {m' : Str → Option Value} {s₁ : Shared} {oI : Obj} {c1 c2 : Addr × Obj} {tail : List (Addr × Obj)} {J : (Str → Option Value) → List (Addr × Obj) → Prop} {tk k : Nat} {n o : Int} {tn to : Tok} {qs : List PR}
    (F : Fr h₀ L h' m') (N : News h₀ L h' (pObj ⟨a, n, o, tn, to⟩ :: c1 :: c2 :: (I, oI) :: (l, listOf (pRefs qs ++ [Value.ref a]).toArray k) :: tail)) (r : ∀ q : PR, q = ⟨a, n, o, tn, to⟩ → J m' ((l, listOf (pRefs (qs ++ [q])).toArray k) :: c1 :: c2 :: pObj q :: tail))
    (hne : ∀ b ∈ l :: c1.1 :: c2.1 :: a :: tail.map Prod.fst, b ≠ I) : Turn h₀ L I oI J s₁ { s₁ with heap := h', toks := tk } := by
  have e : pRefs (qs ++ [⟨a, n, o, tn, to⟩]) = pRefs qs ++ [.ref a] := List.map_append
  refine Turn.intro F N (.tail _ (.tail _ (.tail _ (.head _)))) ?_ ?_ (r _ rfl)
  · rw [e]
    intro p hp
    simp only [List.mem_cons] at hp ⊢
    rcases hp with h | h | h | h | h <;> simp [h]
  · intro p hp
    refine hne p.1 ?_
    simp only [List.mem_cons, List.mem_map] at hp ⊢
    rcases hp with h | h | h | h | h
    · simp [h]
    · simp [h]
    · simp [h]
    · simp [h]
    · exact .inr (.inr (.inr (.inr ⟨p, h, rfl⟩)))
theorem read_pairs_ct (n : Nat) (hk : KBw.bInts b = ks) (hz : ks.length ≤ 16777216) (he : e ≤ ks.length) (hc : ∀ x ∈ ks.take e, x ≠ 37) (hL : Lead ps (ks.take e)) (hA : Asc none ps) (hm : mm ≤ 1000) :
    FunE prog w 702 (n + 4) [.bytes b tb, .int e te, .int mm tm] (fun _ => True) []
      (fun v' news' _ => mm ≤ ps.length ∧ ∃ l qs k, v' = .ref l ∧ qs.map prOf = ps.take mm ∧ news' = (l, listOf (pRefs qs).toArray k) :: qs.map pObj)
      (ps.length < mm) := by
  refine FunE.sub ?_
  intro A base l₀ s R M O _ ret bad
  have bd : Bd [("data", .bytes b tb), ("first", .int e te), ("many", .int mm tm)] := ⟨⟩
  k_dflt walk_at "my enter"
  k_dflt walk_at "my steps"
  rename Fr _ _ _ _ => F
  k_dflt (refine' For_invVF F ?k1 ?k2 ?_; (case k1 => exact rfl); (case k2 => exact rfl))
  k_dflt walk_at "my steps"
  rename_i x dx _ _ _ hdx k1 k2 k3 te' _ _ l _ hl _ _ _ _ _ _ _ _ hr F N _
  obtain ⟨hl1, hl2⟩ := hl
  have hlen0 : (ks.take e).length = e := by rw [List.length_take]; omega
  have h0 : (0 : Int) = (e : Int) - ((ks.take e).length : Nat) := by omega
  rw [h0] at N
  refine iter_range_my (fun i m nx => i ≤ ps.length ∧ ∃ qs r ti' tail, nx = (l, listOf (pRefs qs).toArray i) :: (x, instObj 199 dx) :: (dx, curD w.params k1 k2 k3 b tb ((e : Int) - (r.length : Nat)) ti' e te') :: tail ∧
      qs.map prOf = ps.take i ∧ Lead (ps.drop i) r ∧ Asc (qs.getLast?.map PR.o) (ps.drop i) ∧ Suf ks e r ∧ (∀ x ∈ r, x ≠ 37) ∧ m "cursor" = some (.ref x) ∧ m "found" = some (.ref l) ∧ Offs tail [l, x, dx] ∧ ∀ q ∈ qs, pObj q ∈ tail)
    M.handledD hr (range0_small (by omega)) range0_size F N
    ⟨Nat.zero_le _, iE4 [] (ks.take e) _ [] (iA10 rfl rfl hL hA ⟨he, List.suffix_refl _⟩ hc rfl rfl (fun p hp => (nomatch hp)) (fun q hq => (nomatch hq)))⟩ ?_ ?_
  · intro i t m₁ news₁ h tk I oI hi HJ
    refine a2 HJ ?_
    clear HJ
    rintro hip HJ
    refine x4_10 HJ ?_
    clear HJ
    rintro qs r ti' tail enx hqs hLead hAsc hs hnc e1 e2 hoff hmem
    intro hne F₁ N₁
    rw [enx] at N₁ hne
    clear enx
    clear F N hr h0
    have F₂ := Fr.put (Fr.put F₁ "cursor" e1) "found" e2
    clear F₁
    simp only [List.forall_mem_cons] at hne
    refine a4 hne ?_
    intro n1 n2 n3 n4
    replace n1 := neN n1
    replace n2 := neN n2
    replace n3 := neN n3
    have hoff' : Offs tail [I, l, x, dx] := fun p hp hm => by
      rcases List.mem_cons.mp hm with z | z
      · exact n4 p hp z
      · exact hoff p hp z
    clear hoff
    (try k_fold)
    cases hpi : ps[i]? with
    | none =>
      have hle : ps.length ≤ i := List.getElem?_eq_none_iff.mp hpi
      have hX : ps.length < mm := by omega
      rw [List.drop_eq_nil_of_le hle] at hLead
      k_dflt walk_at "my steps"
      exact hX
    | some p =>
      have hlt : i < ps.length := (List.getElem?_eq_some_iff.mp hpi).1
      have hdrop : ps.drop i = p :: ps.drop (i + 1) := by
        rw [List.drop_eq_getElem_cons hlt]
        congr 1
        exact Option.some.inj ((List.getElem?_eq_getElem hlt).symm.trans hpi)
      rw [hdrop] at hLead hAsc
      refine x2_3 hLead ?_
      intro r1 r2 hN1 hN2 hLead'
      refine a3 hAsc ?_
      intro hp0 hplt hAsc'
      have hs1 := hs.tail hN1.suf
      have hnc1 : ∀ x ∈ r1, x ≠ 37 := fun x hx => hnc x (hN1.suf.subset hx)
      have hs2 := hs1.tail hN2.suf
      have hnc2 : ∀ x ∈ r2, x ≠ 37 := fun x hx => hnc1 x (hN2.suf.subset hx)
      have hqlen : qs.length ≤ 1000 := by
        have := congrArg List.length hqs
        rw [List.length_map, List.length_take] at this; omega
      cases hql : qs.getLast? with
      | none =>
        obtain rfl : qs = [] := List.getLast?_eq_none_iff.mp hql
        k_dflt walk_at "my steps"
        rename Fr _ _ _ _ => F'
        rename News _ _ _ _ => N'
        rename _ ∧ _ ∧ _ ∧ _ ∧ AllLt _ _ => hD
        refine a5 hD ?_
        intro d1 d2 d3 d4 d5
        refine turn_pair (qs := []) F' N' (fun q hq => ⟨hlt, iE4 ([] ++ [q]) r2 _ (pObj q :: tail) (iA10 rfl ?_ hLead' ?_ hs2 hnc2 rfl rfl (Offs.cons (fun p hp hm => hoff' p hp (.tail _ hm)) ?_) ?_)⟩) ?_
        · rw [List.map_append, hqs, List.take_add_one, hpi, hq]; rfl
        · rw [hq]; simpa using hAsc'
        · intro a ha
          rw [hq]
          simp only [List.mem_cons, List.not_mem_nil, or_false] at ha
          rcases ha with z | z | z <;> (rw [z]; k_ne)
        · intro p hp
          rcases List.mem_append.mp hp with z | z
          · exact .tail _ (hmem p z)
          · rw [List.mem_singleton.mp z]; exact .head _
        · intro a ha
          simp only [List.mem_cons] at ha
          rcases ha with z | z | z | z | z
          · rw [z]; exact n1
          · rw [z]; exact n2
          · rw [z]; exact n3
          · rw [z]; k_ne
          · obtain ⟨p, hp, rfl⟩ := List.mem_map.mp z
            exact n4 p hp
      | some q =>
        have hne0 : qs ≠ [] := fun e => by rw [e] at hql; cases hql
        have ht : (!(pRefs qs).isEmpty) = true := by cases qs with
          | nil => exact absurd rfl hne0
          | cons => rfl
        have hx : (pRefs qs).getLast? = some (.ref q.a) := by rw [List.getLast?_map, hql]; rfl
        have hq : pObj q ∈ tail := hmem q (List.mem_of_getLast? hql)
        have hlt' : q.o < p.2 := hplt q.o (by rw [hql]; rfl)
        k_dflt walk_at "my steps"
        rename Fr _ _ _ _ => F'
        rename News _ _ _ _ => N'
        rename _ ∧ _ ∧ _ ∧ _ ∧ AllLt _ _ => hD
        refine a5 hD ?_
        intro d1 d2 d3 d4 d5
        refine turn_pair (qs := qs) F' N' (fun q hq => ⟨hlt, iE4 (qs ++ [q]) r2 _ (pObj q :: tail) (iA10 rfl ?_ hLead' ?_ hs2 hnc2 rfl rfl (Offs.cons (fun p hp hm => hoff' p hp (.tail _ hm)) ?_) ?_)⟩) ?_
        · rw [List.map_append, hqs, List.take_add_one, hpi, hq]; rfl
        · rw [hq]; simpa using hAsc'
        · intro a ha
          rw [hq]
          simp only [List.mem_cons, List.not_mem_nil, or_false] at ha
          rcases ha with z | z | z <;> (rw [z]; k_ne)
        · intro p hp
          rcases List.mem_append.mp hp with z | z
          · exact .tail _ (hmem p z)
          · rw [List.mem_singleton.mp z]; exact .head _
        · intro a ha
          simp only [List.mem_cons] at ha
          rcases ha with z | z | z | z | z
          · rw [z]; exact n1
          · rw [z]; exact n2
          · rw [z]; exact n3
          · rw [z]; k_ne
          · obtain ⟨p, hp, rfl⟩ := List.mem_map.mp z
            exact n4 p hp
  · intro m₁ news₁ h tk HJ
    refine a2 HJ ?_
    clear HJ
    rintro hip HJ
    refine x4_10 HJ ?_
    clear HJ
    rintro qs r ti' tail enx hqs hLead hAsc hs hnc e1 e2 hoff hmem
    intro F₁ N₁
    rw [enx] at N₁
    clear enx
    clear F N hr h0
    have F₂ := Fr.put (Fr.put F₁ "cursor" e1) "found" e2
    clear F₁
    (try k_fold)
    k_dflt walk_at "my steps"
    refine ⟨(l, listOf (pRefs qs).toArray mm) :: qs.map pObj, ?_, hip, l, qs, mm, rfl, hqs, rfl⟩
    intro p hp
    rcases List.mem_cons.mp hp with rfl | hp
    · exact .head _
    · obtain ⟨q, hq, rfl⟩ := List.mem_map.mp hp
      exact .tail _ (.tail _ (.tail _ (hmem q hq)))
end
theorem rs_Sub : True := by
  w_top off
  trivial
theorem allC {a b : Addr} {l : List Addr} (h : a ≠ b) (h2 : ∀ q ∈ l, q ≠ b) : ∀ q ∈ a :: l, q ≠ b := List.forall_mem_cons.mpr ⟨h, h2⟩
theorem allN {b : Addr} : ∀ q ∈ ([] : List Addr), q ≠ b := fun _ h => nomatch h
theorem subW {α : Type} {A B : List α} (h : ∀ q ∈ A, q ∈ B) {x : α} (hm : x ∈ A) : x ∈ B := h x hm
theorem ln_66 : True := by
  k_with "memT" => (first | assumption | exact List.Mem.head _ | walk_at "memI" | (refine List.Mem.tail _ ?_; walk_at "memT"))
  k_with "sub" => (first | exact subN | (refine subC ?q67zsbA ?q67zsbB; (case q67zsbA => walk_at "memT"); (case q67zsbB => walk_at "sub")) | (intro _ _; walk_at "memT"))
  k_with "alle" => (first | exact allN | (refine allC ?q68zsbA ?q68zsbB; (case q68zsbA => walk_at "my ne"); (case q68zsbB => walk_at "alle")))
  trivial
theorem rs_C13 : True := by
  w_top off
  trivial
section
variable {prog : Program} {w : World}
variable {b : Array UInt8} {ks r : List Int} {tb ti te tm tf : Tok} {mm f : Nat} {ps : List (Int × Int)}
theorem opened_init_ct (n : Nat) {fi : Int} {l : Addr} (x dx : Addr) :
    Fun prog w 723 n [.ref x, .bytes b tb, .int fi tf, .ref l] (fun _ => True) [(x, instObj 738 dx), (dx, dictOf [] 0)]
      (fun v news' _ => v = .none ∧ ∃ k1 k2 k3, news' = [(x, instObj 738 dx), (dx, opD w.params k1 k2 k3 b tb fi tf l)]) := by
  intro A base l₀ s R M O _ ret
  have bd : Bd [("self", .ref x), ("data", .bytes b tb), ("first", .int fi tf), ("pairs", .ref l)] := ⟨⟩
  have hne : x ≠ dx := instne O
  k_dflt walk_at "my enter"
  k_dflt walk_at "my steps"
  exact ⟨rfl, _, _, _, rfl⟩
theorem ln_69 : True := by
  k_with "my call" => (((with_reducible show wpAny _ _ (call (Value.ref 738) [Value.bytes _ _, Value.int _ _, Value.ref _]) _ _ _); k_dflt (refine' useN3 (fun x dx => opened_init_ct _ x dx) ?q69zM ?q69zB ?q69zF ?q69zX ?q69zN ?q69zhm ?q69zhi ?q69zhf (fun _ _ => trivial) ?_ rfl rfl; (case q69zM => assumption); (case q69zB => assumption); (case q69zF => k_asm); (case q69zX => k_asm); (case q69zN => k_asm); (case q69zhm => k_is); (case q69zhi => k_is); (case q69zhf => k_is)); walk_at "tinN"; intro _ _ _ _; walk_at "tout"; (try k_sweep)))
  k_with "my call" => (((with_reducible show wpAny _ _ (call (Value.ref 702) [Value.bytes _ _, Value.int _ _, Value.int _ _]) _ _ _); k_dflt (refine' useE (read_pairs_ct _ ?q70zhk ?q70zhz ?q70zhe ?q70zhc ?q70zhL ?q70zhA ?q70zhm) ?q70zM ?q70zB ?q70zF ?q70zN (List.forall_mem_nil _) Pick.all trivial ?_ ?_ rfl rfl; (case q70zM => assumption); (case q70zB => assumption); (case q70zF => k_asm); (case q70zN => k_asm); (case q70zhk => assumption); (case q70zhz => assumption); (case q70zhe => omega); (case q70zhc => assumption); (case q70zhL => assumption); (case q70zhA => assumption); (case q70zhm => assumption)); (first
      | (intro _ _ _ _ _ _ ho' q'; clear ho'; obtain ⟨_, _, _, _, rfl, _, rfl⟩ := q'; (rename News _ _ _ _ => N'; try simp only [List.nil_append, List.cons_append, List.append_nil] at N'); (try k_sweep))
      | (intro _ _ _ _ _))))
  trivial
theorem open_octets_ct (n : Nat) (hk : KBw.bInts b = ks) (hz : ks.length ≤ 16777216) (hc : ∀ x ∈ ks.take f, x ≠ 37) (hL : f ≤ ks.length → Lead ps (ks.take f)) (hA : Asc none ps) (hm : mm ≤ 1000) :
    FunE prog w 749 (n + 5) [.bytes b tb, .int f tf, .int mm tm] (fun _ => True) []
      (fun v' news' _ => f ≤ ks.length ∧ mm ≤ ps.length ∧ ∃ x dx k1 k2 k3 l qs k, v' = .ref x ∧ qs.map prOf = ps.take mm ∧ news' = (x, instObj 738 dx) :: (dx, opD w.params k1 k2 k3 b tb f tf l) :: (l, listOf (pRefs qs).toArray k) :: qs.map pObj)
      (ks.length < f ∨ ps.length < mm) := by
  intro A base l₀ s R M O _ ret bad
  have bd : Bd [("data", .bytes b tb), ("first", .int f tf), ("many", .int mm tm)] := ⟨⟩
  by_cases hf : ks.length < f
  · k_dflt walk_at "my enter"
    k_dflt walk_at "my steps"
    all_goals exact .inl hf
  · have hL' := hL (by omega)
    k_dflt walk_at "my enter"
    k_dflt walk_at "my steps"
    · exact ⟨by omega, by assumption, iE8 _ _ _ _ _ _ _ _ (iA3 rfl (by assumption) rfl)⟩
    · exact .inr (by assumption)
end
theorem rs_C14 : True := by
  w_top off
  trivial
noncomputable abbrev nameD (P : Params) (k : Tok) (x : Str) (t : Tok) : Obj := dictOf [⟨PyData.keyHash P "text", .str "text" k, .str x t⟩] 1
noncomputable abbrev strmD (P : Params) (k1 k2 : Tok) (hd : Addr) (b : Array UInt8) (tb : Tok) : Obj := dictOf [⟨PyData.keyHash P "head", .str "head" k1, .ref hd⟩, ⟨PyData.keyHash P "octets", .str "octets" k2, .bytes b tb⟩] 2
noncomputable abbrev refD (P : Params) (k1 k2 : Tok) (n : Int) (tn : Tok) (g : Int) (tg : Tok) : Obj := dictOf [⟨PyData.keyHash P "number", .str "number" k1, .int n tn⟩, ⟨PyData.keyHash P "generation", .str "generation" k2, .int g tg⟩] 2
inductive VD
  | none
  | int (i : Int) (t : Tok)
  | bool (b : Bool)
  | name (x dx : Addr) (k : Tok) (s : Str) (t : Tok)
  | strm (x dx : Addr) (k1 k2 : Tok) (hd : Addr) (b : Array UInt8) (tb : Tok)
  | refr (x dx : Addr) (k1 k2 : Tok) (n : Int) (tn : Tok) (g : Int) (tg : Tok)
noncomputable def VD.val : VD → Value
  | .none => .none
  | .int i t => .int i t
  | .bool b => .bool b
  | .name x .. => .ref x
  | .strm x .. => .ref x
  | .refr x .. => .ref x
noncomputable def VD.at_ (P : Params) (h : Heap) : VD → Prop
  | .name x dx k s t => h.get? x = some (instObj 332 dx) ∧ h.get? dx = some (nameD P k s t)
  | .strm x dx k1 k2 hd b tb => h.get? x = some (instObj 375 dx) ∧ h.get? dx = some (strmD P k1 k2 hd b tb)
  | .refr x dx k1 k2 n tn g tg => h.get? x = some (instObj 403 dx) ∧ h.get? dx = some (refD P k1 k2 n tn g tg)
  | _ => True
noncomputable def VD.kind : VD → Str
  | .none => "null"
  | .int .. => "int"
  | .bool _ => "truth"
  | .name .. => "name"
  | .strm .. => "stream"
  | .refr .. => "ref"
theorem VD.keeps {P : Params} {h h' : Heap} {v : VD} (a : v.at_ P h) (k : ∀ b o, h.get? b = some o → h'.get? b = some o) : v.at_ P h' := by
  cases v <;> first | exact trivial | exact ⟨k _ _ a.1, k _ _ a.2⟩
section
variable {prog : Program} {w : World}
theorem kind_of_ct (n : Nat) (v : VD) :
    Fun prog w 414 n [v.val] (fun h => v.at_ w.params h) [] (fun v' news' _ => news' = [] ∧ ∃ t, v' = .str v.kind t) := by
  cases v
  all_goals
    intro A base l s R M O hP ret
    (try unfold VD.val)
  case none =>
    have bd : Bd [("value", .none)] := ⟨⟩
    k_dflt walk_at "my enter"
    k_dflt walk_at "my steps"
    exact ⟨rfl, _, rfl⟩
  case int i t =>
    have bd : Bd [("value", .int i t)] := ⟨⟩
    k_dflt walk_at "my enter"
    k_dflt walk_at "my steps"
    exact ⟨rfl, _, rfl⟩
  case bool b =>
    have bd : Bd [("value", .bool b)] := ⟨⟩
    k_dflt walk_at "my enter"
    k_dflt walk_at "my steps"
    exact ⟨rfl, _, rfl⟩
  case name x dx k s t =>
    have bd : Bd [("value", .ref x)] := ⟨⟩
    k_dflt walk_at "my enter"
    rename Kg _ _ _ => kg
    obtain ⟨hx, hd⟩ := VD.keeps hP kg.keeps
    k_dflt walk_at "my steps"
    exact ⟨rfl, _, rfl⟩
  case strm x dx k1 k2 hd b tb =>
    have bd : Bd [("value", .ref x)] := ⟨⟩
    k_dflt walk_at "my enter"
    rename Kg _ _ _ => kg
    obtain ⟨hx, hd⟩ := VD.keeps hP kg.keeps
    k_dflt walk_at "my steps"
    exact ⟨rfl, _, rfl⟩
  case refr x dx k1 k2 n tn g tg =>
    have bd : Bd [("value", .ref x)] := ⟨⟩
    k_dflt walk_at "my enter"
    rename Kg _ _ _ => kg
    obtain ⟨hx, hd⟩ := VD.keeps hP kg.keeps
    k_dflt walk_at "my steps"
    exact ⟨rfl, _, rfl⟩
end
theorem rs_C15 : True := by
  w_top off
  trivial
noncomputable abbrev shD (P : Params) (k1 k2 : Tok) (T T2 : Addr) : Obj := dictOf [⟨PyData.keyHash P "table", .str "table" k1, .ref T⟩, ⟨PyData.keyHash P "trailer", .str "trailer" k2, .ref T2⟩] 2
structure ShAt (prog : Program) (w : World) (h : Heap) (S dS T T2 : Addr) (k1 k2 : Tok) (tk : List (Int × Value)) : Prop where
  hS : h.get? S = some (instObj 512 dS)
  hd : h.get? dS = some (shD w.params k1 k2 T T2)
  hT : h.DictOf (intKind prog w) T tk
  lo : (T == sysModules) = false
theorem dictOf_keeps {prog : Program} {w : World} {K : Type} [DecidableEq K] {knd : KeyKind prog w K} {h h' : Heap} {d : Addr} {kvs : List (K × Value)} (x : h.DictOf knd d kvs) (k : ∀ b o, h.get? b = some o → h'.get? b = some o) : h'.DictOf knd d kvs := by
  obtain ⟨o, ho, hd⟩ := Heap.dictOf_iff.mp x
  exact Heap.dictOf_iff.mpr ⟨o, k _ _ ho, hd⟩
theorem ShAt.keeps {prog : Program} {w : World} {h h' : Heap} {S dS T T2 : Addr} {k1 k2 : Tok} {tk : List (Int × Value)} (x : ShAt prog w h S dS T T2 k1 k2 tk) (k : ∀ b o, h.get? b = some o → h'.get? b = some o) : ShAt prog w h' S dS T T2 k1 k2 tk :=
  ⟨k _ _ x.hS, k _ _ x.hd, dictOf_keeps x.hT k, x.lo⟩
theorem x12_6 {α1 α2 α3 α4 α5 α6 α7 α8 α9 α10 α11 α12 : Type} {p1 p2 p3 p4 p5 p6 : α1 → α2 → α3 → α4 → α5 → α6 → α7 → α8 → α9 → α10 → α11 → α12 → Prop} {C : Prop} (h : ∃ a1 a2 a3 a4 a5 a6 a7 a8 a9 a10 a11 a12, p1 a1 a2 a3 a4 a5 a6 a7 a8 a9 a10 a11 a12 ∧ p2 a1 a2 a3 a4 a5 a6 a7 a8 a9 a10 a11 a12 ∧ p3 a1 a2 a3 a4 a5 a6 a7 a8 a9 a10 a11 a12 ∧ p4 a1 a2 a3 a4 a5 a6 a7 a8 a9 a10 a11 a12 ∧ p5 a1 a2 a3 a4 a5 a6 a7 a8 a9 a10 a11 a12 ∧ p6 a1 a2 a3 a4 a5 a6 a7 a8 a9 a10 a11 a12) (k : ∀ a1 a2 a3 a4 a5 a6 a7 a8 a9 a10 a11 a12, p1 a1 a2 a3 a4 a5 a6 a7 a8 a9 a10 a11 a12 → p2 a1 a2 a3 a4 a5 a6 a7 a8 a9 a10 a11 a12 → p3 a1 a2 a3 a4 a5 a6 a7 a8 a9 a10 a11 a12 → p4 a1 a2 a3 a4 a5 a6 a7 a8 a9 a10 a11 a12 → p5 a1 a2 a3 a4 a5 a6 a7 a8 a9 a10 a11 a12 → p6 a1 a2 a3 a4 a5 a6 a7 a8 a9 a10 a11 a12 → C) : C :=
  h.elim fun a1 h => h.elim fun a2 h => h.elim fun a3 h => h.elim fun a4 h => h.elim fun a5 h => h.elim fun a6 h => h.elim fun a7 h => h.elim fun a8 h => h.elim fun a9 h => h.elim fun a10 h => h.elim fun a11 h => h.elim fun a12 h => k a1 a2 a3 a4 a5 a6 a7 a8 a9 a10 a11 a12 h.1 h.2.1 h.2.2.1 h.2.2.2.1 h.2.2.2.2.1 h.2.2.2.2.2
theorem x12_7 {α1 α2 α3 α4 α5 α6 α7 α8 α9 α10 α11 α12 : Type} {p1 p2 p3 p4 p5 p6 p7 : α1 → α2 → α3 → α4 → α5 → α6 → α7 → α8 → α9 → α10 → α11 → α12 → Prop} {C : Prop} (h : ∃ a1 a2 a3 a4 a5 a6 a7 a8 a9 a10 a11 a12, p1 a1 a2 a3 a4 a5 a6 a7 a8 a9 a10 a11 a12 ∧ p2 a1 a2 a3 a4 a5 a6 a7 a8 a9 a10 a11 a12 ∧ p3 a1 a2 a3 a4 a5 a6 a7 a8 a9 a10 a11 a12 ∧ p4 a1 a2 a3 a4 a5 a6 a7 a8 a9 a10 a11 a12 ∧ p5 a1 a2 a3 a4 a5 a6 a7 a8 a9 a10 a11 a12 ∧ p6 a1 a2 a3 a4 a5 a6 a7 a8 a9 a10 a11 a12 ∧ p7 a1 a2 a3 a4 a5 a6 a7 a8 a9 a10 a11 a12) (k : ∀ a1 a2 a3 a4 a5 a6 a7 a8 a9 a10 a11 a12, p1 a1 a2 a3 a4 a5 a6 a7 a8 a9 a10 a11 a12 → p2 a1 a2 a3 a4 a5 a6 a7 a8 a9 a10 a11 a12 → p3 a1 a2 a3 a4 a5 a6 a7 a8 a9 a10 a11 a12 → p4 a1 a2 a3 a4 a5 a6 a7 a8 a9 a10 a11 a12 → p5 a1 a2 a3 a4 a5 a6 a7 a8 a9 a10 a11 a12 → p6 a1 a2 a3 a4 a5 a6 a7 a8 a9 a10 a11 a12 → p7 a1 a2 a3 a4 a5 a6 a7 a8 a9 a10 a11 a12 → C) : C :=
  h.elim fun a1 h => h.elim fun a2 h => h.elim fun a3 h => h.elim fun a4 h => h.elim fun a5 h => h.elim fun a6 h => h.elim fun a7 h => h.elim fun a8 h => h.elim fun a9 h => h.elim fun a10 h => h.elim fun a11 h => h.elim fun a12 h => k a1 a2 a3 a4 a5 a6 a7 a8 a9 a10 a11 a12 h.1 h.2.1 h.2.2.1 h.2.2.2.1 h.2.2.2.2.1 h.2.2.2.2.2.1 h.2.2.2.2.2.2
section
variable {prog : Program} {w : World} {A : Around} {E : Value → Shared → Prop} {s : Shared} {g : Heap} {L l : Addr} {m : Str → Option Value} {K : Type} [DecidableEq K] {knd : KeyKind prog w K} {d : Addr} {kvs : List (K × Value)} {k : K} {key : Value}
theorem method_ro {name : Str} {id : String} {pl : Sem Bool} {Q : Value × List Value → Shared → Prop} (F : Fr g L s.heap m) (hd : g.DictOf knd d kvs) (slot : Slot "dict" name id) (hty : typeOf (.builtin id) = pure (.type "method_descriptor"))
    (h : Q (.builtin id, [.ref d]) s) : wpAny (model prog w) A (getMethod (.ref d) name pl) Q E s := by
  have hD := dictOf_keeps hd F.keep
  exact getMethod_builtin hD.typeIs PySem.F.plainAttrs_dict slot hty hD.mapOf.noDict h
theorem get1_ro {v : Value} {Q : Value → Shared → Prop} (F : Fr g L s.heap m) (hd : g.DictOf knd d kvs) (lo : (d == sysModules) = false) (hkey : knd.is k key = true) (hv : (valueAt kvs k).getD .none = v) (h : Q v { s with toks := s.toks + 1 }) :
    wpAny (model prog w) A (call (.builtin "dict.get") [.ref d, key]) Q E s := by
  have hD := dictOf_keeps hd F.keep
  exact call_meetsIn PySem.F.slot_dict_get hD.typeIs PySem.F.entry_dict_get (PySem.F.args_dict_get_2 _ _) (meets_dict_get knd d hkey lo) ⟨_, hD.mapOf, by rw [hv]; exact h⟩
theorem get2_ro {v dflt : Value} {Q : Value → Shared → Prop} (F : Fr g L s.heap m) (hd : g.DictOf knd d kvs) (lo : (d == sysModules) = false) (hkey : knd.is k key = true) (hv : valueAt kvs k = some v) (h : Q v { s with toks := s.toks + 1 }) :
    wpAny (model prog w) A (call (.builtin "dict.get") [.ref d, key, dflt]) Q E s := by
  have hD := dictOf_keeps hd F.keep
  exact call_meetsIn PySem.F.slot_dict_get hD.typeIs PySem.F.entry_dict_get (PySem.F.args_dict_get_3 _ _ _) (meets_dict_get_default knd d hkey lo dflt) ⟨_, hD.mapOf, by rw [hv]; exact h⟩
end
theorem ln_71 : True := by
  k_with "getMethod ref" => ((k_here; (with_reducible show wpAny _ _ (getMethod (Value.ref _) (Str.ofString "get") _) _ _ _); k_dflt (first | (refine' method_ro (knd := intKind _ _) ?q71zF ?q71zd PySem.F.slot_dict_get PySem.F.type_dict_get ?_; (case q71zF => k_asm); (case q71zd => assumption)) | (refine' method_ro (knd := strKind _ _) ?q71zF ?q71zd PySem.F.slot_dict_get PySem.F.type_dict_get ?_; (case q71zF => k_asm); (case q71zd => assumption)))))
  k_with "call builtin:dict.get cons" => ((k_here; k_dflt (first
      | (refine' get2_ro (knd := intKind _ _) ?q72zF ?q72zd ?q72zl ?q72zk ?q72zv ?_; (case q72zF => k_asm); (case q72zd => assumption); (case q72zl => assumption); (case q72zk => exact intKind_is _ _ _ _); (case q72zv => assumption))
      | (refine' get1_ro (knd := strKind _ _) ?q72zF ?q72zd ?q72zl ?q72zk ?q72zv ?_; (case q72zF => k_asm); (case q72zd => assumption); (case q72zl => assumption); (case q72zk => exact strKind_is _ _ _ _); (case q72zv => assumption)))))
  trivial
section
variable {prog : Program} {w : World} {S dS T T2 : Addr} {sk1 sk2 : Tok} {tk : List (Int × Value)}
noncomputable def VD.plain : VD → Bool
  | .refr .. => false
  | _ => true
noncomputable def Fetch (P : Params) (h : Heap) (tk : List (Int × Value)) (v u : VD) : Prop :=
  (v = u ∧ u.plain = true) ∨ ∃ x dx k1 k2 n tn g tg tp g2 tg2, ∃ f : VD, v = .refr x dx k1 k2 n tn g tg ∧ valueAt tk n = some (.ref tp) ∧ IsTup h tp [.int g2 tg2, f.val].toArray ∧ f.plain = true ∧ f.at_ P h ∧ ((g2 = g ∧ u = f) ∨ (g2 ≠ g ∧ u = .none))
theorem Fetch.keeps {P : Params} {h h' : Heap} {tk : List (Int × Value)} {v u : VD} (x : Fetch P h tk v u) (k : ∀ b o, h.get? b = some o → h'.get? b = some o) : Fetch P h' tk v u := by
  rcases x with x | ⟨x, dx, k1, k2, n, tn, g, tg, tp, g2, tg2, f, e1, e2, e3, e4, e5, e6⟩
  · exact .inl x
  · exact .inr ⟨x, dx, k1, k2, n, tn, g, tg, tp, g2, tg2, f, e1, e2, e3.keeps k, e4, VD.keeps e5 k, e6⟩
theorem Fetch.of_plain {P : Params} {h : Heap} {tk : List (Int × Value)} {v u : VD} (x : Fetch P h tk v u) (hp : v.plain = true) : v = u := by
  rcases x with x | ⟨x, dx, k1, k2, n, tn, g, tg, tp, g2, tg2, f, rfl, _⟩
  · exact x.1
  · cases hp
theorem Fetch.way {P : Params} {h : Heap} {tk : List (Int × Value)} {v u v' : VD} {i : Nat} (hF : Fetch P h tk v u) (hc : (i = 0 ∧ v' = v) ∨ (i = 1 ∧ v'.plain = true ∧ v' = u)) :
    v'.plain = true ∨ ∃ x dx k1 k2 n tn g tg tp g2 tg2, ∃ f : VD, v' = .refr x dx k1 k2 n tn g tg ∧ valueAt tk n = some (.ref tp) ∧ IsTup h tp [.int g2 tg2, f.val].toArray ∧ f.plain = true ∧ f.at_ P h ∧ ((g2 = g ∧ u = f) ∨ (g2 ≠ g ∧ u = .none)) ∧ i = 0 := by
  rcases hc with ⟨hi0, he⟩ | ⟨_, hpp, _⟩
  · rcases hF with ⟨e, hpp⟩ | H
    · exact .inl (by rw [he, e]; exact hpp)
    · refine x12_6 H ?_
      intro x dx k1 k2 n tn g tg tp g2 tg2 f e3 e4 e5 e6 e7 e8
      exact .inr ⟨x, dx, k1, k2, n, tn, g, tg, tp, g2, tg2, f, he.trans e3, e4, e5, e6, e7, e8, hi0⟩
  · exact .inl hpp
theorem fetch_ct (n : Nat) (v u : VD) :
    Fun prog w 448 n [.ref S, v.val] (fun h => ShAt prog w h S dS T T2 sk1 sk2 tk ∧ v.at_ w.params h ∧ Fetch w.params h tk v u) [] (fun v' news' _ => news' = [] ∧ v' = u.val) := by
  refine Fun.sub ?_
  intro A base l s R M O hP ret
  have bd : Bd [("self", .ref S), ("value", v.val)] := ⟨⟩
  k_dflt walk_at "my enter"
  rename Kg _ _ _ => kg
  have hP := And.intro (hP.1.keeps kg.keeps) (And.intro (VD.keeps hP.2.1 kg.keeps) (hP.2.2.keeps kg.keeps))
  obtain ⟨⟨hS, hd, hT, lo⟩, hv, hF⟩ := hP
  k_dflt walk_at "my steps"
  rename Fr _ _ _ _ => F
  k_dflt (refine' For_invVF F ?k1 ?k2 ?_; (case k1 => exact rfl); (case k2 => exact rfl))
  k_dflt walk_at "my steps"
  rename IsRange _ _ _ _ _ _ _ _ => hr
  rename Fr _ _ _ _ => F
  rename News _ _ _ _ => N
  refine iter_range_my (n := 30) (fun i m nx => nx = [] ∧ m "self" = some (.ref S) ∧ ∃ v' : VD, m "here" = some v'.val ∧ v'.at_ w.params _ ∧ ((i = 0 ∧ v' = v) ∨ (i = 1 ∧ v'.plain = true ∧ v' = u))) M.handledD hr (range0_small (n := 30) (by decide)) (range0_size (n := 30)) F N ⟨rfl, rfl, v, rfl, hv, .inl ⟨rfl, rfl⟩⟩ ?_ ?_
  · intro i t m₁ news₁ h tk' I oI hi HJ
    refine a3 HJ ?_
    clear HJ
    rintro rfl e1 HJ
    refine x1_3 HJ ?_
    clear HJ
    rintro v' e2 hv' hcase
    intro hne F₁ N₁
    clear F N hr
    have F₂ := Fr.put (Fr.put F₁ "self" e1) "here" e2
    clear F₁
    have hu : v'.plain = true → v' = u := fun hp => by
      rcases hcase with ⟨_, rfl⟩ | ⟨_, _, rfl⟩
      · exact hF.of_plain hp
      · rfl
    have hk := hF.way hcase
    clear hcase hF
    rcases hk with hp | H
    · have hu := hu hp
      cases v'
      case refr => cases hp
      all_goals
        (try obtain ⟨hx, hdx⟩ := hv')
        (try k_fold)
        (try unfold VD.val at F₂)
        k_dflt walk_at "my steps"
        exact ⟨[], List.forall_mem_nil _, rfl, congrArg VD.val hu⟩
    · clear hu
      refine x12_7 H ?_
      clear H
      rintro x dx k1 k2 nn tn gg tg tp g2 tg2 f rfl e4 e5 e6 e7 e8 rfl
      obtain ⟨hx, hdx⟩ := hv'
      (try k_fold)
      unfold VD.val at F₂
      k_dflt walk_at "my steps"
      · refine ⟨[], List.forall_mem_nil _, rfl, ?_⟩
        rcases e8 with ⟨e, _⟩ | ⟨e, e9⟩
        · exact absurd e (by assumption)
        · rw [e9]; rfl
      · rename Fr _ _ _ _ => F'
        rename News _ _ _ _ => N'
        refine Turn.intro (nx := []) F' N' (.tail _ (.head _)) (fun p hp => nomatch hp) (fun p hp => nomatch hp) ⟨rfl, rfl, f, rfl, e7, .inr ⟨by trivial, e6, ?_⟩⟩
        rcases e8 with ⟨_, e9⟩ | ⟨e, _⟩
        · exact e9.symm
        · exact absurd (by assumption) e
  · rintro m₁ news₁ h tk' ⟨rfl, e1, v', e2, hv', hcase⟩
    omega
end
theorem rs_C16 : True := by
  w_top off
  trivial
theorem Fetch.at_ {P : Params} {h : Heap} {tk : List (Int × Value)} {v u : VD} (x : Fetch P h tk v u) (a : v.at_ P h) : u.at_ P h := by
  rcases x with ⟨rfl, _⟩ | ⟨x, dx, k1, k2, n, tn, g, tg, tp, g2, tg2, f, rfl, _, _, _, e5, ⟨_, rfl⟩ | ⟨_, rfl⟩⟩
  · exact a
  · exact e5
  · exact trivial
structure Entry (prog : Program) (w : World) (h : Heap) (tk : List (Int × Value)) (hd : Addr) (kvs : List (Str × Value)) (key : Str) (v u : VD) : Prop where
  d : h.DictOf (strKind prog w) hd kvs
  lo : (hd == sysModules) = false
  e : (valueAt kvs key).getD .none = v.val
  a : v.at_ w.params h
  f : Fetch w.params h tk v u
theorem Entry.keeps {prog : Program} {w : World} {h h' : Heap} {tk : List (Int × Value)} {hd : Addr} {kvs : List (Str × Value)} {key : Str} {v u : VD} (x : Entry prog w h tk hd kvs key v u) (k : ∀ b o, h.get? b = some o → h'.get? b = some o) : Entry prog w h' tk hd kvs key v u :=
  ⟨dictOf_keeps x.d k, x.lo, x.e, VD.keeps x.a k, x.f.keeps k⟩
section
variable {prog : Program} {w : World} {S dS T T2 : Addr} {sk1 sk2 : Tok} {tk : List (Int × Value)} {hd : Addr} {kvs : List (Str × Value)} {key : Str} {v u : VD}
theorem ln_73 : True := by
  k_with "my call" => (((with_reducible show wpAny _ _ (call (Value.ref 448) [Value.ref _, _]) _ _ _); k_dflt (refine' useA0 (fetch_ct _ _ _) ?q73zM ?q73zB ?q73zF ?q73zN (List.forall_mem_nil _) Pick.all ?q73zhP ?_ rfl rfl; (case q73zM => assumption); (case q73zB => assumption); (case q73zF => k_asm); (case q73zN => k_asm); (case q73zhP => exact ⟨ShAt.keeps (by assumption) (Fr.keep (by k_asm)), VD.keeps (by assumption) (Fr.keep (by k_asm)), Fetch.keeps (by assumption) (Fr.keep (by k_asm))⟩)); intro _ _ _ _; walk_at "tout"; (try k_sweep)))
  trivial
theorem get_ct (n : Nat) (t : Tok) :
    Fun prog w 455 (n + 1) [.ref S, .ref hd, .str key t] (fun h => ShAt prog w h S dS T T2 sk1 sk2 tk ∧ Entry prog w h tk hd kvs key v u) [] (fun v' news' _ => news' = [] ∧ v' = u.val) := by
  intro A base l s R M O hP ret
  have bd : Bd [("self", .ref S), ("head", .ref hd), ("key", .str key t)] := ⟨⟩
  k_dflt walk_at "my enter"
  rename Kg _ _ _ => kg
  have hP := And.intro (hP.1.keeps kg.keeps) (hP.2.keeps kg.keeps)
  obtain ⟨hSh, hE⟩ := hP
  have hS := hSh.hS
  have hdS := hSh.hd
  obtain ⟨eD, eLo, eE, eA, eF⟩ := hE
  k_dflt walk_at "my steps"
  exact ⟨rfl, rfl⟩
end
theorem ln_74 : True := by
  k_with "my call" => (((with_reducible show wpAny _ _ (call (Value.ref 455) [Value.ref _, Value.ref _, Value.str _ _]) _ _ _); k_dflt (refine' useA0 (get_ct _ _) ?q74zM ?q74zB ?q74zF ?q74zN (List.forall_mem_nil _) Pick.all ?q74zhP ?_ rfl rfl; (case q74zM => assumption); (case q74zB => assumption); (case q74zF => k_asm); (case q74zN => k_asm); (case q74zhP => exact ⟨ShAt.keeps (by assumption) (Fr.keep (by k_asm)), Entry.keeps (by assumption) (Fr.keep (by k_asm))⟩)); intro _ _ _ _; walk_at "tout"; (try dsimp only [VD.val]); (try k_sweep)))
  k_with "my call" => (((with_reducible show wpAny _ _ (call (Value.ref 414) [VD.val _]) _ _ _); k_dflt (refine' useA1 (kind_of_ct _ _) ?q75zM ?q75zB ?q75zF ?q75zN (List.forall_mem_nil _) Pick.all ?q75zhP ?_ rfl rfl; (case q75zM => assumption); (case q75zB => assumption); (case q75zF => k_asm); (case q75zN => k_asm); (case q75zhP => exact VD.keeps (by assumption) (Fr.keep (by k_asm)))); intro _ _ _ _ _; walk_at "tout"; (try k_sweep)))
  trivial
section
variable {prog : Program} {w : World}
theorem kind_of_strm (n : Nat) (x dx : Addr) (k1 k2 : Tok) (hd : Addr) (b : Array UInt8) (tb : Tok) : Fun prog w 414 n [.ref x] (fun h => (VD.strm x dx k1 k2 hd b tb).at_ w.params h) [] (fun v' news' _ => news' = [] ∧ ∃ t, v' = .str "stream" t) := kind_of_ct n (.strm x dx k1 k2 hd b tb)
theorem kind_of_none (n : Nat) : Fun prog w 414 n [.none] (fun h => (VD.none).at_ w.params h) [] (fun v' news' _ => news' = [] ∧ ∃ t, v' = .str "null" t) := kind_of_ct n .none
theorem kind_of_bool (n : Nat) (b : Bool) : Fun prog w 414 n [.bool b] (fun h => (VD.bool b).at_ w.params h) [] (fun v' news' _ => news' = [] ∧ ∃ t, v' = .str "truth" t) := kind_of_ct n (.bool b)
theorem kind_of_name (n : Nat) (x dx : Addr) (k : Tok) (s : Str) (t : Tok) : Fun prog w 414 n [.ref x] (fun h => (VD.name x dx k s t).at_ w.params h) [] (fun v' news' _ => news' = [] ∧ ∃ t, v' = .str "name" t) := kind_of_ct n (.name x dx k s t)
theorem kind_of_refr (n : Nat) (x dx : Addr) (k1 k2 : Tok) (m : Int) (tm : Tok) (g : Int) (tg : Tok) : Fun prog w 414 n [.ref x] (fun h => (VD.refr x dx k1 k2 m tm g tg).at_ w.params h) [] (fun v' news' _ => news' = [] ∧ ∃ t, v' = .str "ref" t) := kind_of_ct n (.refr x dx k1 k2 m tm g tg)
end
theorem ln_76 : True := by
  k_with "my call" => (((with_reducible show wpAny _ _ (call (Value.ref 414) [Value.ref _]) _ _ _); k_dflt (first
      | (refine' use (kind_of_strm _ _ _ _ _ _ _ _) ?q76zM ?q76zB ?q76zF ?q76zN (List.forall_mem_nil _) Pick.all ?q76zhP ?_ rfl rfl; (case q76zhP => exact VD.keeps (by assumption) (Fr.keep (by k_asm))); (case q76zM => assumption); (case q76zB => assumption); (case q76zF => k_asm); (case q76zN => k_asm))
      | (refine' use (kind_of_name _ _ _ _ _ _) ?q76zM ?q76zB ?q76zF ?q76zN (List.forall_mem_nil _) Pick.all ?q76zhP ?_ rfl rfl; (case q76zhP => exact VD.keeps (by assumption) (Fr.keep (by k_asm))); (case q76zM => assumption); (case q76zB => assumption); (case q76zF => k_asm); (case q76zN => k_asm))
      | (refine' use (kind_of_refr _ _ _ _ _ _ _ _ _) ?q76zM ?q76zB ?q76zF ?q76zN (List.forall_mem_nil _) Pick.all ?q76zhP ?_ rfl rfl; (case q76zhP => exact VD.keeps (by assumption) (Fr.keep (by k_asm))); (case q76zM => assumption); (case q76zB => assumption); (case q76zF => k_asm); (case q76zN => k_asm))); intro _ _ _ _ _ _ ho' q'; clear ho'; obtain ⟨rfl, _, rfl⟩ := q'; walk_at "tout"; (try k_sweep)))
  k_with "my call" => (((with_reducible show wpAny _ _ (call (Value.ref 414) [_]) _ _ _); k_dflt (first
      | (refine' use (kind_of_none _) ?q77zM ?q77zB ?q77zF ?q77zN (List.forall_mem_nil _) Pick.all trivial ?_ rfl rfl; (case q77zM => assumption); (case q77zB => assumption); (case q77zF => k_asm); (case q77zN => k_asm))
      | (refine' use (kind_of_bool _ _) ?q77zM ?q77zB ?q77zF ?q77zN (List.forall_mem_nil _) Pick.all trivial ?_ rfl rfl; (case q77zM => assumption); (case q77zB => assumption); (case q77zF => k_asm); (case q77zN => k_asm))); intro _ _ _ _ _ _ ho' q'; clear ho'; obtain ⟨rfl, _, rfl⟩ := q'; walk_at "tout"; (try k_sweep)))
  trivial
noncomputable def VD.isOs : VD → Bool
  | .name _ _ _ s _ => s == Str.ofString "ObjStm"
  | _ => false
section
variable {prog : Program} {w : World} {S dS T T2 : Addr} {sk1 sk2 : Tok} {tk : List (Int × Value)} {hd : Addr} {kvs : List (Str × Value)} {key : Str} {v u : VD}
theorem is_os_ct (n : Nat) {x dx : Addr} {k1 k2 : Tok} {b : Array UInt8} {tb : Tok} (hu : u = .none ∨ ∃ x dx k s t, u = .name x dx k s t) :
    Fun prog w 681 (n + 2) [.ref S, .ref x] (fun h => ShAt prog w h S dS T T2 sk1 sk2 tk ∧ (VD.strm x dx k1 k2 hd b tb).at_ w.params h ∧ Entry prog w h tk hd kvs "Type" v u) [] (fun v' news' _ => news' = [] ∧ v' = .bool u.isOs) := by
  intro A base l s R M O hP ret
  have bd : Bd [("shelf", .ref S), ("value", .ref x)] := ⟨⟩
  k_dflt walk_at "my enter"
  rename Kg _ _ _ => kg
  have hP := And.intro (hP.1.keeps kg.keeps) (And.intro (VD.keeps hP.2.1 kg.keeps) (hP.2.2.keeps kg.keeps))
  obtain ⟨hSh, hX, hE⟩ := hP
  have hS := hSh.hS
  have hdS := hSh.hd
  have hx1 := hX.1
  have hx2 := hX.2
  have hA := hE.f.at_ hE.a
  rcases hu with rfl | ⟨x', dx', k', s', t', rfl⟩
  · unfold VD.at_ at hA
    k_dflt walk_at "my steps"
    exact ⟨rfl, rfl⟩
  · obtain ⟨ha1, ha2⟩ := id hA
    k_dflt walk_at "my steps"
    exact ⟨rfl, rfl⟩
noncomputable def VD.cnt : VD → Option Nat
  | .int i _ => if 0 ≤ i then some i.toNat else Option.none
  | _ => Option.none
theorem add_strk {A : Around} {E : Value → Shared → Prop} {s : Shared} {x y : Str} {t u : Tok} {Q : Value → Shared → Prop} (hx : x.length ≤ 100000) (hy : y.length ≤ 100000) (h : ∀ t' tk, Q (.str (x ++ y) t') { s with toks := tk }) : wpAny (model prog w) A (binaryOp .Add (.str x t) (.str y u)) Q E s :=
  PyProof.Rows.add_str h (by rw [sizeLine_eq]; omega)
theorem ln_78 : True := by
  k_with "binaryOp Add str str" => ((k_here; (refine' add_strk ?q78zx ?q78zy ?_; (case q78zx => first | assumption | decide); (case q78zy => first | assumption | decide)); intro _ _))
  trivial
theorem count_told_ct (n : Nat) (t : Tok) (hkey : key.length ≤ 100000) (hu : u = .none ∨ (∃ i t, u = .int i t) ∨ (∃ b, u = .bool b) ∨ ∃ x dx k s t, u = .name x dx k s t) :
    FunE prog w 688 (n + 3) [.ref S, .ref hd, .str key t] (fun h => ShAt prog w h S dS T T2 sk1 sk2 tk ∧ Entry prog w h tk hd kvs key v u) [] (fun v' news' _ => news' = [] ∧ ∃ (c : Nat) (t : Tok), v' = .int (c : Int) t ∧ u.cnt = some c)
      (u.cnt = none) := by
  intro A base l s R M O hP ret bad
  have bd : Bd [("shelf", .ref S), ("head", .ref hd), ("key", .str key t)] := ⟨⟩
  k_dflt walk_at "my enter"
  rename Kg _ _ _ => kg
  have hP := And.intro (hP.1.keeps kg.keeps) (hP.2.keeps kg.keeps)
  obtain ⟨hSh, hE⟩ := hP
  have hS := hSh.hS
  have hdS := hSh.hd
  have hA := hE.f.at_ hE.a
  rcases hu with rfl | ⟨i, ti, rfl⟩ | ⟨bb, rfl⟩ | ⟨x', dx', k', s', t', rfl⟩
  · unfold VD.at_ at hA
    k_dflt walk_at "my steps"
    exact rfl
  · unfold VD.at_ at hA
    k_dflt walk_at "my steps"
    · exact if_neg (by omega)
    · have h0 : 0 ≤ i := by omega
      obtain ⟨c, rfl⟩ := Int.eq_ofNat_of_zero_le h0
      exact ⟨rfl, c, _, rfl, by simp [VD.cnt]⟩
  · unfold VD.at_ at hA
    k_dflt walk_at "my steps"
    exact rfl
  · k_dflt walk_at "my steps"
    exact rfl
end
theorem rs_Lb : True := by
  w_top off
  trivial
theorem x3_6 {α1 α2 α3 : Type} {p1 p2 p3 p4 p5 p6 : α1 → α2 → α3 → Prop} {C : Prop} (h : ∃ a1 a2 a3, p1 a1 a2 a3 ∧ p2 a1 a2 a3 ∧ p3 a1 a2 a3 ∧ p4 a1 a2 a3 ∧ p5 a1 a2 a3 ∧ p6 a1 a2 a3) (k : ∀ a1 a2 a3, p1 a1 a2 a3 → p2 a1 a2 a3 → p3 a1 a2 a3 → p4 a1 a2 a3 → p5 a1 a2 a3 → p6 a1 a2 a3 → C) : C :=
  h.elim fun a1 h => h.elim fun a2 h => h.elim fun a3 h => k a1 a2 a3 h.1 h.2.1 h.2.2.1 h.2.2.2.1 h.2.2.2.2.1 h.2.2.2.2.2
section
variable {prog : Program} {w : World} {A : Around} {E : Value → Shared → Prop} {s : Shared} {h₀ : Heap} {L : Addr} {m : Str → Option Value} {env : Env}
noncomputable def SrcB (prog : Program) (w : World) (A : Around) (h₀ : Heap) (L : Addr) (m : Str → Option Value) (env : Env) (elt : PySem.Expr) (x : Str) (scope : Scope) (cl : List (Str × Addr)) (Fin : Shared → List Value → List (Addr × Obj) → Prop) (xv : Value) (s₁ : Shared) : Prop :=
  ∃ b tb news, xv = .bytes b tb ∧ A.handled = none ∧ Fr h₀ L s₁.heap m ∧ News h₀ L s₁.heap news ∧ b.size ≤ sizeLine ∧
    ∀ g, LCg.CompRest prog w A h₀ L m env elt x scope cl { s₁ with heap := g } (fun _ => True) (fun i v => ∃ c u, b[i]? = some c ∧ v = .int (c.toNat : Int) u) (Fin { s₁ with heap := g }) b.size 0 [] news
theorem ListComp_B {elt iter : PySem.Expr} {x : Str} {px : Pos} {scope : Scope} {cl : List (Str × Addr)} {pos : Pos} {Q : Value → Shared → Prop} (_F₀ : Fr h₀ L s.heap m)
    (hclos : closureFor scope env = pure cl) (hcell : ∀ y ∈ scope.names, y.2 ≠ .cell) (hkind : scope.kind = .function)
    (hnames : ∀ y ∈ scope.names, y.2 = .local → scope.names.lookup y.1 = some .local) (hx : scope.names.lookup x = some .local)
    (h : wpAny (model prog w) A (eval iter env) (SrcB prog w A h₀ L m env elt x scope cl (fun s₂ => LCg.FinE h₀ L m s₂ Q)) E s)
    (hs : ∀ x, foldedSetIterable iter env x = pure x := by intro _; rfl) :
    wpAny (model prog w) A (eval (.ListComp elt [⟨.Name x px, iter, [], 0⟩] scope pos) env) Q E s := by
  rw [eval_ListComp]
  refine wpAny_comprehension_free (use := none) rfl hs hclos hkind hnames (wpAny_mono h (fun xv s₁ h₁ => ?_) fun _ _ e => e)
  refine x3_6 h₁ ?_
  clear h₁
  rintro b tb news rfl hh F N hsz R
  refine KBw.pyIter_bytes ?_
  refine LCg.block_U (KBw.walks hh _ b tb) hsz (fun i h st => let ⟨o, ho, _⟩ := st; ⟨o, ho⟩) (fun i h h' o nw st e e' _ _ _ => ?_) hcell hkind hx ⟨_, Heap.get?_push_size _ rfl, rfl, rfl⟩ (fun b' hb => ?_)
    (F.keeps fun _ _ e => Heap.get?_push_of_some _ e) (N.grown fun _ _ e => Heap.get?_push_of_some _ e) (Nat.ne_of_lt F.ns.lt) (next_is_new F) (fun p hp => Nat.ne_of_lt (Heap.lt_size (N p hp).1)) trivial (R _) ?_
  · obtain ⟨o', q, r⟩ := st
    rw [e] at q; cases q
    exact ⟨o, e', r⟩
  · rw [List.mem_singleton.mp hb]
    show s₁.heap.objs.size < (s₁.heap.push _).objs.size
    rw [Heap.size_push]; exact Nat.lt_succ_self _
  · intro D C h tk m' ys news' F' N' o1 hn hC₀ hD₀ hCL hDL hCD offC fin
    refine ⟨m', hn, fun h'' hs'' => fin D h'' tk (F'.change hs'' hCL hC₀) (fun p hp => ?_) o1⟩
    refine ⟨hs''.extBut _ _ ?_ (N' p hp).1, (N' p hp).2⟩
    rcases List.mem_cons.mp hp with rfl | hp
    · exact Ne.symm hCD
    · exact offC p hp
end
section
variable {prog : Program} {w : World} {x dx hd S : Addr} {k1 k2 : Tok} {b : Array UInt8} {tb : Tok} {ks : List Int}
noncomputable def x1 (i : Int) : Int := Builtin.bitXor i 1
theorem x1_nat : ∀ n : Nat, n < 256 → (0 ≤ x1 (n : Int) ∧ x1 (n : Int) < 256) ∧ x1 (x1 (n : Int)) = (n : Int) := by decide +kernel
theorem x1_in {i : Int} (h : 0 ≤ i ∧ i < 256) : 0 ≤ x1 i ∧ x1 i < 256 := by
  have := (x1_nat i.toNat (by omega)).1
  rwa [show ((i.toNat : Nat) : Int) = i by omega] at this
theorem x1_x1 {i : Int} (h : 0 ≤ i ∧ i < 256) : x1 (x1 i) = i := by
  have := (x1_nat i.toNat (by omega)).2
  rwa [show ((i.toNat : Nat) : Int) = i by omega] at this
theorem x1_all {b : Array UInt8} {ks : List Int} (hk : KBw.bInts b = ks) : ∀ n ∈ ks.map x1, 0 ≤ n ∧ n < 256 := by
  intro n hn
  obtain ⟨k, hk', rfl⟩ := List.mem_map.mp hn
  exact x1_in (KBw.ints_in (hk ▸ hk'))
theorem x1_back {b : Array UInt8} {ks : List Int} (hk : KBw.bInts b = ks) : (ks.map x1).map x1 = ks := by
  rw [List.map_map]
  refine (List.map_congr_left fun k hk' => ?_).trans (List.map_id _)
  exact x1_x1 (KBw.ints_in (hk ▸ hk'))
theorem bInts_byteArr {ns : List Int} (h : ∀ n ∈ ns, 0 ≤ n ∧ n < 256) : KBw.bInts (byteArr ns) = ns := by
  unfold byteArr
  rw [KBw.ints_list, List.map_map]
  refine (List.map_congr_left fun k hk' => ?_).trans (List.map_id _)
  exact byte_back (h k hk').1 (h k hk').2
theorem ln_79 : True := by
  k_with "call type:bytes cons" => ((k_here; (with_reducible show wpAny _ _ (call (Value.type "bytes") [Value.ref _]) _ _ _); k_dflt (refine' KBa.make_K ?q79zF ?q79zN ?q79zhh ?q79zhl ?q79zhi ?q79zhr ?q79zhn ?_; (case q79zF => k_asm); (case q79zN => k_asm); (case q79zhh => exact Rm.handledD (by assumption)); (case q79zhl => is_list); (case q79zhi => assumption); (case q79zhr => assumption); (case q79zhn => assumption)); intro _ _ _ _ _ _; (try k_sweep)))
  trivial
theorem undo_ct (n : Nat) (hk : KBw.bInts b = ks) (hz : ks.length ≤ 16777216) :
    Fun prog w 792 n [.ref S, .ref x] (fun h => (VD.strm x dx k1 k2 hd b tb).at_ w.params h) [] (fun v' news' _ => news' = [] ∧ ∃ b' t, v' = .bytes b' t ∧ KBw.bInts b' = ks.map x1) := by
  refine Fun.sub ?_
  intro A base l s R M O hP ret
  have bd : Bd [("shelf", .ref S), ("stream", .ref x)] := ⟨⟩
  k_dflt walk_at "my enter"
  rename Kg _ _ _ => kg
  obtain ⟨hx, hd'⟩ := VD.keeps hP kg.keeps
  k_dflt walk_at "my steps"
  rename Fr _ _ _ _ => F
  k_dflt (refine' ListComp_B (_F₀ := F) ?k1 ?k2 ?k3 ?k4 ?k5 ?_; (case k1 => exact rfl); (case k2 => decide); (case k3 => exact rfl); (case k4 => decide); (case k5 => exact rfl))
  k_dflt walk_at "my steps"
  rename Fr _ _ _ _ => F
  rename News _ _ _ _ => N
  refine (iE3 _ _ _ (iA6 rfl M.handledD F N (by rw [sizeLine_eq, ← KBw.ints_length, hk]; exact hz) (fun g₁ => ?_)))
  refine comp_inv (fun i ys nw => nw = [] ∧ IntsAre ys ((ks.take i).map x1)) ⟨rfl, .nil⟩ ?_ ?_
  · rintro i ys nw v I oI C oC D m₂ h tk E' hi hlen ⟨c, u, hc, rfl⟩ ⟨rfl, hq⟩ hoC hmx F₁ N₁ off ne
    clear F N
    k_dflt walk_at "my steps"
    have hck := KBw.ints_get hc
    rw [hk] at hck
    rw [List.take_add_one, hck, Option.toList_some, List.map_append]
    exact hq.append (.cons _ _ .nil)
  · rintro ys nw hlen ⟨rfl, hq⟩
    rw [← KBw.ints_length, hk, List.take_length] at hq
    have hr := x1_all hk
    have hn : (ks.map x1).length ≤ 16777216 := by rw [List.length_map]; exact hz
    k_dflt walk_at "my steps"
    exact ⟨[], List.forall_mem_nil _, rfl, _, _, rfl, bInts_byteArr hr⟩
end
theorem rs_C17 : True := by
  w_top off
  trivial
noncomputable def PartsP (ks : List Int) (f : Int) (ps : List (Int × Int)) (vals : List Int) : Prop :=
  vals.length = ps.length ∧ ∀ (j : Nat) (p : Int × Int) (v : Int), ps[j]? = some p → vals[j]? = some v → (∀ q, ps[j + 1]? = some q → Part ks (f + p.2) (f + q.2) v) ∧ (ps[j + 1]? = none → Part ks (f + p.2) ks.length v)
theorem PartsP.pr {ks : List Int} {f : Int} {vals : List Int} {qs : List PR} (h : PartsP ks f (qs.map prOf) vals) : Parts ks f qs vals := by
  refine ⟨by rw [h.1, List.length_map], fun j p v hp hv => ?_⟩
  have hp' : (qs.map prOf)[j]? = some (prOf p) := by rw [List.getElem?_map, hp]; rfl
  obtain ⟨h1, h2⟩ := h.2 j _ v hp' hv
  refine ⟨fun q hq => h1 (prOf q) (by rw [List.getElem?_map, hq]; rfl), fun hq => h2 (by rw [List.getElem?_map, hq]; rfl)⟩
structure Fine (ks : List Int) (ps : List (Int × Int)) (vals : List Int) (u1 u2 : VD) : Prop where
  asc : Asc none ps
  m : ∀ mm, u1.cnt = some mm → ps.length ≤ mm ∧ mm ≤ 1000
  c : ∀ f, u2.cnt = some f → ∀ x ∈ ks.take f, x ≠ 37
  l : ∀ f, u2.cnt = some f → f ≤ ks.length → Lead ps (ks.take f)
  p : ∀ f, u2.cnt = some f → f ≤ ks.length → PartsP ks f ps vals
noncomputable def Good (ks : List Int) (ps : List (Int × Int)) (u0 u1 u2 : VD) : Prop := u0.isOs = true ∧ u1.cnt = some ps.length ∧ ∃ f, u2.cnt = some f ∧ f ≤ ks.length
theorem opAt_of {P : Params} {g h : Heap} {L x dx l : Addr} {k1 k2 k3 : Tok} {b : Array UInt8} {tb : Tok} {f : Int} {tf : Tok} {qs : List PR} {k : Nat} (N : News g L h ((x, instObj 738 dx) :: (dx, opD P k1 k2 k3 b tb f tf l) :: (l, listOf (pRefs qs).toArray k) :: qs.map pObj)) :
    OpAt P h x dx l k1 k2 k3 b tb f tf qs :=
  ⟨(N _ (.head _)).1, (N _ (.tail _ (.head _))).1, ⟨_, (N _ (.tail _ (.tail _ (.head _)))).1, rfl, k, rfl⟩, fun p hp => ⟨_, (N _ (.tail _ (.tail _ (.tail _ (List.mem_map_of_mem hp))))).1, rfl, _, rfl⟩⟩
section
variable {prog : Program} {w : World}
variable {b : Array UInt8} {ks kt : List Int} {tb : Tok} {ps : List (Int × Int)} {vals : List Int} {v0 v1 v2 u0 u1 u2 : VD}
theorem all_objects_use (n : Nat) {x dx l : Addr} {k1 k2 k3 : Tok} {f mm : Nat} {tf : Tok} {qs : List PR} (hk : KBw.bInts b = ks) (hz : ks.length ≤ 16777216) (F : Fine ks ps vals u1 u2) (h1 : u1.cnt = some mm) (h2 : u2.cnt = some f) (hf : f ≤ ks.length) (hm : mm ≤ ps.length) (hq : qs.map prOf = ps.take mm) :
    Fun prog w 735 (n + 9) [.ref x] (fun h => OpAt w.params h x dx l k1 k2 k3 b tb f tf qs) []
      (fun v' news' _ => mm = ps.length ∧ ∃ D qs, v' = .ref D ∧ qs.map PR.n = ps.map Prod.fst ∧ qs.map PR.o = vals ∧ news' = (D, LCg.lst (pRefs qs)) :: qs.map pObj) := by
  obtain ⟨m1, m2⟩ := F.m mm h1
  obtain rfl : mm = ps.length := by omega
  rw [List.take_length] at hq
  have hP := F.p f h2 hf
  rw [← hq] at hP
  have hl : qs.length = ps.length := by rw [← hq, List.length_map]
  refine fun A base l s R M O hP' ret => all_objects_ct n hk hz (by omega) hP.pr A base l s R M O hP' ⟨fun v h' tk nw kp hs q => ret.go v h' tk nw kp hs ⟨rfl, ?_⟩⟩
  obtain ⟨D, qs', e1, e2, e3, e4⟩ := q
  exact ⟨D, qs', e1, by rw [e2, ← hq, List.map_map]; rfl, e3, e4⟩
theorem undo_use (n : Nat) {x dx hd S : Addr} {k1 k2 : Tok} (hk : KBw.bInts b = kt) (hks : kt.map x1 = ks) (hz : ks.length ≤ 16777216) :
    Fun prog w 792 n [.ref S, .ref x] (fun h => (VD.strm x dx k1 k2 hd b tb).at_ w.params h) [] (fun v' news' _ => news' = [] ∧ ∃ b' t, v' = .bytes b' t ∧ KBw.bInts b' = ks) := by
  subst hks
  exact undo_ct n hk (by rwa [List.length_map] at hz)
theorem ln_80 : True := by
  k_with "my call" => (((with_reducible show wpAny _ _ (call (Value.ref 735) [Value.ref _]) _ _ _); k_dflt (refine' useG (all_objects_use _ ?q80zhk ?q80zhz ?q80zhF ?q80zc1 ?q80zc2 ?q80zhf ?q80zhm ?q80zhq) ?q80zM ?q80zB ?q80zF ?q80zN (List.forall_mem_nil _) Pick.all ?q80zhP ?_ rfl rfl; (case q80zhP => exact opAt_of (by k_asm)); (case q80zM => assumption); (case q80zB => assumption); (case q80zF => k_asm); (case q80zN => k_asm); (case q80zhk => assumption); (case q80zhz => assumption); (case q80zhF => assumption); (case q80zc1 => assumption); (case q80zc2 => assumption); (case q80zhf => assumption); (case q80zhm => assumption); (case q80zhq => assumption)); intro _ _ _ _ _ _ _ _ _; walk_at "tout"; (try k_sweep)))
  k_with "my call" => (((with_reducible show wpAny _ _ (call (Value.ref 792) [Value.ref _, Value.ref _]) _ _ _); k_dflt (refine' useH2 (undo_use _ ?q81zhk ?q81zhks ?q81zhz) ?q81zM ?q81zB ?q81zF ?q81zN (List.forall_mem_nil _) Pick.all ?q81zhP ?_ rfl rfl; (case q81zhP => exact VD.keeps (by assumption) (Fr.keep (by k_asm))); (case q81zM => assumption); (case q81zB => assumption); (case q81zF => k_asm); (case q81zN => k_asm); (case q81zhk => assumption); (case q81zhks => assumption); (case q81zhz => assumption)); intro _ _ _ _ _ _ _; walk_at "tout"; (try k_sweep)))
  k_with "my call" => (((with_reducible show wpAny _ _ (call (Value.ref 749) [Value.bytes _ _, Value.int _ _, Value.int _ _]) _ _ _); k_dflt (refine' useE (open_octets_ct _ ?q82zhk ?q82zhz ?q82zhc ?q82zhL ?q82zhA ?q82zhm) ?q82zM ?q82zB ?q82zF ?q82zN (List.forall_mem_nil _) Pick.all trivial ?_ ?_ rfl rfl; (case q82zM => assumption); (case q82zB => assumption); (case q82zF => k_asm); (case q82zN => k_asm); (case q82zhk => assumption); (case q82zhz => assumption); (case q82zhc => exact Fine.c (by assumption) _ (by assumption)); (case q82zhL => exact Fine.l (by assumption) _ (by assumption)); (case q82zhA => exact Fine.asc (by assumption)); (case q82zhm => exact (Fine.m (by assumption) _ (by assumption)).2)); (first
      | (intro _ _ _ _ _ _ ho' q'; clear ho'; obtain ⟨_, _, _, _, _, _, _, _, _, _, rfl, _, rfl⟩ := q'; (rename News _ _ _ _ => N'; try simp only [List.nil_append, List.cons_append, List.append_nil] at N'); (try k_sweep))
      | (intro _ _ _ _ _))))
  k_with "my call" => (((with_reducible show wpAny _ _ (call (Value.ref 688) [Value.ref _, Value.ref _, Value.str _ _]) _ _ _); k_dflt (refine' useE (count_told_ct _ _ ?q83zhk ?q83zhu) ?q83zM ?q83zB ?q83zF ?q83zN (List.forall_mem_nil _) Pick.all ?q83zhP ?_ ?_ rfl rfl; (case q83zM => assumption); (case q83zB => assumption); (case q83zF => k_asm); (case q83zN => k_asm); (case q83zhP => exact ⟨ShAt.keeps (by assumption) (Fr.keep (by k_asm)), Entry.keeps (by assumption) (Fr.keep (by k_asm))⟩); (case q83zhu => assumption); (case q83zhk => decide)); (first
      | (intro _ _ _ _ _ _ ho' q'; clear ho'; obtain ⟨rfl, _, _, rfl, _⟩ := q'; walk_at "tout"; (try k_sweep))
      | (intro _ _ _ _ _))))
  k_with "my call" => (((with_reducible show wpAny _ _ (call (Value.ref 681) [Value.ref _, Value.ref _]) _ _ _); k_dflt (refine' useA0 (is_os_ct _ ?q84zhu) ?q84zM ?q84zB ?q84zF ?q84zN (List.forall_mem_nil _) Pick.all ?q84zhP ?_ rfl rfl; (case q84zhP => exact ⟨ShAt.keeps (by assumption) (Fr.keep (by k_asm)), VD.keeps (by assumption) (Fr.keep (by k_asm)), Entry.keeps (by assumption) (Fr.keep (by k_asm))⟩); (case q84zM => assumption); (case q84zB => assumption); (case q84zF => k_asm); (case q84zN => k_asm); (case q84zhu => assumption)); intro _ _ _ _; walk_at "tout"; (try k_sweep)))
  trivial
theorem read_packed_ct (n : Nat) {S dS T T2 x dx hd : Addr} {sk1 sk2 k1 k2 : Tok} {tk : List (Int × Value)} {kvs : List (Str × Value)} (hk : KBw.bInts b = kt) (hks : kt.map x1 = ks) (hz : ks.length ≤ 16777216) (hF : Fine ks ps vals u1 u2)
    (hu0 : u0 = .none ∨ ∃ x dx k s t, u0 = .name x dx k s t) (hu1 : u1 = .none ∨ (∃ i t, u1 = .int i t) ∨ (∃ b, u1 = .bool b) ∨ ∃ x dx k s t, u1 = .name x dx k s t) (hu2 : u2 = .none ∨ (∃ i t, u2 = .int i t) ∨ (∃ b, u2 = .bool b) ∨ ∃ x dx k s t, u2 = .name x dx k s t) :
    FunE prog w 756 (n + 11) [.ref S, .ref x, .ref 792] (fun h => ShAt prog w h S dS T T2 sk1 sk2 tk ∧ (VD.strm x dx k1 k2 hd b tb).at_ w.params h ∧ Entry prog w h tk hd kvs "Type" v0 u0 ∧ Entry prog w h tk hd kvs "N" v1 u1 ∧ Entry prog w h tk hd kvs "First" v2 u2) []
      (fun v' news' _ => Good ks ps u0 u1 u2 ∧ ∃ D qs, v' = .ref D ∧ qs.map PR.n = ps.map Prod.fst ∧ qs.map PR.o = vals ∧ news' = (D, LCg.lst (pRefs qs)) :: qs.map pObj) (¬ Good ks ps u0 u1 u2) := by
  refine FunE.sub ?_
  intro A base l s R M O hP ret bad
  have bd : Bd [("shelf", .ref S), ("stream", .ref x), ("undo", .ref 792)] := ⟨⟩
  k_dflt walk_at "my enter"
  rename Kg _ _ _ => kg
  have hP := And.intro (hP.1.keeps kg.keeps) (And.intro (VD.keeps hP.2.1 kg.keeps) (And.intro (hP.2.2.1.keeps kg.keeps) (And.intro (hP.2.2.2.1.keeps kg.keeps) (hP.2.2.2.2.keeps kg.keeps))))
  obtain ⟨hSh, hX, hE0, hE1, hE2⟩ := hP
  have hx1 := hX.1
  have hx2 := hX.2
  k_dflt walk_at "my steps"
  · rename VD.cnt u1 = some _ => hc1
    rename VD.cnt u2 = some _ => hc2
    rename _ = List.length ps => hc3
    rename u0.isOs = true => hc0
    rename List.map PR.n _ = _ => hq1
    rename List.map PR.o _ = _ => hq2
    refine ⟨(_, LCg.lst (pRefs _)) :: List.map pObj _, ?_, ⟨hc0, by rw [← hc3]; exact hc1, _, hc2, by assumption⟩, _, _, rfl, hq1, hq2, rfl⟩
    intro p hp
    exact List.mem_append_left _ hp
  · rename VD.cnt u1 = some _ => hc1
    rename VD.cnt u2 = some _ => hc2
    rename _ < _ ∨ _ < _ => hc3
    rintro ⟨g0, g1, f, g2, g3⟩
    rw [hc1] at g1
    rw [hc2] at g2
    have g1 := Option.some.inj g1
    have g2 := Option.some.inj g2
    omega
  · rename VD.cnt u2 = none => hc2
    rintro ⟨g0, g1, f, g2, g3⟩
    rw [hc2] at g2; cases g2
  · rename VD.cnt u1 = none => hc1
    rintro ⟨g0, g1, f, g2, g3⟩
    rw [hc1] at g1; cases g1
  · rename u0.isOs = false => hc0
    rintro ⟨g0, g1, f, g2, g3⟩
    rw [hc0] at g0; cases g0
end
theorem rs_H1 : True := by
  w_top off
  trivial
noncomputable def frs (l : List Env) : List Addr := l.filterMap (·.frame)
structure KpS (l : List Env) (h h' : Heap) : Prop where
  keep : ∀ b o, b ∉ frs l → h.get? b = some o → h'.get? b = some o
  up : h.UpToSlots h'
noncomputable def Heard (prog : Program) (w : World) (n : Nat) (vs : List Value) (P : Heap → Prop) (Q : Post) : Prop :=
  ∀ (A : Around) (base : Heap) (l : List Env) (s : Shared) (R : Result → Shared → Prop), Rm w A base l s.heap n → P s.heap →
    (∀ v h' tk nw, KpS l s.heap h' → Has [] s.heap h' nw → Q v nw h' → R (.ok (.ret v)) { s with heap := h', toks := tk }) → codeAny (model prog w) A (.call (.ref 799) ⟨vs, []⟩) R s
theorem Fly.toW {base : Heap} {l : List Env} {e : Addr} {cls : Value} {h' : Heap} (f : Heap.Flying base l e cls h') : ∃ a0, Heap.FlyingW base l e cls a0 h' := by
  obtain ⟨f1, f2, f3, oe, vs, T, oT, ts, he, hc, hd, h1, r⟩ := f
  have : 0 < vs.size := by have := (Array.getElem?_eq_some_iff.mp h1).1; omega
  exact ⟨vs[0], f1, f2, f3, oe, vs, T, oT, ts, he, ⟨hc, Array.getElem?_eq_getElem this⟩, hd, h1, r⟩
theorem excMatches_up {prog : Program} {w : World} {A : Around} {E : Value → Shared → Prop} {h : Heap} {g : Array GenState} {d : Drawn} {t : Nat} {os : OsState} {e : Addr} {oe : Obj} {Q : Bool → Shared → Prop}
    (X : (Mine.hd.heap_39 w.params).In h) (he : h.get? e = some oe) (hcls : oe.cls = .ref 71) (hq : Q true ⟨h, g, d, t, os⟩) : wpAny (model prog w) A (excMatches (.ref e) (.ref 46)) Q E ⟨h, g, d, t, os⟩ := by
  have hC := X 46 _ rfl
  have hB : Looks (model prog w) h (isSubtype (.ref 46) (.type "BaseException")) true := looks_mroIn X (by rfl)
  have hS : Looks (model prog w) h (isSubtype (.ref 71) (.ref 46)) true := looks_mroIn X (by rfl)
  have f := tc_notTuple
  unfold excMatches
  repeat (first | (with_reducible refine wpAny_loadPart_at he ?_; rw [hcls]) | with_reducible refine wpAny_loadPart_at hC ?_ | with_reducible refine hB.at ?_ | with_reducible refine hS.at ?_ | wp_step)
  exact hq
section
variable {prog : Program} {w : World} {n : Nat} {vs : List Value} {P : Heap → Prop} {Q : Post} {X : Prop}
theorem in_frs {l : List Env} : ∀ env ∈ l, ∀ a, env.frame = some a → a ∈ frs l := fun env he a ha => List.mem_filterMap.mpr ⟨env, he, ha⟩
theorem Tp.keeps {base b' : Heap} (T : Tp w base) (k : ∀ b o, base.get? b = some o → b'.get? b = some o) : Tp w b' :=
  ⟨T.X.keeps k, by obtain ⟨p, loose, mean, mg, mb, t⟩ := T.T; exact ⟨p, loose, mean, mg, mb, t.keeps k⟩⟩
theorem base_hide {base h : Heap} {l : List Env} (st : base.StaysIn h) (fr : h.FunFrames base l) : base.StaysIn (hideAll h (frs l)) := fun b o q => hideAll_get _ (st b o q) fun hm => by
  rw [(fr.mem hm).1] at q; cases q
theorem useT {A : Around} {base : Heap} {l : List Env} {E : Value → Shared → Prop} {Q₀ : Value → Shared → Prop} {g h₀ hh : Heap} {gg : Array GenState} {dd : Drawn} {tt : Nat} {oo : OsState} {L : Addr} {m : Str → Option Value} {env : Env} {f : Addr}
    (C : FunE prog w f n vs P [] Q X) (M : Rm w A base l h₀ (n + 1)) (B : Below A base l g) (F : Fr g L hh m) (hP : P hh)
    (k : ∀ v h' tk news', Kp [] hh h' → Has [] hh h' news' → Q v news' h' → Q₀ v ⟨h', gg, dd, tk, oo⟩)
    (kE : X → ∀ e h' tk, Heap.Flying (hideAll hh (frs (env :: l))) (env :: l) e (.ref 71) h' → hh.UpToSlots h' → E (.ref e) ⟨h', gg, dd, tk, oo⟩)
    (hf : env.frame = some L) (hk : env.scope.kind = .function) :
    wpAny (model prog w) (A.deeper env) (call (.ref f) vs) Q₀ E ⟨hh, gg, dd, tt, oo⟩ := by
  have M₁ := M.deeper (env := env) B F hf hk
  have st := base_hide M₁.below.stays M₁.below.frames
  have M₂ : Rm w (A.deeper env) (hideAll hh (frs (env :: l))) (env :: l) hh n :=
    ⟨M₁.handled, M₁.depth, M₁.units, ⟨M₁.below.stack, fun b o e => of_hideAll _ e, funFrames_hide M₁.below.frames in_frs⟩, M₁.tp.keeps st⟩
  exact wpAny_call (C _ _ _ _ _ M₂ (fun p hp => nomatch hp) hP ⟨fun v h' tk news' kp hn q => k v h' tk news' kp hn q⟩ fun x e h' tk fl up => kE x e h' tk fl fun b o q nf => up b o (fun hm => nomatch hm) q nf)
theorem KpS.trans {l : List Env} {h₁ h₂ h₃ : Heap} (x : KpS l h₁ h₂) (y : KpS l h₂ h₃) : KpS l h₁ h₃ := ⟨fun b o hb q => y.keep b o hb (x.keep b o hb q), x.up.trans y.up⟩
theorem KpS.of {l : List Env} {h h' : Heap} (k : ∀ b o, h.get? b = some o → h'.get? b = some o) : KpS l h h' := ⟨fun b o _ q => k b o q, .of_keeps k⟩
theorem caught_H {A : Around} {base : Heap} {l : List Env} {E : Value → Shared → Prop} {g hh h' : Heap} {s : Shared} {L a e : Addr} {m : Str → Option Value} {name : Str} {scope : Scope} {cd : Value} {np pos : Pos} {b₀ : Stmt} {suite : List Stmt} {rest : List ExceptHandler} {Q : Flow → Shared → Prop} {nn : Nat} {h₀ : Heap}
    (M : Rm w A base l h₀ nn) (B : Below A base l g) (F : Fr g L hh m) (hs : s.heap = h')
    (fl : Heap.Flying (hideAll hh (frs (envOf name scope L a cd :: l))) (envOf name scope L a cd :: l) e (.ref 71) h') (up : hh.UpToSlots h')
    (k : ∀ h₂, KpS (envOf name scope L a cd :: l) hh h₂ →
      wpAny (model prog w) ((A.deeper (envOf name scope L a cd)).mark (some (.ref e))) (execs (b₀ :: suite) (envOf name scope L a cd)) Q (fun _ _ => False) { s with heap := h₂ })
    (hk : scope.kind = .function := by rfl) (hx : (envOf name scope L a cd).kindOf "PaperError" = some .globalImplicit := by rfl) :
    wpAny (model prog w) (A.deeper (envOf name scope L a cd)) (noteFrame (.ref e) (envOf name scope L a cd))
      (fun _ s₂ => wpAny (model prog w) (A.deeper (envOf name scope L a cd)) (setFlight (.ref e) none) (fun _ s₃ =>
        wpAny (model prog w) (A.deeper (envOf name scope L a cd)) (handleBy (.ref e) (envOf name scope L a cd) (.ExceptHandler (some (.Name "PaperError" np)) none (b₀ :: suite) pos :: rest)) Q E s₃) E s₂) E s := by
  subst hs
  obtain ⟨a0, hfl⟩ := Fly.toW fl
  have st := base_hide B.stays B.frames
  have X₂ := M.tp.X.keeps st
  obtain ⟨p, loose, mean, mg, mb, T⟩ := M.tp.T
  have T₂ := T.keeps st
  have hgL : g.get? L = none := by
    cases q : g.get? L with
    | none => rfl
    | some o => exact absurd (Nat.lt_of_lt_of_le (Heap.lt_size q) F.above) (Nat.lt_irrefl _)
  have mk : ∀ h₂, (hideAll hh (frs (envOf name scope L a cd :: l))).StaysIn h₂ → hh.UpToSlots h₂ → Fr (hideAll g (frs l)) L h₂ m := fun h₂ k1 k2 => ⟨k2.ns F.ns, (fun b o q => by
    have q' := of_hideAll _ q
    refine k1 _ _ (hideAll_get _ (F.keep _ _ q') fun hm => ?_)
    rcases List.mem_filterMap.mp hm with ⟨env, he, hf⟩
    rcases List.mem_cons.mp he with rfl | he
    · obtain rfl : L = b := Option.some.inj hf
      rw [hgL] at q'; cases q'
    · rw [hideAll_none _ (in_frs env he b hf)] at q; cases q), by rw [hideAll_size]; exact F.above⟩
  have kp : ∀ h₂, (hideAll hh (frs (envOf name scope L a cd :: l))).StaysIn h₂ → hh.UpToSlots h₂ → KpS (envOf name scope L a cd :: l) hh h₂ := fun h₂ k1 k2 => ⟨fun b o hb q => k1 _ _ (hideAll_get _ q hb), k2⟩
  refine wpAny_looks_onW (Around.frames_deeper B.stack) rfl hfl fun h₄ hheld₄ hsm₄ => ?_
  refine wpAny_landsW hheld₄ fun h₅ hheld hsm₅' => ?_
  have hsm₅ := (up.trans hsm₄).trans hsm₅'
  have F₅ := mk h₅ hheld.1 hsm₅
  obtain ⟨ob, hob, hobc⟩ := hheld.there
  refine wpAny_handleBy_cons (codeAny_handlers_test (name_K F₅ X₂ (topRead_of T₂) (v := .ref 46) (by rfl) ?_ hk hx)) (by intro q; cases q)
  refine excMatches_up (X₂.keeps F₅.keep) hob hobc (codeAny_handlers_suite ?_)
  refine lands_againW hheld fun h₆ hfl₆ hsm₆ => ?_
  exact wpAny_noRaise (k h₆ (kp h₆ hfl₆.1 (hsm₅.trans hsm₆)))
theorem ln_85 : True := by
  k_with "my go" => ((
      (fail_if_success (with_reducible show Hold _));
      (fail_if_success (with_reducible show WOut _ _ _ _ _));
      (fail_if_success (with_reducible show wpAny _ _ (pyIter _) _ _ _));
      (fail_if_success (with_reducible show wpAny _ _ (call (Value.ref 756) _) _ _ _));
      (fail_if_success (with_reducible show wpAny _ _ (exec (Stmt.While _ _ _ _) _) _ _ _));
      (fail_if_success (with_reducible show wpAny _ _ (exec (Stmt.For _ _ _ _ _) _) _ _ _));
      (fail_if_success (with_reducible show wpAny _ _ (eval (PySem.Expr.ListComp _ _ _ _) _) _ _ _))))
  trivial
theorem heard_gen {S x : Addr} (C : FunE prog w 756 n [.ref S, .ref x, .ref 792] P [] Q X) (hPk : ∀ h h', (∀ b o, h.get? b = some o → h'.get? b = some o) → P h → P h') :
    Heard prog w (n + 1) [.ref S, .ref x] P (fun v nw h => Q v nw h ∨ (X ∧ v = .none ∧ nw = [])) := by
  intro A base l s R M hP ret
  have O : Own base l s.heap [] := fun p hp => nomatch hp
  have bd : Bd [("shelf", .ref S), ("stream", .ref x)] := ⟨⟩
  k_dflt walk_at "my enter"
  rename Kg _ _ _ => kg
  rename Fr _ _ _ _ => F
  rename Below _ _ _ _ => B
  rename Frag.In _ _ => X₀
  have hk1 := kg.keeps
  have hP := hPk _ _ hk1 hP
  k_dflt walk_at "my steps"
  rename Fr _ _ _ _ => F₁
  refine useT C (by assumption) B F₁ (hPk _ _ F₁.keep hP) (fun v h' tk nw kp hs q => ?_) (fun x e h' tk fl up => ?_) rfl rfl
  · refine ret v h' tk nw (.of fun b o z => kp b o (fun hm => nomatch hm) (F₁.keep _ _ (hk1 _ _ z))) (fun p hp => ⟨(hs p hp).1, .inr ?_⟩) (.inl q)
    cases z : s.heap.get? p.1 with
    | none => rfl
    | some o =>
      have z' := F₁.keep _ _ (hk1 _ _ z)
      rcases (hs p hp).2 with h1 | h1
      · cases h1
      · rw [h1] at z'; cases z'
  · refine caught_H M B F₁ rfl fl up fun h₂ kp => ?_
    refine wpAny_execs_cons (wpAny_Return_some (wpAny_Constant_none ?_))
    refine ret .none h₂ tk [] ⟨fun b o hb z => kp.keep b o (fun hm => ?_) (F₁.keep _ _ (hk1 _ _ z)), (Heap.UpToSlots.of_keeps fun b o z => F₁.keep _ _ (hk1 _ _ z)).trans kp.up⟩ (fun p hp => nomatch hp) (.inr ⟨x, rfl, rfl⟩)
    obtain ⟨env, he, hf⟩ := List.mem_filterMap.mp hm
    rcases List.mem_cons.mp he with rfl | he
    · obtain rfl := Option.some.inj hf
      exact absurd (Nat.lt_of_lt_of_le (Heap.lt_size (hk1 _ _ z)) F₁.above) (Nat.lt_irrefl _)
    · exact hb (in_frs env he b hf)
end
theorem rs_D1 : True := by
  w_top off
  trivial
section
variable {prog : Program} {w : World}
theorem name_init_ct (n : Nat) {str : Str} {t : Tok} (x dx : Addr) :
    Fun prog w 329 n [.ref x, .str str t] (fun _ => True) [(x, instObj 332 dx), (dx, dictOf [] 0)]
      (fun v news' _ => v = .none ∧ ∃ k1, news' = [(x, instObj 332 dx), (dx, nameD w.params k1 str t)]) := by
  intro A base l₀ s R M O _ ret
  have bd : Bd [("self", .ref x), ("text", .str str t)] := ⟨⟩
  have hne : x ≠ dx := instne O
  k_dflt walk_at "my enter"
  k_dflt walk_at "my steps"
  exact ⟨rfl, _, rfl⟩
theorem stream_init_ct (n : Nat) {hd : Addr} {b : Array UInt8} {tb : Tok} (x dx : Addr) :
    Fun prog w 372 n [.ref x, .ref hd, .bytes b tb] (fun _ => True) [(x, instObj 375 dx), (dx, dictOf [] 0)]
      (fun v news' _ => v = .none ∧ ∃ k1 k2, news' = [(x, instObj 375 dx), (dx, strmD w.params k1 k2 hd b tb)]) := by
  intro A base l₀ s R M O _ ret
  have bd : Bd [("self", .ref x), ("head", .ref hd), ("octets", .bytes b tb)] := ⟨⟩
  have hne : x ≠ dx := instne O
  k_dflt walk_at "my enter"
  k_dflt walk_at "my steps"
  exact ⟨rfl, _, _, rfl⟩
theorem ref_init_ct (n : Nat) {m g : Int} {tm tg : Tok} (x dx : Addr) :
    Fun prog w 393 n [.ref x, .int m tm, .int g tg] (fun _ => True) [(x, instObj 403 dx), (dx, dictOf [] 0)]
      (fun v news' _ => v = .none ∧ ∃ k1 k2, news' = [(x, instObj 403 dx), (dx, refD w.params k1 k2 m tm g tg)]) := by
  intro A base l₀ s R M O _ ret
  have bd : Bd [("self", .ref x), ("number", .int m tm), ("generation", .int g tg)] := ⟨⟩
  have hne : x ≠ dx := instne O
  k_dflt walk_at "my enter"
  k_dflt walk_at "my steps"
  exact ⟨rfl, _, _, rfl⟩
theorem shelf_init_ct (n : Nat) (x dx : Addr) :
    Fun prog w 441 n [.ref x] (fun _ => True) [(x, instObj 512 dx), (dx, dictOf [] 0)]
      (fun v news' _ => v = .none ∧ ∃ k1 k2 T T2 oT oT2, news' = [(T2, oT2), (T, oT), (x, instObj 512 dx), (dx, shD w.params k1 k2 T T2)] ∧ oT.IsDictOf (intKind prog w) [] ∧ (T == sysModules) = false) := by
  intro A base l₀ s R M O _ ret
  have bd : Bd [("self", .ref x), ("table", .none), ("trailer", .none)] := ⟨⟩
  have hne : x ≠ dx := instne O
  k_dflt walk_at "my enter"
  k_dflt walk_at "my steps"
  exact ⟨rfl, iE6 _ _ _ _ _ _ (iA3 rfl (by assumption) (by assumption))⟩
theorem ln_86 : True := by
  k_with "setItem ref int" => ((k_here; k_dflt (refine' kda_set (knd := PySem.intKind _ _) ?q86zF ?q86zN ?q86zU ?q86zd (intKind_is _ _ _ _) ?q86zz ?_; (case q86zF => k_asm); (case q86zN => k_asm); (case q86zU => k_updF); (case q86zd => assumption); (case q86zz => rw [sizeLine_eq]; omega)); intro _ _ _ _ _; walk_at "tout"))
  trivial
theorem put_ct (n : Nat) {S dS T T2 : Addr} {k1 k2 : Tok} {oT : Obj} {tk : List (Int × Value)} {m g : Int} {tm tg : Tok} {v : Value} (hT : oT.IsDictOf (intKind prog w) tk) (hz : tk.length ≤ 1000) (hne1 : T ≠ S) (hne2 : T ≠ dS) :
    Fun prog w 476 n [.ref S, .int m tm, .int g tg, v] (fun _ => True) [(S, instObj 512 dS), (dS, shD w.params k1 k2 T T2), (T, oT)]
      (fun v' news' _ => v' = .none ∧ ∃ tp oT', news' = [(tp, tupO [.int g tg, v]), (S, instObj 512 dS), (dS, shD w.params k1 k2 T T2), (T, oT')] ∧ oT'.IsDictOf (intKind prog w) (stored tk m (.ref tp))) := by
  intro A base l₀ s R M O _ ret
  have bd : Bd [("self", .ref S), ("number", .int m tm), ("generation", .int g tg), ("value", v)] := ⟨⟩
  have hne := neN (O.ne (.head _) (.tail _ (.head _)) (by simp))
  replace hne1 := neN hne1
  replace hne2 := neN hne2
  k_dflt walk_at "my enter"
  k_dflt walk_at "my steps"
  exact ⟨rfl, _, _, rfl, by assumption⟩
end
theorem rs_D2 : True := by
  w_top off
  trivial
structure Pen where
  (gr st pl : Int)
  (tg ts tp : Tok)
  (k kc : Nat)
  cs : List (Int × Tok)
noncomputable abbrev cellV (p : Int × Tok) : Value := .int p.1 p.2
noncomputable abbrev penO (c : Addr) (p : Pen) : Obj := listOf [.ref c, .int p.gr p.tg, .int p.st p.ts, .int p.pl p.tp].toArray p.k
noncomputable abbrev penC (p : Pen) : Obj := listOf (p.cs.map cellV).toArray p.kc
structure Pen.ok (p : Pen) (j : Nat) : Prop where
  g0 : 0 ≤ p.gr
  s0 : 0 ≤ p.st
  s1 : p.st < 2147483647
  pl : p.pl = (j : Int)
  cs : p.cs.length ≤ 48
section
variable {prog : Program} {w : World} {A : Around} {E : Value → Shared → Prop} {s : Shared} {g : Heap} {L l : Addr} {led : List (Addr × Obj)}
theorem len_led {vs : List Value} {k : Nat} {Q : Value → Shared → Prop} (N : News g L s.heap led) (hm : (l, listOf vs.toArray k) ∈ led) (hz : vs.length ≤ 100000) (h : Q (.int vs.length (s.toks + 1)) { s with toks := s.toks + 1 + 1 }) :
    wpAny (model prog w) A (call (.builtin "len") [.ref l]) Q E s := by
  have hl : s.heap.IsList l vs.toArray := ⟨_, (N _ hm).1, rfl, k, rfl⟩
  exact len_list hl (by rw [List.size_toArray]; omega) (by rw [List.size_toArray]; exact h)
theorem item_led {value slice : PySem.Expr} {vs : List Value} {k : Int} {u : Tok} {kk : Nat} {v : Value} {Q : Value → Shared → Prop} (N : News g L s.heap led) (hm : (l, listOf vs.toArray kk) ∈ led) (hx : vs[k.toNat]? = some v) (h0 : 0 ≤ k) (hhi : k < 2 ^ 63) (h : Q v s)
    (hs : subscripted slice false (.ref l) (.int k u) = operate [.ref l, .int k u] (getItem (.ref l) (.int k u)) := by with_unfolding_all rfl) :
    wpAny (model prog w) A (subscriptTail value slice (.ref l) (.int k u)) Q E s := by
  have hl : s.heap.IsList l vs.toArray := ⟨_, (N _ hm).1, rfl, kk, rfl⟩
  exact tail_any hl.typeIs slot_list_getitem.lookup (wpAny_getItem_list hl h0 hhi (by simpa using hx) h) hs
end
theorem ln_87 : True := by
  k_with "call builtin:len cons" => ((k_here; (with_reducible show wpAny _ _ (call (Value.builtin "len") [Value.ref _]) _ _ _); k_dflt (refine' len_led ?q87zN ?q87zm ?q87zz ?_; (case q87zN => k_asm); (case q87zm => walk_at "my memA"); (case q87zz => ((try simp only [List.length_map]); omega))); (try simp only [List.length_map])))
  k_with "my item" => ((k_here; (with_reducible show wpAny _ _ (subscriptTail _ _ (Value.ref _) (Value.int _ _)) _ _ _); (with_unfolding_all refine' item_led ?q88zk0 ?q88zk1 ?q88zk2 ?q88zk3 ?q88zk4 ?_ ?q88zk6; (case q88zk0 => k_asm); (case q88zk1 => walk_at "my memA"); (case q88zk2 => assumption); (case q88zk3 => omega); (case q88zk4 => omega); (case q88zk6 => with_unfolding_all rfl); k_whole)))
  trivial
section
variable {prog : Program} {w : World}
theorem draw_ct (n : Nat) {a c : Addr} {p : Pen} {j : Nat} (hac : @Ne Nat a c) (hp : p.ok j) (hj : j ≤ 1000) {k : Int} {tk : Tok} (hk : 0 < k) (hk2 : k ≤ 1000) :
    Fun prog w 780 n [.ref a, .int k tk] (fun _ => True) [(a, penO c p), (c, penC p)]
      (fun v' news' _ => ∃ v t, ∃ q : Pen, v' = .int v t ∧ 0 ≤ v ∧ v < k ∧ q.ok (j + 1) ∧ news' = [(a, penO c q), (c, penC q)]) := by
  obtain ⟨gr, st, pl, tg, ts, tp, kk, kc, cs⟩ := p
  obtain ⟨g0, s0, s1, hpl, hcs⟩ := hp
  dsimp only at g0 s0 s1 hpl hcs ⊢
  subst hpl
  dsimp only [penO, penC]
  intro A base l₀ s R M O _ ret
  have bd : Bd [("pen", .ref a), ("limit", .int k tk)] := ⟨⟩
  k_dflt walk_at "my enter"
  k_dflt walk_at "my steps"
  · exact (iE3 _ _ ⟨gr.fdiv k, st, (j : Int) + 1, _, ts, _, kk, kc, cs⟩ (iA5 rfl (Int.fmod_nonneg_of_pos _ hk) (Int.fmod_lt_of_pos _ hk) ⟨Int.fdiv_nonneg g0 (by omega), s0, s1, by push_cast; rfl, hcs⟩ rfl))
  · have hjl : j < cs.length := by omega
    have e1 : (List.map cellV cs)[((j : Int)).toNat]? = some (.int (cs[j]).1 (cs[j]).2) := by
      rw [show ((j : Int)).toNat = j from by omega, List.getElem?_map, List.getElem?_eq_getElem hjl]; rfl
    k_dflt walk_at "my steps"
    refine (iE3 _ _ ⟨gr, (st * 16807 + ↑j * ↑j + 7).fmod 2147483647, (j : Int) + 1, tg, _, _, kk, kc, cs⟩ (iA5 rfl (Int.fmod_nonneg_of_pos _ hk) (Int.fmod_lt_of_pos _ hk) ⟨g0, Int.fmod_nonneg_of_pos _ (by decide), Int.fmod_lt_of_pos _ (by decide), by push_cast; rfl, hcs⟩ rfl))
  · refine (iE3 _ _ ⟨gr, (st * 16807 + ↑j * ↑j + 7).fmod 2147483647, (j : Int) + 1, tg, _, _, kk, kc, cs⟩ (iA5 rfl (Int.fmod_nonneg_of_pos _ hk) (Int.fmod_lt_of_pos _ hk) ⟨g0, Int.fmod_nonneg_of_pos _ (by decide), Int.fmod_lt_of_pos _ (by decide), by push_cast; rfl, hcs⟩ rfl))
end
theorem rs_D3 : True := by
  w_top off
  trivial
section
theorem ln_89 : True := by
  k_with "my go" => ((
      (fail_if_success (with_reducible show Hold _));
      (fail_if_success (with_reducible show WOut _ _ _ _ _));
      (fail_if_success (with_reducible show wpAny _ _ (pyIter _) _ _ _));
      (fail_if_success (with_reducible show LCg.CompSrc _ _ _ _ _ _ _ _ _ _ _ _ _ _));
      (fail_if_success (with_reducible show wpAny _ _ (exec (Stmt.While _ _ _ _) _) _ _ _));
      (fail_if_success (with_reducible show wpAny _ _ (exec (Stmt.For _ _ _ _ _) _) _ _ _));
      (fail_if_success (with_reducible show wpAny _ _ (eval (PySem.Expr.ListComp _ _ _ _) _) _ _ _))))
  k_with "exec Assign cons ListComp" => ((k_here; k_dflt (refine LCg.Assign_ListComp_U (F₀ := by k_asm) (by rfl) (by with_unfolding_all rfl) (by with_unfolding_all rfl) (by decide) (by rfl) (by decide) (by rfl) (by rfl) (by rfl) ?_)))
  trivial
end
section
variable {prog : Program} {w : World}
theorem ints_of_cells : ∀ cs : List (Int × Tok), IntsAre (cs.map cellV) (cs.map Prod.fst)
  | [] => .nil
  | (n, t) :: r => .cons n t (ints_of_cells r)
theorem cells_of_ints {vs : List Value} {ns : List Int} (h : IntsAre vs ns) : ∃ cs : List (Int × Tok), vs = cs.map cellV ∧ cs.length = ns.length := by
  induction h with
  | nil => exact ⟨[], rfl, rfl⟩
  | @cons n t _ _ _ ih =>
    obtain ⟨cs, rfl, h⟩ := ih
    exact ⟨(n, t) :: cs, rfl, by simp [h]⟩
theorem ln_91 : True := by
  k_with "subscriptTail Name Constant ref int" => (walk_at "my item")
  k_with "pen steps" => (repeat' ((fail_if_success (with_reducible show wpAny _ _ (exec (Stmt.If _ _ _ _) _) _ _ _)); walk_at "my go"; (first | (k_unfold; (try dsimp only)) | ((with_reducible show wpAny _ _ (PySem.call (Prod.fst _) _) _ _ _); dsimp only [List.cons_append, List.nil_append]) | walk1 | (dsimp only; walk1))))
  trivial
noncomputable def PenQ (g : Heap) (L lc : Addr) (o : Obj) (led : List (Addr × Obj)) (s0 : Shared) (f : Flow) (s' : Shared) : Prop :=
  f = .next ∧ ∃ h' tk m' gr tg, s' = ⟨h', s0.gens, s0.drawn, tk, s0.os⟩ ∧ 0 ≤ gr ∧ Fr g L h' m' ∧ News g L h' ((lc, o) :: led) ∧ m' "great" = some (.int gr tg) ∧ m' "cells" = some (.ref lc)
theorem pen_mono {M : Model} {A : Around} {c : Sem Flow} {Q : Flow → Shared → Prop} {E : Value → Shared → Prop} {g h : Heap} {L : Addr} {m : Str → Option Value} {lc : Addr} {o : Obj} {led : List (Addr × Obj)} (s0 : Shared) {st : Shared} (_ : Fr g L h m) (_ : News g L h ((lc, o) :: led))
    (a : wpAny M A c (PenQ g L lc o led s0) E st) (k : ∀ f s', PenQ g L lc o led s0 f s' → Q f s') : wpAny M A c Q E st := wpAny_mono a k fun _ _ e => e
theorem x5_6 {α1 α2 α3 α4 α5 : Type} {p1 p2 p3 p4 p5 p6 : α1 → α2 → α3 → α4 → α5 → Prop} {C : Prop} (h : ∃ a1 a2 a3 a4 a5, p1 a1 a2 a3 a4 a5 ∧ p2 a1 a2 a3 a4 a5 ∧ p3 a1 a2 a3 a4 a5 ∧ p4 a1 a2 a3 a4 a5 ∧ p5 a1 a2 a3 a4 a5 ∧ p6 a1 a2 a3 a4 a5) (k : ∀ a1 a2 a3 a4 a5, p1 a1 a2 a3 a4 a5 → p2 a1 a2 a3 a4 a5 → p3 a1 a2 a3 a4 a5 → p4 a1 a2 a3 a4 a5 → p5 a1 a2 a3 a4 a5 → p6 a1 a2 a3 a4 a5 → C) : C :=
  h.elim fun a1 h => h.elim fun a2 h => h.elim fun a3 h => h.elim fun a4 h => h.elim fun a5 h => k a1 a2 a3 a4 a5 h.1 h.2.1 h.2.2.1 h.2.2.2.1 h.2.2.2.2.1 h.2.2.2.2.2
theorem pen_ct (n : Nat) {sc : Addr} {cs : List (Int × Tok)} (hcs : cs.length ≤ 63) :
    Fun prog w 773 n [.ref sc] (fun h => h.IsList sc (cs.map cellV).toArray) []
      (fun v' news' _ => ∃ a c : Addr, ∃ q : Pen, v' = .ref a ∧ @Ne Nat a c ∧ q.ok 0 ∧ news' = [(a, penO c q), (c, penC q)]) := by
  refine Fun.sub ?_
  intro A base l₀ s R M O hP ret
  have bd : Bd [("script", .ref sc)] := ⟨⟩
  k_dflt walk_at "my enter"
  rename Kg _ _ _ => kg
  have hl := Heap.IsList.at hP (fun _ e => kg.keeps _ _ e)
  k_dflt walk_at "my steps"
  have hpick := slice_ints_uptoW (ints_of_cells cs) (show (0 : Int) ≤ 48 by decide)
  generalize slicePick (List.map cellV cs).toArray none (some 48) none = its at *
  obtain ⟨its⟩ := its
  obtain ⟨ds, hds, hdl⟩ := cells_of_ints hpick
  dsimp only at hds
  subst hds
  have hdl : ds.length ≤ 48 := by rw [hdl, List.length_take]; omega
  clear hpick
  rename Fr _ _ _ _ => F
  rename News _ _ _ _ => N
  refine LCg.CompSrc.ledger M.handledD F N (.head _) (by rw [sizeLine_eq, List.size_toArray, List.length_map]; omega) fun g₁ => ?_
  refine comp_inv (fun i ys nw => ∃ qs, ys = List.map cellV qs ∧ nw = [(_, _)]) ⟨[], rfl, rfl⟩ ?_ ?_
  · rintro i ys nw v I oI C oC D m₂ h tk E' hi hlen hv ⟨qs, rfl, rfl⟩ hoC hmx F₁ N₁ off ne
    clear F N
    obtain ⟨q, rfl⟩ : ∃ q, v = cellV q := by
      rw [List.getElem?_toArray, List.getElem?_map] at hv
      obtain ⟨q, _, rfl⟩ := Option.map_eq_some_iff.mp hv
      exact ⟨q, rfl⟩
    dsimp only [cellV] at hmx
    k_dflt walk_at "my steps"
    rename Fr _ _ _ _ => F'
    rename News _ _ _ _ => N'
    exact LCg.CompEnd.intro F' N' _ (fun p hp => hp) off (.inr ⟨_, .head _, rfl, _, rfl⟩) ⟨qs ++ [q], by rw [List.map_append]; rfl, rfl⟩
  · rintro ys nw hlen ⟨qs, rfl, rfl⟩
    have hql : qs.length ≤ 48 := by
      rw [List.length_map, List.size_toArray, List.length_map] at hlen; omega
    clear hlen F N
    k_dflt walk_at "pen steps"
    rename Fr _ _ _ _ => F
    rename News _ _ _ _ => N
    refine pen_mono s F N ?_ (fun f s' HJ => ?_)
    · cases qs with
      | nil =>
        k_dflt walk_at "my steps"
        unfold PenQ
        exact ⟨rfl, iE5 _ _ _ _ _ (iA6 rfl (Int.le_refl _) (by assumption) (by assumption) rfl rfl)⟩
      | cons c cr =>
        have e1 : (List.map cellV (c :: cr))[((0 : Int)).toNat]? = some (.int c.1 c.2) := rfl
        k_dflt walk_at "my steps"
        all_goals (unfold PenQ; refine ⟨rfl, iE5 _ _ _ _ _ (iA6 rfl ?_ (by assumption) (by assumption) rfl rfl)⟩; first | exact Int.le_refl _ | exact Int.fmod_nonneg_of_pos _ (by decide))
    · refine a2 HJ ?_
      clear HJ
      rintro rfl HJ
      refine x5_6 HJ ?_
      clear HJ F N
      rintro h' tk m' gr tg rfl g0 F N e1 e3
      have F := Fr.put (Fr.put F "great" e1) "cells" e3
      (try dsimp only)
      (try k_fold)
      k_dflt walk_at "my steps"
      rename Fr _ _ _ _ => F
      k_dflt (refine' For_invVF F ?k1 ?k2 ?_; (case k1 => exact rfl); (case k2 => exact rfl))
      k_dflt walk_at "my steps"
      rename Fr _ _ _ _ => F
      rename News _ _ _ _ => N
      refine iter_list_my (vs := List.map cellV qs) (k := (List.map cellV qs).length) (fun i m nx => (∃ gr tg, 0 ≤ gr ∧ m "great" = some (.int gr tg)) ∧ (∃ st ts, 0 ≤ st ∧ st < 2147483647 ∧ m "state" = some (.int st ts)) ∧ m "cells" = some (.ref _) ∧ nx = [(_, LCg.lst (List.map cellV qs)), _])
        M.handledD (by rintro i m nx ⟨_, _, _, rfl⟩; exact .head _) F N ⟨⟨_, _, g0, rfl⟩, ⟨_, _, by decide, by decide, rfl⟩, rfl, rfl⟩ ?_ ?_
      · intro i v m₁ news₁ h tk I oI hv HJ
        refine a4 HJ ?_
        clear HJ
        rintro H1 H2 e3 rfl
        refine x2_2 H1 ?_
        clear H1
        intro gr tg g0 e1
        refine x2_3 H2 ?_
        clear H2
        intro st ts s0 s1 e2
        intro hne F₁ N₁
        clear F N
        obtain ⟨q, rfl⟩ : ∃ q, v = cellV q := by
          rw [List.getElem?_map] at hv
          obtain ⟨q, _, rfl⟩ := Option.map_eq_some_iff.mp hv
          exact ⟨q, rfl⟩
        dsimp only [cellV] at F₁
        have F₂ := Fr.put F₁ "state" e2
        clear F₁ hv
        (try k_fold)
        k_dflt walk_at "my steps"
        rename Fr _ _ _ _ => F'
        rename News _ _ _ _ => N'
        exact Turn.intro F' N' (.head _) (fun p hp => .tail _ hp) hne ⟨⟨gr, tg, g0, e1⟩, ⟨_, _, Int.fmod_nonneg_of_pos _ (by decide), Int.fmod_lt_of_pos _ (by decide), rfl⟩, e3, rfl⟩
      · intro m₁ news₁ h tk HJ
        refine a4 HJ ?_
        clear HJ
        rintro H1 H2 e3 rfl
        refine x2_2 H1 ?_
        clear H1
        intro gr tg g0 e1
        refine x2_3 H2 ?_
        clear H2
        intro st ts s0 s1 e2
        intro F₁ N₁
        clear F N
        have F₂ := Fr.put (Fr.put (Fr.put F₁ "state" e2) "great" e1) "cells" e3
        clear F₁
        (try k_fold)
        k_dflt walk_at "my steps"
        exact ⟨[_, (_, LCg.lst (List.map cellV qs))], by walk_at "my subs", _, _, ⟨gr, st, 0, tg, ts, _, _, _, qs⟩, rfl, by first | k_ne | (refine Nat.ne_of_gt ?_; omega), ⟨g0, s0, s1, rfl, by assumption⟩, rfl⟩
end
theorem rs_D4 : True := by
  w_top off
  k_with "my call" => (((with_reducible show wpAny _ _ (call (Value.ref 780) [Value.ref _, Value.int _ _]) _ _ _); walk_at "tout"; k_dflt (refine' useW (draw_ct _ ?q93zhac ?q93zhp ?q93zhj ?q93zhk ?q93zhk2) ?q93zM ?q93zB ?q93zF ?q93zN ?q93zhb ?q93zhpk trivial ?_ rfl rfl; (case q93zM => assumption); (case q93zB => assumption); (case q93zF => k_asm); (case q93zN => k_asm); (case q93zhb => walk_at "my subs"); (case q93zhac => assumption); (case q93zhp => assumption); (case q93zhj => omega); (case q93zhk => omega); (case q93zhk2 => omega); (case q93zhpk => walk_at "my pick")); intro _ _ _ _ _ _ _ _ _ _; walk_at "tout"; (try k_sweep)))
  k_with "my call" => (((with_reducible show wpAny _ _ (call (Value.ref 476) [Value.ref _, Value.int _ _, Value.int _ _, _]) _ _ _); k_dflt (refine' useP (put_ct _ ?q94zhT ?q94zhz ?q94zh1 ?q94zh2) ?q94zM ?q94zB ?q94zF ?q94zN ?q94zhb ?q94zhpk trivial ?_ rfl rfl; (case q94zM => assumption); (case q94zB => assumption); (case q94zF => k_asm); (case q94zN => k_asm); (case q94zhb => walk_at "my subs"); (case q94zhT => assumption); (case q94zhz => omega); (case q94zh1 => assumption); (case q94zh2 => assumption); (case q94zhpk => walk_at "my pick")); intro _ _ _ _ _ _ _; walk_at "tout"; (try k_sweep)))
  k_with "my call" => (((with_reducible show wpAny _ _ (call (Value.ref 332) [Value.str _ _]) _ _ _); k_dflt (refine' useN1 (fun x dx => name_init_ct _ x dx) ?q95zM ?q95zB ?q95zF ?q95zX ?q95zN ?q95zhm ?q95zhi ?q95zhf (fun _ _ => trivial) ?_ rfl rfl; (case q95zM => assumption); (case q95zB => assumption); (case q95zF => k_asm); (case q95zX => k_asm); (case q95zN => k_asm); (case q95zhm => k_is); (case q95zhi => k_is); (case q95zhf => k_is)); walk_at "tinN"; intro _ _; walk_at "tout"; (try k_sweep)))
  k_with "my call" => (((with_reducible show wpAny _ _ (call (Value.ref 403) [Value.int _ _, Value.int _ _]) _ _ _); k_dflt (refine' useN2 (fun x dx => ref_init_ct _ x dx) ?q96zM ?q96zB ?q96zF ?q96zX ?q96zN ?q96zhm ?q96zhi ?q96zhf (fun _ _ => trivial) ?_ rfl rfl; (case q96zM => assumption); (case q96zB => assumption); (case q96zF => k_asm); (case q96zX => k_asm); (case q96zN => k_asm); (case q96zhm => k_is); (case q96zhi => k_is); (case q96zhf => k_is)); walk_at "tinN"; intro _ _ _; walk_at "tout"; (try k_sweep)))
  trivial
noncomputable def VD.cntI (u : VD) : Int := match u.cnt with | some k => (k : Int) | Option.none => -1
structure Cnt (prog : Program) (w : World) (number : Int) (right more : Int) (tk tk' : List (Int × Value)) (oT' : Obj) (V u : VD) (c : Int) (ex : List (Addr × Obj)) : Prop where
  dT : oT'.IsDictOf (intKind prog w) tk'
  len : tk'.length ≤ tk.length + 1
  off : ∀ n, n ≠ number → valueAt tk' n = valueAt tk n
  cE : c = u.cntI
  cs : c = right ∨ c = -1 ∨ c = right + more
  at_ : ∀ h, (∀ p ∈ ex, h.get? p.1 = some p.2) → V.at_ w.params h
  f : ∀ h tk₂, (∀ p ∈ ex, h.get? p.1 = some p.2) → valueAt tk₂ number = valueAt tk' number → Fetch w.params h tk₂ V u
  hu : u = .none ∨ (∃ i t, u = .int i t) ∨ (∃ b, u = .bool b) ∨ ∃ x dx k s t, u = .name x dx k s t
section
variable {K : Type} [DecidableEq K]
theorem valueAt_cons (kv : K × Value) (r : List (K × Value)) (k : K) : valueAt (kv :: r) k = if kv.1 = k then some kv.2 else valueAt r k := by
  unfold valueAt
  by_cases h : kv.1 = k <;> simp [h]
theorem valueAt_app (l r : List (K × Value)) (k : K) : valueAt (l ++ r) k = (valueAt l k).or (valueAt r k) := by
  induction l with
  | nil => rfl
  | cons kv l ih => rw [List.cons_append, valueAt_cons, valueAt_cons, ih]; split <;> simp
theorem valueAt_none {l : List (K × Value)} {k : K} (h : l.any (fun kv => kv.1 = k) = false) : valueAt l k = none := by
  induction l with
  | nil => rfl
  | cons kv l ih =>
    rw [List.any_cons, Bool.or_eq_false_iff] at h
    rw [valueAt_cons, if_neg (by simpa using h.1), ih h.2]
theorem valueAt_map (l : List (K × Value)) (k q : K) (v : Value) : valueAt (l.map fun kv => if kv.1 = k then (kv.1, v) else kv) q = if q = k then (if l.any (fun kv => kv.1 = k) then some v else none) else valueAt l q := by
  induction l with
  | nil => simp [valueAt]
  | cons kv l ih =>
    rw [List.map_cons, valueAt_cons, valueAt_cons, ih, List.any_cons]
    by_cases h1 : kv.1 = k <;> by_cases h2 : q = k <;> by_cases h3 : kv.1 = q <;> simp_all
    all_goals (rw [decide_eq_false h1, Bool.false_or])
theorem valueAt_stored_same (l : List (K × Value)) (k : K) (v : Value) : valueAt (stored l k v) k = some v := by
  unfold stored
  split
  · rename_i h; rw [valueAt_map, if_pos rfl, if_pos h]
  · rename_i h
    rw [valueAt_app, valueAt_none (Bool.eq_false_iff.mpr h), valueAt_cons, if_pos rfl]; rfl
theorem valueAt_stored_ne (l : List (K × Value)) {k q : K} (v : Value) (h : q ≠ k) : valueAt (stored l k v) q = valueAt l q := by
  unfold stored
  split
  · rw [valueAt_map, if_neg h]
  · rw [valueAt_app, valueAt_cons, if_neg (Ne.symm h)]
    show (valueAt l q).or none = _
    simp
end
theorem cntI_int {i : Int} {t : Tok} (h : 0 ≤ i) : i = (VD.int i t).cntI := by
  simp only [VD.cntI, VD.cnt, if_pos h]
  exact (Int.toNat_of_nonneg h).symm
section
variable {prog : Program} {w : World} {number right more : Int} {tk : List (Int × Value)} {oT : Obj} {c : Int} {ex : List (Addr × Obj)} {V u : VD}
theorem cnt_plain (hT : oT.IsDictOf (intKind prog w) tk) (hp : V.plain = true) (hc : c = V.cntI) (cs : c = right ∨ c = -1 ∨ c = right + more) (ha : ∀ h, (∀ p ∈ ex, h.get? p.1 = some p.2) → V.at_ w.params h)
    (hu : V = .none ∨ (∃ i t, V = .int i t) ∨ (∃ b, V = .bool b) ∨ ∃ x dx k s t, V = .name x dx k s t) : Cnt prog w number right more tk tk oT V V c ex :=
  ⟨hT, Nat.le_succ _, fun _ _ => rfl, hc, cs, ha, fun _ _ _ _ => .inl ⟨rfl, hp⟩, hu⟩
theorem cnt_ref {oT' : Obj} {tp x dx : Addr} {k1 k2 tn t0 tr tg : Tok} {g : Int} (hT : oT'.IsDictOf (intKind prog w) (stored tk number (.ref tp))) (hr : 0 ≤ right) (hg : (g = 0 ∧ c = right) ∨ (g ≠ 0 ∧ c = -1)) :
    Cnt prog w number right more tk (stored tk number (.ref tp)) oT' (.refr x dx k1 k2 number tn g tg) (if g = 0 then .int right tr else .none) c [(x, instObj 403 dx), (dx, refD w.params k1 k2 number tn g tg), (tp, tupO [.int 0 t0, .int right tr])] := by
  refine ⟨hT, stored_length_le _ _ _, fun n hn => valueAt_stored_ne _ _ hn, ?_, ?_, fun h hp => ⟨hp _ (.head _), hp _ (.tail _ (.head _))⟩, fun h tk₂ hp hv => ?_, ?_⟩
  · rcases hg with ⟨rfl, rfl⟩ | ⟨h, rfl⟩
    · rw [if_pos rfl]; exact cntI_int hr
    · rw [if_neg h]; rfl
  · rcases hg with ⟨rfl, rfl⟩ | ⟨h, rfl⟩ <;> simp
  · refine .inr (iE12 x dx k1 k2 number tn g tg tp 0 t0 (.int right tr) (iA6 rfl (by rw [hv, valueAt_stored_same]) ⟨_, hp _ (.tail _ (.tail _ (.head _))), rfl, _, rfl⟩ rfl trivial ?_))
    rcases hg with ⟨rfl, rfl⟩ | ⟨h, rfl⟩
    · exact .inl ⟨rfl, by rw [if_pos rfl]⟩
    · exact .inr ⟨Ne.symm h, by rw [if_neg h]⟩
  · rcases hg with ⟨rfl, rfl⟩ | ⟨h, rfl⟩
    · rw [if_pos rfl]; exact .inr (.inl ⟨_, _, rfl⟩)
    · rw [if_neg h]; exact .inl rfl
end
theorem rs_Lt : True := by
  w_top off
  trivial
theorem x5_8 {α1 α2 α3 α4 α5 : Type} {p1 p2 p3 p4 p5 p6 p7 p8 : α1 → α2 → α3 → α4 → α5 → Prop} {C : Prop} (h : ∃ a1 a2 a3 a4 a5, p1 a1 a2 a3 a4 a5 ∧ p2 a1 a2 a3 a4 a5 ∧ p3 a1 a2 a3 a4 a5 ∧ p4 a1 a2 a3 a4 a5 ∧ p5 a1 a2 a3 a4 a5 ∧ p6 a1 a2 a3 a4 a5 ∧ p7 a1 a2 a3 a4 a5 ∧ p8 a1 a2 a3 a4 a5) (k : ∀ a1 a2 a3 a4 a5, p1 a1 a2 a3 a4 a5 → p2 a1 a2 a3 a4 a5 → p3 a1 a2 a3 a4 a5 → p4 a1 a2 a3 a4 a5 → p5 a1 a2 a3 a4 a5 → p6 a1 a2 a3 a4 a5 → p7 a1 a2 a3 a4 a5 → p8 a1 a2 a3 a4 a5 → C) : C :=
  h.elim fun a1 h => h.elim fun a2 h => h.elim fun a3 h => h.elim fun a4 h => h.elim fun a5 h => k a1 a2 a3 a4 a5 h.1 h.2.1 h.2.2.1 h.2.2.2.1 h.2.2.2.2.1 h.2.2.2.2.2.1 h.2.2.2.2.2.2.1 h.2.2.2.2.2.2.2
theorem x6_9 {α1 α2 α3 α4 α5 α6 : Type} {p1 p2 p3 p4 p5 p6 p7 p8 p9 : α1 → α2 → α3 → α4 → α5 → α6 → Prop} {C : Prop} (h : ∃ a1 a2 a3 a4 a5 a6, p1 a1 a2 a3 a4 a5 a6 ∧ p2 a1 a2 a3 a4 a5 a6 ∧ p3 a1 a2 a3 a4 a5 a6 ∧ p4 a1 a2 a3 a4 a5 a6 ∧ p5 a1 a2 a3 a4 a5 a6 ∧ p6 a1 a2 a3 a4 a5 a6 ∧ p7 a1 a2 a3 a4 a5 a6 ∧ p8 a1 a2 a3 a4 a5 a6 ∧ p9 a1 a2 a3 a4 a5 a6) (k : ∀ a1 a2 a3 a4 a5 a6, p1 a1 a2 a3 a4 a5 a6 → p2 a1 a2 a3 a4 a5 a6 → p3 a1 a2 a3 a4 a5 a6 → p4 a1 a2 a3 a4 a5 a6 → p5 a1 a2 a3 a4 a5 a6 → p6 a1 a2 a3 a4 a5 a6 → p7 a1 a2 a3 a4 a5 a6 → p8 a1 a2 a3 a4 a5 a6 → p9 a1 a2 a3 a4 a5 a6 → C) : C :=
  h.elim fun a1 h => h.elim fun a2 h => h.elim fun a3 h => h.elim fun a4 h => h.elim fun a5 h => h.elim fun a6 h => k a1 a2 a3 a4 a5 a6 h.1 h.2.1 h.2.2.1 h.2.2.2.1 h.2.2.2.2.1 h.2.2.2.2.2.1 h.2.2.2.2.2.2.1 h.2.2.2.2.2.2.2.1 h.2.2.2.2.2.2.2.2
section
variable {prog : Program} {w : World} {A : Around} {E : Value → Shared → Prop} {s : Shared} {env : Env} {h₀ : Heap} {target : PySem.Expr} {body : List Stmt} {Q : Flow → Shared → Prop}
theorem codeAny_forLoop_my {R : Result → Shared → Prop} {I : Addr} {fp wr : List Addr} {n : Nat} {P : Nat → Value → Prop} {St : Nat → Heap → Prop} {m : Str → Option Value}
    {news : List (Addr × Obj)} (W : Walks prog w A I fp wr n P St) (hgo : ∀ i v (s : Shared) (Q : Unit → Shared → Prop) (E : Value → Shared → Prop), P i v → St (i + 1) s.heap → Q () s → wpAny (model prog w) A (letOwnedTupleGo target (.ref I) v) Q E s)
    (hLf : env.locals ∉ fp) (hwr : ∀ b ∈ wr, h₀.get? b = none) (hnw : ∀ p ∈ news, p.1 ∉ wr)
    (hst : St 0 s.heap) (F : Fr h₀ env.locals s.heap m) (N : News h₀ env.locals s.heap news)
    (J : Nat → (Str → Option Value) → List (Addr × Obj) → Prop) (h0 : J 0 m news)
    (step : ∀ i v m₁ news₁ s₁ own, (∃ h tk, s₁ = { s with heap := h, toks := tk }) → i < n → P i v → J i m₁ news₁ → (∀ p ∈ news₁, p.1 ∉ wr) → (∀ p ∈ own, p.1 ∈ fp) → (∀ p ∈ own, s₁.heap.get? p.1 = some p.2) → (∀ b ∈ fp, h₀.get? b = none → ∀ o, s₁.heap.get? b = some o → (b, o) ∈ own) → St (i + 1) s₁.heap →
      Fr h₀ env.locals s₁.heap m₁ → News h₀ env.locals s₁.heap (own ++ news₁) →
      wpAny (model prog w) A (assign target env v) (fun _ s₂ => wpAny (model prog w) A (execs body env) (LoopStepV h₀ env.locals wr own (J (i + 1)) s₁ (fun v s' => R (.ok (.ret v)) s') fun s' => R (.ok .next) s') (notedBy (model prog w) A env fun e s' => R (.error e) s') s₂) (notedBy (model prog w) A env fun e s' => R (.error e) s') s₁)
    (hR : ∀ h' tk m' news', Fr h₀ env.locals h' m' → News h₀ env.locals h' news' → (∀ p ∈ news', p.1 ∉ wr) → J n m' news' → R (.ok .next) { s with heap := h', toks := tk }) :
    codeAny (model prog w) A (.forLoop target (.ref I) body [] env) R s := by
  have hLw : env.locals ∉ wr := fun h => hLf (W.sub _ h)
  have old : ∀ b o, h₀.get? b = some o → b ∉ wr := fun b o e hb => by rw [hwr b hb] at e; cases e
  refine codeAny_forLoop_any
    (fun k s' => ∃ h' tk m' news' i, s' = { s with heap := h', toks := tk } ∧ St i h' ∧ Fr h₀ env.locals h' m' ∧ News h₀ env.locals h' news' ∧ (∀ p ∈ news', p.1 ∉ wr) ∧ J i m' news' ∧ i ≤ n ∧ k = n + 1 - i) ?_ (n + 1)
    ⟨s.heap, s.toks, m, news, 0, rfl, hst, F, N, hnw, h0, Nat.zero_le _, rfl⟩
  intro k s' HJ
  refine x5_8 HJ ?_
  clear HJ
  rintro h' tk m' news' i rfl hst' F' N' hnw' hJ hi rfl
  have next : ∀ h₁ : Heap, (∀ b o, b ∉ wr → h'.get? b = some o → h₁.get? b = some o) → Fr h₀ env.locals h₁ m' ∧ News h₀ env.locals h₁ news' := fun h₁ hk₁ =>
    ⟨⟨F'.ns.at' fun o e => hk₁ _ o hLw e, fun b o e => hk₁ b o (old b o e) (F'.keep b o e), F'.above⟩, fun p hp => ⟨hk₁ _ _ (hnw' p hp) (N' p hp).1, (N' p hp).2⟩⟩
  by_cases hlt : i < n
  · refine W.item i _ _ _ hlt hst' fun v h₁ tk₁ hP hst₁ hk₁ => ?_
    refine hgo i v _ _ _ hP hst₁ ?_
    obtain ⟨F₁, N₁⟩ := next h₁ hk₁
    have Nown : News h₀ env.locals h₁ (ownOf h₀ fp h₁) := news_ownOf hLf
    refine wpAny_mono (step i v m' news' { s with heap := h₁, toks := tk₁ } (ownOf h₀ fp h₁) ⟨_, _, rfl⟩ hlt hP hJ hnw' ownOf_sub (fun p hp => (Nown p hp).1) (fun b hb hn o e => mem_ownOf hb hn e) hst₁ F₁ (Nown.append N₁)) (fun _ s₂ h₂ => wpAny_mono h₂ (fun f s₃ h₃ => ?_) fun _ _ e => e) fun _ _ e => e
    have fin : LoopStepU h₀ env.locals wr (ownOf h₀ fp h₁) (J (i + 1)) { s with heap := h₁, toks := tk₁ } .next s₃ → ∃ k', k' < n + 1 - i ∧ ∃ h' tk m' news' i, s₃ = { s with heap := h', toks := tk } ∧ St i h' ∧ Fr h₀ env.locals h' m' ∧ News h₀ env.locals h' news' ∧ (∀ p ∈ news', p.1 ∉ wr) ∧ J i m' news' ∧ i ≤ n ∧ k' = n + 1 - i := by
      rintro ⟨_, h₃', tk₃, m₂, news₂, rfl, F₃, N₃, ha₃, hJ₃⟩
      refine ⟨n + 1 - (i + 1), by omega, h₃', tk₃, m₂, news₂, i + 1, rfl, ?_, F₃, N₃.right, ha₃, hJ₃, hlt, rfl⟩
      refine W.frame _ _ _ hst₁ fun b hb o e => ?_
      cases hn : h₀.get? b with
      | some o₀ =>
        have : o₀ = o := by have := F₁.keep b o₀ hn; rw [e] at this; exact (Option.some.inj this).symm
        exact this ▸ F₃.keep b o₀ hn
      | none => exact (N₃ _ (List.mem_append_left _ (mem_ownOf hb hn e))).1
    cases f with
    | ret v => exact h₃
    | brk => exact h₃
    | cont => exact fin h₃
    | next => exact fin h₃
  · have hin : i = n := by omega
    subst hin
    refine W.done _ _ _ hst' fun h₁ tk₁ hk₁ => wpAny_execs_nil ?_
    obtain ⟨F₁, N₁⟩ := next h₁ hk₁
    exact hR h₁ tk₁ m' news' F₁ N₁ hnw' hJ
noncomputable def LoopT (prog : Program) (w : World) (A : Around) (h₀ : Heap) (env : Env) (target : PySem.Expr) (body : List Stmt) (Q : Flow → Shared → Prop) (E : Value → Shared → Prop) (xv : Value) (s : Shared) : Prop :=
  ∃ l, ∃ vs : List Value, ∃ k m₀ news, ∃ J : Nat → (Str → Option Value) → List (Addr × Obj) → Prop, xv = .ref l ∧ (∀ v ∈ vs, ∃ T, v = .ref T) ∧ A.handled = none ∧ (∀ i m nx, J i m nx → (l, listOf vs.toArray k) ∈ nx) ∧ Fr h₀ env.locals s.heap m₀ ∧ News h₀ env.locals s.heap news ∧ J 0 m₀ news ∧
    (∀ i v m₁ news₁ h tk I oI, vs[i]? = some v → J i m₁ news₁ → (∀ p ∈ news₁, p.1 ≠ I) → Fr h₀ env.locals h m₁ → News h₀ env.locals h ((I, oI) :: news₁) →
      wpAny (model prog w) A (assign target env v) (fun _ s₂ => wpAny (model prog w) A (execs body env) (TurnStep h₀ env.locals I oI (J (i + 1)) { s with heap := h, toks := tk } Q) E s₂) E { s with heap := h, toks := tk }) ∧
    (∀ m₁ news₁ h tk, J vs.length m₁ news₁ → Fr h₀ env.locals h m₁ → News h₀ env.locals h news₁ → Q .next { s with heap := h, toks := tk })
theorem For_T {elts : List PySem.Expr} {x1 : Nat} {tp : Pos} {m : Str → Option Value} {pos : Pos} {iter : PySem.Expr} (_F : Fr h₀ env.locals s.heap m)
    (h : wpAny (model prog w) A (eval iter env) (LoopT prog w A h₀ env (.Tuple elts x1 tp) body Q E) E s)
    (hs : ∀ x, foldedSetIterable iter env x = pure x := by intro _; rfl)
    (hE : PassesOwn (model prog w) A env E := by passes_own) :
    wpAny (model prog w) A (exec (.For (.Tuple elts x1 tp) iter body [] pos) env) Q E s := by
  refine wpAny_For (wpAny_mono h (fun xv s₁ h₁ => ?_) fun _ _ e => e) hs
  refine x6_9 h₁ ?_
  clear h₁
  rintro l vs k m₀ news J rfl hvs hh hl F N hj turn done
  have hN := N _ (hl _ _ _ hj)
  have hls : s₁.heap.IsList l vs.toArray := ⟨_, hN.1, rfl, k, rfl⟩
  have hne : l ≠ s₁.heap.objs.size := Nat.ne_of_lt (Heap.lt_size hN.1)
  refine wpAny_pyIter_list hls ?_
  have W := Walks.list (prog := prog) (w := w) hh s₁.heap.objs.size l hne vs.toArray
  rw [List.size_toArray] at W
  have hI0 : h₀.get? s₁.heap.objs.size = none := next_is_new F
  have hLf : env.locals ∉ [s₁.heap.objs.size, l] := fun hm => by
    rcases List.mem_cons.mp hm with e | hm
    · exact absurd F.ns.lt (e ▸ Nat.lt_irrefl _)
    · exact hN.2.1 (List.mem_singleton.mp hm).symm
  refine codeAny_forLoop_my (R := fun r s' => match r with | .ok f => Q f s' | .error e => cameBackBy (model prog w) A env E e s') W (fun i v s Q E hP hs hq => ?_) hLf (fun b hb => ?_) (fun p hp hm => ?_)
    ⟨⟨_, Heap.get?_push_size _ rfl, rfl, rfl⟩, hls.at fun o e => Heap.get?_push_of_some _ e⟩ (F.push _) (fun p hp => ⟨Heap.get?_push_of_some _ (N p hp).1, (N p hp).2⟩) J hj ?_ ?_
  · obtain ⟨T, rfl⟩ := hvs v (List.mem_of_getElem? (by simpa using hP))
    exact wpAny_letOwnedTupleGo_listiter hs.1 hq
  · rw [List.mem_singleton.mp hb]; exact hI0
  · exact absurd (Heap.lt_size (N p hp).1) ((List.mem_singleton.mp hm) ▸ Nat.lt_irrefl _)
  · rintro i v m₁ news₁ s₂ own ⟨hh', tk', rfl⟩ hin hP hJ hoff hown hget hall hst₁ F₁ N₁
    obtain ⟨⟨oI, hoI, _⟩, _⟩ := hst₁
    have hIo : (s₁.heap.objs.size, oI) ∈ own := hall _ (.head _) hI0 oI hoI
    have N₂ : News h₀ env.locals hh' ((s₁.heap.objs.size, oI) :: news₁) := fun p hp => by
      rcases List.mem_cons.mp hp with rfl | hp
      · exact N₁ _ (List.mem_append_left _ hIo)
      · exact N₁ _ (List.mem_append_right _ hp)
    have t := turn i v m₁ news₁ hh' tk' _ oI (by simpa using hP) hJ (fun p hp e => hoff p hp (List.mem_singleton.mpr e)) F₁ N₂
    refine wpAny_mono (wpAny_passesOwn hE t) (fun _ s₃ h₃ => wpAny_mono (wpAny_passesOwn hE h₃) (fun f s₂ p => ?_) fun _ _ e => e) fun _ _ e => e
    have fin : Turn h₀ env.locals s₁.heap.objs.size oI (J (i + 1)) { s₁ with heap := hh', toks := tk' } s₂ → LoopStepU h₀ env.locals [s₁.heap.objs.size] own (J (i + 1)) { s₁ with heap := hh', toks := tk' } .next s₂ := by
      rintro ⟨h', tk, m', news', nx, e, F', N', h1, h2, h3, hm⟩
      refine ⟨rfl, h', tk, m', nx, e, F', fun p hp => ?_, fun p hp hq => h3 p hp (List.mem_singleton.mp hq), hm⟩
      rcases List.mem_append.mp hp with hp | hp
      · have hg := hget p hp
        rcases List.mem_cons.mp (hown p hp) with e1 | e1
        · have hg' : hh'.get? p.1 = some p.2 := hg
          rw [e1, hoI] at hg'
          have : p = (s₁.heap.objs.size, oI) := Prod.ext e1 (Option.some.inj hg').symm
          rw [this]; exact N' _ h1
        · have e1 := List.mem_singleton.mp e1
          have hq := (N₁ _ (List.mem_append_right _ (hl _ _ _ hJ))).1
          have hg' : hh'.get? p.1 = some p.2 := hg
          have hq' : hh'.get? l = some _ := hq
          rw [e1, hq'] at hg'
          have : p = (l, listOf vs.toArray k) := Prod.ext e1 (Option.some.inj hg').symm
          rw [this]; exact N' _ (h2 _ (hl _ _ _ hm))
      · exact N' _ (h2 p hp)
    cases f with
    | ret v => exact .ret p
    | brk => exact .brk p
    | next => exact .next (fin p)
    | cont => exact .cont (fin p)
  · rintro h' tk m' news' F' N' _ hJ
    exact done m' news' h' tk hJ F' N'
end
theorem rs_E1 : True := by
  w_top off
  trivial
section
variable {prog : Program} {w : World} {x dx hd S : Addr} {k1 k2 : Tok} {b : Array UInt8} {tb : Tok} {ks : List Int}
theorem pair_endN {h₀ h' : Heap} {L I C D a : Addr} {m : Str → Option Value} {s₁ : Shared} {oI oC : Obj} {nw : List (Addr × Obj)} {ys : List Value} {rest : Value → List (Addr × Obj) → Prop} {tk : Nat} {n o : Int} {tn to : Tok}
    (F : Fr h₀ L h' m) (N : News h₀ L h' (pObj ⟨a, n, o, tn, to⟩ :: (I, oI) :: (C, oC) :: (D, LCg.lst ys) :: nw)) (off : LCg.Off3 I C D nw) (hne : a ≠ I ∧ a ≠ C ∧ a ≠ D) (r : ∀ q : PR, q = ⟨a, n, o, tn, to⟩ → rest (.ref q.a) (pObj q :: nw)) :
    LCg.CompEnd h₀ L m s₁ I oI C oC D (LCg.lst ys) (fun _ => True) rest (.ref a) { s₁ with heap := h', toks := tk } := by
  refine LCg.CompEnd.intro F N (pObj ⟨a, n, o, tn, to⟩ :: nw) ?_ ⟨hne, off⟩ trivial (r _ rfl)
  intro p hp
  simp only [List.mem_cons] at hp ⊢
  rcases hp with h | h | h | h | h <;> simp [h]
theorem rows_ct (n : Nat) (hk : KBw.bInts b = ks) (hz : ks.length ≤ 16777216) :
    Fun prog w 804 n [.ref S, .ref x] (fun h => (VD.strm x dx k1 k2 hd b tb).at_ w.params h) []
      (fun v' news' _ => ∃ D qs, v' = .ref D ∧ qs.map PR.n = ks.map (fun c => c.fdiv 10) ∧ qs.map PR.o = ks ∧ news' = (D, LCg.lst (pRefs qs)) :: qs.map pObj) := by
  refine Fun.sub ?_
  intro A base l s R M O hP ret
  have bd : Bd [("shelf", .ref S), ("stream", .ref x)] := ⟨⟩
  k_dflt walk_at "my enter"
  rename Kg _ _ _ => kg
  obtain ⟨hx, hd'⟩ := VD.keeps hP kg.keeps
  k_dflt walk_at "my steps"
  rename Fr _ _ _ _ => F
  k_dflt (refine' ListComp_B (_F₀ := F) ?k1 ?k2 ?k3 ?k4 ?k5 ?_; (case k1 => exact rfl); (case k2 => decide); (case k3 => exact rfl); (case k4 => decide); (case k5 => exact rfl))
  k_dflt walk_at "my steps"
  rename Fr _ _ _ _ => F
  rename News _ _ _ _ => N
  refine (iE3 _ _ _ (iA6 rfl M.handledD F N (by rw [sizeLine_eq, ← KBw.ints_length, hk]; exact hz) (fun g₁ => ?_)))
  refine comp_inv (fun i ys nw => ∃ qs, ys = pRefs qs ∧ (∀ q ∈ qs, pObj q ∈ nw) ∧ qs.map PR.n = (ks.take i).map (fun c => c.fdiv 10) ∧ qs.map PR.o = ks.take i) ⟨[], rfl, (fun q hq => nomatch hq), rfl, rfl⟩ ?_ ?_
  · rintro i ys nw v I oI C oC D m₂ h tk E' hi hlen ⟨c, u, hc, rfl⟩ HJ
    refine x1_4 HJ ?_
    clear HJ
    rintro qs rfl hm hq1 hq2
    intro hoC hmx F₁ N₁ off ne
    clear F N
    have hck := KBw.ints_get hc
    rw [hk] at hck
    k_dflt walk_at "my steps"
    rename Fr _ _ _ _ => F'
    rename News _ _ _ _ => N'
    refine pair_endN F' N' off ⟨by k_ne, by k_ne, by k_ne⟩ fun q hq => ⟨qs ++ [q], by simp [pRefs], fun p hp => ?_, ?_, ?_⟩
    · rcases List.mem_append.mp hp with h | h
      · exact .tail _ (hm p h)
      · rw [List.mem_singleton.mp h]; exact .head _
    · subst hq; rw [List.map_append, hq1, List.take_add_one, hck, Option.toList_some, List.map_append]; rfl
    · subst hq; rw [List.map_append, hq2, List.take_add_one, hck, Option.toList_some]; rfl
  · rintro ys nw hlen ⟨qs, rfl, hm, hq1, hq2⟩
    rw [← KBw.ints_length, hk, List.take_length] at hq1 hq2
    k_dflt walk_at "my steps"
    refine ⟨(_, LCg.lst (pRefs qs)) :: qs.map pObj, fun p hp => ?_, _, qs, rfl, hq1, hq2, rfl⟩
    rcases List.mem_cons.mp hp with rfl | hp
    · exact .head _
    · obtain ⟨q, hq, rfl⟩ := List.mem_map.mp hp
      exact .tail _ (hm q hq)
end
theorem rs_E2 : True := by
  w_top off
  trivial
structure LinkR where
  (x dx : Addr)
  (k1 k2 tn tg : Tok)
  (sx sdx : Addr)
  (sk1 sk2 : Tok)
  (hd : Addr)
  (b : Array UInt8)
  (tb : Tok)
  (kvs : List (Str × Value))
  v0 : VD
structure LinkAt (prog : Program) (w : World) (h : Heap) (tk : List (Int × Value)) (r : LinkR) (n : Int) (nxt : Value) : Prop where
  v : (VD.refr r.x r.dx r.k1 r.k2 n r.tn 0 r.tg).at_ w.params h
  f : Fetch w.params h tk (.refr r.x r.dx r.k1 r.k2 n r.tn 0 r.tg) (.strm r.sx r.sdx r.sk1 r.sk2 r.hd r.b r.tb)
  s : (VD.strm r.sx r.sdx r.sk1 r.sk2 r.hd r.b r.tb).at_ w.params h
  z : (KBw.bInts r.b).length ≤ 16777216
  e : Entry prog w h tk r.hd r.kvs "Type" r.v0 r.v0
  os : r.v0.isOs = true
  hu : r.v0 = .none ∨ ∃ x dx k s t, r.v0 = .name x dx k s t
  nx : (valueAt r.kvs "Extends").getD .none = nxt
noncomputable def chVal (rs : List LinkR) (i : Nat) : Value := match rs[i]? with | some r => .ref r.x | Option.none => .none
noncomputable def ChainAt (prog : Program) (w : World) (h : Heap) (tk : List (Int × Value)) (rs : List LinkR) : Prop :=
  ∀ (i : Nat) r, rs[i]? = some r → LinkAt prog w h tk r ((rs.length : Int) - (i : Int)) (chVal rs (i + 1))
noncomputable abbrev refsOf (rs : List LinkR) : List Value := rs.map fun r => .ref r.x
theorem LinkAt.keeps {prog : Program} {w : World} {h h' : Heap} {tk : List (Int × Value)} {r : LinkR} {n : Int} {nxt : Value} (x : LinkAt prog w h tk r n nxt) (k : ∀ b o, h.get? b = some o → h'.get? b = some o) : LinkAt prog w h' tk r n nxt :=
  ⟨VD.keeps x.v k, x.f.keeps k, VD.keeps x.s k, x.z, x.e.keeps k, x.os, x.hu, x.nx⟩
theorem ChainAt.keeps {prog : Program} {w : World} {h h' : Heap} {tk : List (Int × Value)} {rs : List LinkR} (x : ChainAt prog w h tk rs) (k : ∀ b o, h.get? b = some o → h'.get? b = some o) : ChainAt prog w h' tk rs :=
  fun i r hr => (x i r hr).keeps k
section
variable {prog : Program} {w : World} {S dS T T2 : Addr} {sk1 sk2 : Tok} {tk : List (Int × Value)}
theorem fetch_refr (n : Nat) {x dx : Addr} {k1 k2 tn tg : Tok} {m g : Int} {sx sdx : Addr} {sk1' sk2' : Tok} {hd : Addr} {b : Array UInt8} {tb : Tok} :
    Fun prog w 448 n [.ref S, .ref x] (fun h => ShAt prog w h S dS T T2 sk1 sk2 tk ∧ (VD.refr x dx k1 k2 m tn g tg).at_ w.params h ∧ Fetch w.params h tk (.refr x dx k1 k2 m tn g tg) (.strm sx sdx sk1' sk2' hd b tb)) [] (fun v' news' _ => news' = [] ∧ v' = .ref sx) :=
  fetch_ct n (.refr x dx k1 k2 m tn g tg) (.strm sx sdx sk1' sk2' hd b tb)
theorem is_os_true (n : Nat) {x dx hd : Addr} {k1 k2 : Tok} {b : Array UInt8} {tb : Tok} {kvs : List (Str × Value)} {v u : VD} (ho : u.isOs = true) (hu : u = .none ∨ ∃ x dx k s t, u = .name x dx k s t) :
    Fun prog w 681 (n + 2) [.ref S, .ref x] (fun h => ShAt prog w h S dS T T2 sk1 sk2 tk ∧ (VD.strm x dx k1 k2 hd b tb).at_ w.params h ∧ Entry prog w h tk hd kvs "Type" v u) [] (fun v' news' _ => news' = [] ∧ v' = .bool true) := by
  rw [← ho]; exact is_os_ct n hu
end
theorem ln_97 : True := by
  k_with "my call" => (((with_reducible show wpAny _ _ (call (Value.ref 448) [Value.ref _, Value.ref _]) _ _ _); k_dflt (refine' useA0 (fetch_refr _) ?q97zM ?q97zB ?q97zF ?q97zN (List.forall_mem_nil _) Pick.all ?q97zhP ?_ rfl rfl; (case q97zhP => exact ⟨ShAt.keeps (by assumption) (Fr.keep (by k_asm)), VD.keeps (by assumption) (Fr.keep (by k_asm)), Fetch.keeps (by assumption) (Fr.keep (by k_asm))⟩); (case q97zM => assumption); (case q97zB => assumption); (case q97zF => k_asm); (case q97zN => k_asm)); intro _ _ _ _; walk_at "tout"; (try k_sweep)))
  k_with "my call" => (((with_reducible show wpAny _ _ (call (Value.ref 681) [Value.ref _, Value.ref _]) _ _ _); k_dflt (refine' useA0 (is_os_true _ ?q98zho ?q98zhu) ?q98zM ?q98zB ?q98zF ?q98zN (List.forall_mem_nil _) Pick.all ?q98zhP ?_ rfl rfl; (case q98zhP => exact ⟨ShAt.keeps (by assumption) (Fr.keep (by k_asm)), VD.keeps (by assumption) (Fr.keep (by k_asm)), Entry.keeps (by assumption) (Fr.keep (by k_asm))⟩); (case q98zho => assumption); (case q98zhu => assumption); (case q98zM => assumption); (case q98zB => assumption); (case q98zF => k_asm); (case q98zN => k_asm)); intro _ _ _ _; walk_at "tout"; (try k_sweep)))
  trivial
section
variable {prog : Program} {w : World} {S dS T T2 : Addr} {sk1 sk2 : Tok} {tk : List (Int × Value)}
theorem extends_ct (n : Nat) {rs : List LinkR} {v : Value} (hv : v = chVal rs 0) (hl : rs.length ≤ 10) :
    Fun prog w 761 (n + 4) [.ref S, v] (fun h => ShAt prog w h S dS T T2 sk1 sk2 tk ∧ ChainAt prog w h tk rs) [] (fun v' news' _ => ∃ D k, v' = .ref D ∧ news' = [(D, listOf (refsOf rs).toArray k)]) := by
  refine Fun.sub ?_
  intro A base l s R M O hP ret
  have bd : Bd [("shelf", .ref S), ("reference", v)] := ⟨⟩
  k_dflt walk_at "my enter"
  rename Kg _ _ _ => kg
  have hP := And.intro (hP.1.keeps kg.keeps) (hP.2.keeps kg.keeps)
  obtain ⟨hSh, hC⟩ := hP
  have hS := hSh.hS
  have hdS := hSh.hd
  k_dflt walk_at "my steps"
  rename Fr _ _ _ _ => F
  rename News _ _ _ _ => N
  refine While_x (fun n m nx => ∃ i lf, n + i = rs.length ∧ m "here" = some (chVal rs i) ∧ m "found" = some (.ref lf) ∧ m "shelf" = some (.ref S) ∧ ∃ k, nx = [(lf, listOf (refsOf (rs.take i)).toArray k)])
    (fun m nx => ∃ lf, m "found" = some (.ref lf) ∧ ∃ k, nx = [(lf, listOf (refsOf rs).toArray k)]) (n₀ := rs.length) F N (iE2 0 _ (iA5 rfl (by rw [← hv]; rfl) rfl rfl ⟨_, rfl⟩)) ?_ ?_
  · intro n' m₁ nx h₁ tk₁ F₁ N₁ HJ
    refine x2_5 HJ ?_
    clear HJ
    rintro i lf hi e1 e2 e3 HJ
    refine x1_1 HJ ?_
    clear HJ
    rintro k rfl
    clear F N
    cases hr : rs[i]? with
    | none =>
      have hle : rs.length ≤ i := List.getElem?_eq_none_iff.mp hr
      rw [List.take_of_length_le hle] at N₁
      rw [show chVal rs i = .none from by unfold chVal; rw [hr]] at e1
      have F₂ := Fr.put (Fr.put (Fr.put F₁ "here" e1) "found" e2) "shelf" e3
      clear F₁
      (try k_fold)
      k_dflt walk_at "my steps"
      exact iE4 _ _ _ _ (iA4 rfl F₂ N₁ ⟨lf, rfl, k, rfl⟩)
    | some r =>
      have hlt : i < rs.length := (List.getElem?_eq_some_iff.mp hr).1
      rw [show chVal rs i = .ref r.x from by unfold chVal; rw [hr]] at e1
      have F₂ := Fr.put (Fr.put (Fr.put F₁ "here" e1) "found" e2) "shelf" e3
      clear F₁
      (try k_fold)
      have hL := hC i r hr
      obtain ⟨x, dx, k1, k2, tn, tg, sx, sdx, sk1', sk2', hd, b, tb, kvs, v0⟩ := r
      obtain ⟨lv, lf, ls, lz, le, los, lhu, lnx⟩ := hL
      dsimp only at lv lf ls lz le los lhu lnx F₂
      have lv' := id lv
      have ls' := id ls
      obtain ⟨lv1, lv2⟩ := lv'
      obtain ⟨ls1, ls2⟩ := ls'
      have ed := le.d
      have elo := le.lo
      k_dflt walk_at "my steps"
      rename Fr _ _ _ _ => F
      k_dflt (refine' LCg.ListComp_U (F₀ := F) ?k1 ?k2 ?k3 ?k4 ?k5 ?_; (case k1 => exact rfl); (case k2 => decide); (case k3 => exact rfl); (case k4 => decide); (case k5 => exact rfl))
      k_dflt walk_at "my steps"
      rename Fr _ _ _ _ => F
      rename News _ _ _ _ => N
      refine LCg.CompSrc.ledger M.handledD F N (.head _) (by rw [sizeLine_eq, List.size_toArray, List.length_map, List.length_take]; omega) fun g₁ => ?_
      refine comp_inv (fun _ ys nw => nw = [(_, listOf (refsOf (rs.take i)).toArray k)] ∧ ∃ ns, IntsAre ys ns ∧ ∀ q ∈ ns, (rs.length : Int) - (i : Int) < q) ⟨rfl, [], .nil, fun q hq => nomatch hq⟩ ?_ ?_
      · rintro j ys nw v I oI C oC D m₂ h tk E' hj hlen hv ⟨rfl, ns, hys, hns⟩ hoC hmx F₁ N₁ off ne
        clear F N
        have hji : j < i ∧ j < rs.length := by
          rw [List.size_toArray, List.length_map, List.length_take] at hj; exact Nat.lt_min.mp hj
        have hrj : rs[j]? = some rs[j] := List.getElem?_eq_getElem hji.2
        obtain rfl : v = .ref (rs[j]).x := by
          rw [List.getElem?_toArray, List.getElem?_map, List.getElem?_take_of_lt hji.1, hrj] at hv
          exact (Option.some.inj hv).symm
        obtain ⟨j1, j2⟩ := (hC j _ hrj).v
        k_dflt walk_at "my steps"
        rename Fr _ _ _ _ => F'
        rename News _ _ _ _ => N'
        exact LCg.CompEnd.intro F' N' _ (fun p hp => hp) off (.inr ⟨_, .head _, rfl, _, rfl⟩) ⟨rfl, ns ++ [_], hys.append (.cons _ _ .nil), fun q hq => by
          rcases List.mem_append.mp hq with h | h
          · exact hns q h
          · rw [List.mem_singleton.mp h]; omega⟩
      · rintro ys nw hlen ⟨rfl, ns, hys, hns⟩
        have hany : (ns.any fun x => x == (rs.length : Int) - (i : Int)) = false := by
          rw [List.any_eq_false]
          intro q hq
          have := hns q hq
          simp only [beq_iff_eq]; omega
        have hli : (List.take i rs).length = i := by rw [List.length_take]; omega
        k_dflt walk_at "my steps"
        rename Fr _ _ _ _ => F'
        rename News _ _ _ _ => N'
        have e : refsOf (List.take i rs) ++ [.ref x] = refsOf (List.take (i + 1) rs) := by
          rw [List.take_add_one, hr, Option.toList_some]; show _ = List.map _ _; rw [List.map_append]; rfl
        rw [e] at N'
        exact iE5 _ _ _ _ (n' - 1) (iA5 rfl F' (fun p hp => N' p (.tail _ hp)) (by omega) (iE2 (i + 1) _ (iA5 (by omega) rfl rfl rfl ⟨_, rfl⟩)))
  · rintro m₁ nx h₁ tk₁ F₁ N₁ ⟨lf, e2, k, rfl⟩
    clear F N
    have F₂ := Fr.put F₁ "found" e2
    clear F₁
    (try k_fold)
    k_dflt walk_at "my steps"
    exact ⟨_, fun p hp => hp, lf, k, rfl, rfl⟩
end
theorem rs_E3 : True := by
  w_top off
  trivial
noncomputable def putF (d : List (Int × Int)) (k v : Int) : List (Int × Int) := if d.any (fun p => p.1 = k) then d else d ++ [(k, v)]
noncomputable def rowD (d : List (Int × Int)) (codes : List Int) : List (Int × Int) := codes.foldl (fun d c => putF d (c.fdiv 10) c) d
noncomputable def chainD (d : List (Int × Int)) (cls : List (List Int)) : List (Int × Int) := cls.foldl rowD d
inductive IVals : List (Int × Value) → List (Int × Int) → Prop
  | nil : IVals [] []
  | cons {k v : Int} {t : Tok} {kvs d} : IVals kvs d → IVals ((k, .int v t) :: kvs) ((k, v) :: d)
theorem IVals.append {a b : List (Int × Value)} {c d : List (Int × Int)} (h : IVals a c) (h2 : IVals b d) : IVals (a ++ b) (c ++ d) := by
  induction h with
  | nil => exact h2
  | cons _ ih => exact .cons ih
theorem IVals.any {a : List (Int × Value)} {c : List (Int × Int)} (h : IVals a c) (k : Int) : a.any (fun p => p.1 = k) = c.any (fun p => p.1 = k) := by
  induction h with
  | nil => rfl
  | cons _ ih => rw [List.any_cons, List.any_cons, ih]
theorem IVals.length {a : List (Int × Value)} {c : List (Int × Int)} (h : IVals a c) : a.length = c.length := by
  induction h with
  | nil => rfl
  | cons _ ih => simp [ih]
theorem valueAt_any {K : Type} [DecidableEq K] (l : List (K × Value)) (k : K) : (valueAt l k).isSome = l.any (fun p => p.1 = k) := by
  induction l with
  | nil => rfl
  | cons kv l ih =>
    rw [valueAt_cons, List.any_cons]
    by_cases h : kv.1 = k
    · simp [h]
    · rw [if_neg h, ih, decide_eq_false h, Bool.false_or]
theorem IVals.put {a : List (Int × Value)} {c : List (Int × Int)} (h : IVals a c) (k v : Int) (t : Tok) (hn : (valueAt a k).isSome = false) : IVals (stored a k (.int v t)) (putF c k v) := by
  rw [valueAt_any] at hn
  unfold stored putF
  rw [h.any] at hn
  rw [h.any, if_neg (by rw [hn]; decide), if_neg (by rw [hn]; decide)]
  exact h.append (.cons .nil)
theorem IVals.there {a : List (Int × Value)} {c : List (Int × Int)} (h : IVals a c) (k v : Int) (hn : (valueAt a k).isSome = true) : putF c k v = c := by
  rw [valueAt_any, h.any] at hn
  unfold putF
  rw [if_pos hn]
noncomputable def codesOf (rs : List LinkR) : List (List Int) := rs.map fun r => KBw.bInts r.b
theorem putF_length (d : List (Int × Int)) (k v : Int) : (putF d k v).length ≤ d.length + 1 := by
  unfold putF; split <;> simp
theorem offs_of {g hh : Heap} {L : Addr} {led news' : List (Addr × Obj)} (N : News g L hh led) (ho : ∀ p ∈ news', p.1 ∈ ([] : List (Addr × Obj)).map Prod.fst ∨ hh.get? p.1 = none) : ∀ p ∈ news', ∀ q ∈ led, p.1 ≠ q.1 := fun p hp q hq e => by
  rcases ho p hp with h | h
  · cases h
  · rw [e, (N q hq).1] at h; cases h
theorem ln_99 : True := by
  k_with "my call" => (((with_reducible show wpAny _ _ (call (Value.ref 804) [Value.ref _, Value.ref _]) _ _ _); (rename News _ _ _ _ => N0'); k_dflt (refine' use (rows_ct _ ?q99zhk ?q99zhz) ?q99zM ?q99zB ?q99zF ?q99zN (List.forall_mem_nil _) Pick.all ?q99zhP ?_ rfl rfl; (case q99zhP => exact VD.keeps (by assumption) (Fr.keep (by k_asm))); (case q99zM => assumption); (case q99zB => assumption); (case q99zF => k_asm); (case q99zN => exact N0'); (case q99zhk => exact rfl); (case q99zhz => assumption)); intro _ _ _ _ _ _ ho' q'; (have := offs_of N0' ho'); revert q'; revert this; clear ho'; intro _ q'; obtain ⟨_, _, rfl, _, _, rfl⟩ := q'; walk_at "tout"; (try k_sweep)))
  k_with "my call" => (((with_reducible show wpAny _ _ (call (Value.ref 761) [Value.ref _, _]) _ _ _); (rename News _ _ _ _ => N0'); k_dflt (refine' use (extends_ct _ ?q100zhv ?q100zhl) ?q100zM ?q100zB ?q100zF ?q100zN (List.forall_mem_nil _) Pick.all ?q100zhP ?_ rfl rfl; (case q100zhv => assumption); (case q100zhl => assumption); (case q100zhP => exact ⟨ShAt.keeps (by assumption) (Fr.keep (by k_asm)), ChainAt.keeps (by assumption) (Fr.keep (by k_asm))⟩); (case q100zM => assumption); (case q100zB => assumption); (case q100zF => k_asm); (case q100zN => exact N0')); intro _ _ _ _ _ _ ho' q'; (have := offs_of N0' ho'); revert q'; revert this; clear ho'; intro _ q'; obtain ⟨_, _, rfl, rfl⟩ := q'; walk_at "tout"; (try k_sweep)))
  trivial
theorem notin_my {prog : Program} {w : World} {A : Around} {E : Value → Shared → Prop} {s : Shared} {g : Heap} {L d : Addr} {led : List (Addr × Obj)} {o : Obj} {kvs : List (Int × Value)} {k : Int} {tk : Tok} {b : Bool} {Q : Value → Shared → Prop} (N : News g L s.heap led) (hp : (d, o) ∈ led) (hd : o.IsDictOf (intKind prog w) kvs) (lo : (d == sysModules) = false) (hb : (valueAt kvs k).isSome = b)
    (h : Q (.bool (!b)) { s with toks := s.toks + 1 }) : wpAny (model prog w) A (compareOp .NotIn (.int k tk) (.ref d)) Q E s :=
  wpAny_notIn_of (intKind_is _ _ _ _) lo (kda_dict N hp hd).mapOf (by rw [hb]; exact h)
theorem ln_101 : True := by
  k_with "compareOp NotIn int ref" => ((k_here; k_dflt (refine' notin_my ?q101zN ?q101zp ?q101zd ?q101zl ?q101zb ?_; (case q101zN => k_asm); (case q101zp => k_mem); (case q101zd => assumption); (case q101zl => assumption); (case q101zb => assumption)); (try dsimp only [Bool.not_true, Bool.not_false])))
  trivial
section
variable {prog : Program} {w : World} {S dS T T2 : Addr} {sk1 sk2 : Tok} {tk : List (Int × Value)}
theorem read_chain_ct (n : Nat) {rs : List LinkR} {v : Value} (hv : v = chVal rs 0) (hl : rs.length ≤ 10) (hc : ∀ r ∈ rs, (KBw.bInts r.b).length ≤ 100) :
    Fun prog w 768 (n + 6) [.ref S, v, .ref 804] (fun h => ShAt prog w h S dS T T2 sk1 sk2 tk ∧ ChainAt prog w h tk rs) [] (fun v' news' _ => ∃ D oD kvs, v' = .ref D ∧ news' = [(D, oD)] ∧ (D == sysModules) = false ∧ oD.IsDictOf (intKind prog w) kvs ∧ IVals kvs (chainD [] (codesOf rs))) := by
  refine Fun.sub ?_
  intro A base l s R M O hP ret
  have bd : Bd [("shelf", .ref S), ("reference", v), ("read", .ref 804)] := ⟨⟩
  k_dflt walk_at "my enter"
  rename Kg _ _ _ => kg
  have hP := And.intro (hP.1.keeps kg.keeps) (hP.2.keeps kg.keeps)
  obtain ⟨hSh, hC⟩ := hP
  have hS := hSh.hS
  have hdS := hSh.hd
  k_dflt walk_at "my steps"
  rename Fr _ _ _ _ => F
  k_dflt (refine' For_invVF F ?k1 ?k2 ?_; (case k1 => exact rfl); (case k2 => exact rfl))
  k_dflt walk_at "my steps"
  rename Fr _ _ _ _ => F
  rename News _ _ _ _ => N
  rename Obj.IsDictOf (intKind prog w) _ _ => hD0
  rename_i fd _ oD0 lo0 _ _ _ _ _ _ _ lf kf hlfd
  have hlfd := neN (hlfd _ (.head _) _ (.head _))
  dsimp only at hlfd
  refine iter_list_my (vs := refsOf rs) (k := kf) (fun i m nx => ∃ oD kvs, nx = [(lf, listOf (refsOf rs).toArray kf), (fd, oD)] ∧ oD.IsDictOf (intKind prog w) kvs ∧ IVals kvs (chainD [] (codesOf (rs.take i))) ∧ kvs.length ≤ 100 * i ∧ m "found" = some (.ref fd) ∧ m "shelf" = some (.ref S) ∧ m "read" = some (.ref 804))
    M.handledD ?_ F N (iE2 _ _ (iA7 rfl hD0 .nil (Nat.zero_le _) rfl rfl rfl)) ?_ ?_
  · rintro i m nx ⟨_, _, rfl, _⟩; exact .head _
  · intro i v' m₁ news₁ h tk' I oI hv' HJ
    refine x2_7 HJ ?_
    clear HJ
    rintro oD kvs enx hD hI hkl e1 e2 e3
    intro hne F₁ N₁
    rw [enx] at N₁ hne
    clear enx
    clear F N hD0
    obtain ⟨r, hr, rfl⟩ : ∃ r, rs[i]? = some r ∧ v' = .ref r.x := by
      rw [List.getElem?_map] at hv'
      obtain ⟨r, hr, rfl⟩ := Option.map_eq_some_iff.mp hv'
      exact ⟨r, hr, rfl⟩
    have hcr := hc r (List.mem_of_getElem? hr)
    have hil : i < rs.length := (List.getElem?_eq_some_iff.mp hr).1
    have hL := hC i r hr
    obtain ⟨x, dx, k1, k2, tn, tg, sx, sdx, sk1', sk2', hd, b, tb, kvs0, v0⟩ := r
    obtain ⟨lv, lff, ls, lz, le, los, lhu, lnx⟩ := hL
    dsimp only at lv lff ls lz le los lhu lnx F₁ hcr
    have F₂ := Fr.put (Fr.put (Fr.put F₁ "found" e1) "shelf" e2) "read" e3
    clear F₁ hv'
    simp only [List.forall_mem_cons] at hne
    obtain ⟨n1, n2, _⟩ := hne
    replace n1 := neN n1
    replace n2 := neN n2
    (try k_fold)
    k_dflt walk_at "my steps"
    rename Fr _ _ _ _ => F
    k_dflt (refine' For_T F ?_)
    k_dflt walk_at "my steps"
    rename Fr _ _ _ _ => F
    rename_i Dl qs hqn hqo N hoff
    have hTo : Offs (qs.map pObj) [I, lf, fd] := fun p hp hm => by
      have h0 := hoff p (.tail _ hp)
      simp only [List.forall_mem_cons] at h0
      simp only [List.mem_cons, List.not_mem_nil, or_false] at hm
      rcases hm with e | e | e
      · exact h0.1 e
      · exact h0.2.1 e
      · exact h0.2.2.1 e
    have h0 := hoff _ (.head _)
    simp only [List.forall_mem_cons] at h0
    obtain ⟨o1, o2, o3, _⟩ := h0
    replace o1 := neN o1
    replace o2 := neN o2
    replace o3 := neN o3
    clear hoff
    have N' : News _ _ _ ((Dl, LCg.lst (pRefs qs)) :: (I, oI) :: (lf, listOf (refsOf rs).toArray kf) :: (fd, oD) :: qs.map pObj) := fun p hp => N p (by
      simp only [List.mem_cons, List.mem_append, List.not_mem_nil, or_false] at hp ⊢
      rcases hp with h | h | h | h | h <;> simp [h])
    clear N
    refine iE6 Dl (pRefs qs) (pRefs qs).length _ _ (fun j m nx => ∃ oD kvs, nx = (Dl, LCg.lst (pRefs qs)) :: (I, oI) :: (lf, listOf (refsOf rs).toArray kf) :: (fd, oD) :: qs.map pObj ∧ oD.IsDictOf (intKind prog w) kvs ∧
        IVals kvs (rowD (chainD [] (codesOf (rs.take i))) ((KBw.bInts b).take j)) ∧ kvs.length ≤ 100 * i + j ∧ m "found" = some (.ref fd) ∧ m "shelf" = some (.ref S) ∧ m "read" = some (.ref 804))
      (iA9 rfl ?_ M.handledD ?_ F N' (iE2 _ _ (iA7 rfl hD hI (by omega) rfl rfl rfl)) ?_ ?_)
    · intro u hu
      obtain ⟨q, _, rfl⟩ := List.mem_map.mp hu
      exact ⟨_, rfl⟩
    · rintro j m nx ⟨_, _, rfl, _⟩; exact .head _
    · clear F N' hD hI e1 e2 e3 hkl
      intro j u m₂ nx h₂ tk₂ I2 oI2 hu HJ
      refine x2_7 HJ ?_
      clear HJ
      rintro oD' kvs' enx hD' hI' hkl' e1 e2 e3
      intro hne2 F₁ N₁
      rw [enx] at N₁ hne2
      clear enx
      obtain ⟨q, hq, rfl⟩ : ∃ q, qs[j]? = some q ∧ u = .ref q.a := by
        rw [List.getElem?_map] at hu
        obtain ⟨q, hq, rfl⟩ := Option.map_eq_some_iff.mp hu
        exact ⟨q, hq, rfl⟩
      have hjl : j < qs.length := (List.getElem?_eq_some_iff.mp hq).1
      have hql : qs.length = (KBw.bInts b).length := by rw [← hqo, List.length_map]
      have hcj : (KBw.bInts b)[j]? = some q.o := by rw [← hqo, List.getElem?_map, hq]; rfl
      have hnj : q.n = q.o.fdiv 10 := by
        have h1 : (qs.map PR.n)[j]? = some q.n := by rw [List.getElem?_map, hq]; rfl
        rw [hqn, List.getElem?_map, hcj] at h1
        exact (Option.some.inj h1).symm
      have hT := News.isTup N₁ (a := q.a) (items := (pItems q).toArray) (.tail _ (.tail _ (.tail _ (.tail _ (.tail _ (List.mem_map_of_mem (f := pObj) (List.mem_of_getElem? hq)))))))
      obtain ⟨a, n, o, tn', to⟩ := q
      dsimp only at hcj hnj hT
      subst hnj
      have hT : IsTup h₂ a [Value.int (o.fdiv 10) tn', .int o to].toArray := hT
      have F₂ := Fr.put (Fr.put (Fr.put F₁ "found" e1) "shelf" e2) "read" e3
      clear F₁ hu
      simp only [List.forall_mem_cons] at hne2
      refine a5 hne2 ?_
      intro m1 m2 m3 m4 m5
      replace m1 := neN m1
      replace m2 := neN m2
      replace m3 := neN m3
      replace m4 := neN m4
      (try k_fold)
      have hrow : rowD (chainD [] (codesOf (rs.take i))) ((KBw.bInts b).take (j + 1)) = putF (rowD (chainD [] (codesOf (rs.take i))) ((KBw.bInts b).take j)) (o.fdiv 10) o := by
        rw [List.take_add_one, hcj, Option.toList_some]
        unfold rowD
        rw [List.foldl_append]; rfl
      rcases Bool.eq_false_or_eq_true (valueAt kvs' (o.fdiv 10)).isSome with hb | hb
      · k_dflt walk_at "my steps"
        rename Fr _ _ _ _ => F'
        rename News _ _ _ _ => N'
        refine Turn.intro F' N' (.head _) (fun p hp => .tail _ hp) (by simp only [List.forall_mem_cons]; exact ⟨m1, m2, m3, m4, m5⟩) (iE2 _ _ (iA7 rfl hD' ?_ (by omega) rfl rfl rfl))
        rw [hrow, hI'.there _ _ hb]; exact hI'
      · k_dflt walk_at "my steps"
        rename Fr _ _ _ _ => F'
        rename News _ _ _ _ => N'
        rename Obj.IsDictOf (intKind prog w) _ (stored _ _ _) => hD2
        have := stored_length_le kvs' (o.fdiv 10) (.int o to)
        refine Turn.intro F' N' (.head _) (fun p hp => .tail _ hp) (by simp only [List.forall_mem_cons]; exact ⟨m1, m2, m3, m4, m5⟩) (iE2 _ _ (iA7 rfl hD2 ?_ (by omega) rfl rfl rfl))
        rw [hrow]; exact hI'.put _ _ _ hb
    · intro m₂ nx h₂ tk₂ HJ
      refine x2_7 HJ ?_
      clear HJ
      rintro oD' kvs' enx hD' hI' hkl' e1 e2 e3
      intro F₁ N₁
      rw [enx] at N₁
      clear enx
      clear F N' hD hI
      have F₂ := Fr.put (Fr.put (Fr.put F₁ "found" e1) "shelf" e2) "read" e3
      clear F₁
      (try k_fold)
      k_dflt walk_at "my steps"
      rename Fr _ _ _ _ => F'
      rename News _ _ _ _ => N'
      have hql : (pRefs qs).length = (KBw.bInts b).length := by rw [← hqo, List.length_map, List.length_map]
      rw [hql, List.take_length] at hI'
      rw [hql] at hkl'
      refine Turn.intro (nx := [(lf, listOf (refsOf rs).toArray kf), (fd, oD')]) F' N' (.tail _ (.head _)) (fun p hp => by simp only [List.mem_cons, List.not_mem_nil, or_false] at hp ⊢; rcases hp with h | h <;> simp [h]) (by simp only [List.forall_mem_cons]; exact ⟨n1, n2, fun x hx => nomatch hx⟩) (iE2 _ _ (iA7 rfl hD' ?_ (by omega) rfl rfl rfl))
      have e : codesOf (rs.take (i + 1)) = codesOf (rs.take i) ++ [KBw.bInts b] := by
        unfold codesOf
        rw [List.take_add_one, hr, Option.toList_some, List.map_append]; rfl
      rw [e]
      unfold chainD
      rw [List.foldl_append]
      exact hI'
  · intro m₁ nx h₁ tk₁ HJ
    refine x2_7 HJ ?_
    clear HJ
    rintro oD kvs enx hD hI hkl e1 e2 e3
    intro F₁ N₁
    rw [enx] at N₁
    clear enx
    clear F N hD0
    have F₂ := Fr.put F₁ "found" e1
    clear F₁
    (try k_fold)
    rw [List.length_map, List.take_length] at hI
    k_dflt walk_at "my steps"
    exact ⟨[(fd, oD)], fun p hp => .tail _ hp, iE3 _ _ _ (iA5 rfl rfl lo0 hD hI)⟩
end
theorem rs_Enc : True := by
  w_top off
  trivial
open Builtin._codecs in
theorem encodeRoad_ascii (id : String) (self : Value) (x : Str) (errors : Option Str) : encodeRoad id self x (Str.ofString "ascii") errors = (do mkBytes (← encodeNarrow id asciiCodec errors self x)) := by
  first | rfl | (unfold encodeRoad; rfl) | (unfold encodeRoad; simp only []; rfl) | decide
theorem loop2 {S : Type} (f : Nat → S → Sem (ForInStep S)) (a b : S) (n : Nat) (h1 : ∀ i, f i a = pure (.yield b)) (h2 : ∀ i, f i b = pure (.done b)) : (forIn (List.range' 0 (n + 1) 1) a f : Sem S) = pure b := by
  rw [List.range'_succ, List.forIn_cons, h1]
  show (forIn (List.range' (0 + 1) n 1) b f : Sem S) = pure b
  cases n with
  | zero => rfl
  | succ k =>
    rw [List.range'_succ, List.forIn_cons, h2]; rfl
open Builtin._codecs in
theorem narrow_tree (id : String) (self : Value) (x : Str) : ∃ (T : Nat × Array UInt8 × Faults → Sem (ForInStep (Nat × Array UInt8 × Faults))) (Z : Nat × Array UInt8 × Faults → Nat → Sem (ForInStep (Nat × Array UInt8 × Faults))),
    encodeNarrow id asciiCodec none self x = (do
      let s ← forIn [:x.length] (0, #[], {}) fun _ s =>
        if s.2.1.size > sizeLine then T s else
        match x.cps[s.1]? with
        | some c => if (!asciiCodec.bad c) = true then
            pure (ForInStep.yield (s.1 + (Array.findIdx? asciiCodec.bad (x.cps.extract s.1)).getD (x.cps.extract s.1).size,
              Array.foldl (fun acc y => acc ++ (asciiCodec.bytesOf y).toArray) s.2.1 ((x.cps.extract s.1).extract 0 ((Array.findIdx? asciiCodec.bad (x.cps.extract s.1)).getD (x.cps.extract s.1).size)), s.2.2)) else Z s c
        | _ => pure (ForInStep.done (s.1, s.2.1, s.2.2))
      pure s.2.1) := ⟨_, _, rfl⟩
open Builtin._codecs in
theorem narrow_ascii (id : String) (self : Value) (x : Str) (h : ∀ c ∈ x.cps, c < 128) (hz : x.cps.size ≤ sizeLine) :
    encodeNarrow id asciiCodec none self x = pure (x.cps.map (·.toUInt8)) := by
  obtain ⟨T, Z, e⟩ := narrow_tree id self x
  rw [e]
  clear e
  have hb : ∀ c ∈ x.cps, asciiCodec.bad c = false := fun c hc => by
    show decide (c ≥ 128) = false
    have := h c hc
    rw [decide_eq_false]; omega
  have hf : x.cps.findIdx? asciiCodec.bad = none := by
    rw [Array.findIdx?_eq_none_iff]; exact hb
  have hm : ∀ (l : List Nat) (acc : Array UInt8), l.foldl (fun acc y => acc ++ (asciiCodec.bytesOf y).toArray) acc = acc ++ (l.map (·.toUInt8)).toArray := by
    intro l
    induction l with
    | nil => intro acc; simp
    | cons c r ih => intro acc; rw [List.foldl_cons, ih]; show acc ++ [c.toUInt8].toArray ++ _ = _; simp
  rw [Std.Legacy.Range.forIn_eq_forIn_range']
  cases hn : x.cps.size with
  | zero =>
    have : x.cps = #[] := Array.eq_empty_of_size_eq_zero hn
    have hl : x.length = 0 := hn
    rw [this]
    have hsz : (Std.Legacy.Range.mk 0 x.length 1 (by decide)).size = 0 := by simp [Std.Legacy.Range.size, hl]
    rw [hsz, List.range'_zero, List.forIn_nil, Array.map_empty]; rfl
  | succ k =>
    have hl : x.length = k + 1 := hn
    have h0 : x.cps[0]? = some x.cps[0] := Array.getElem?_eq_getElem _
    have e1 : ¬ ((#[] : Array UInt8).size > sizeLine) := by rw [sizeLine_eq]; decide
    have e2 : asciiCodec.bad x.cps[0] = false := hb _ (Array.getElem_mem _)
    have e3 : x.cps.extract 0 x.cps.size = x.cps := by simp
    have hsz : (Std.Legacy.Range.mk 0 x.length 1 (by decide)).size = k + 1 := by simp [Std.Legacy.Range.size, hl]
    rw [hsz]
    refine (congrArg (· >>= _) (loop2 _ _ (k + 1, x.cps.map (·.toUInt8), {}) k (fun i => ?_) (fun i => ?_))).trans rfl
    · dsimp only
      rw [if_neg e1, h0]
      dsimp only
      rw [e2, if_pos (show (!false) = true from rfl), ← hn, e3, hf]
      dsimp only [Option.getD]
      rw [e3, ← Array.foldl_toList, hm, Nat.zero_add, Array.empty_append, ← Array.toList_map]
    · dsimp only
      rw [if_neg (by rw [Array.size_map]; omega), Array.getElem?_eq_none (by omega)]
section
variable {prog : Program} {w : World} {A : Around} {E : Value → Shared → Prop} {s : Shared} {x : Str} {t u : Tok} {Q : Value → Shared → Prop}
theorem encode_ascii (h : ∀ c ∈ x.cps, c < 128) (hz : x.cps.size ≤ 1000000) (hq : ∀ tk', Q (.bytes (x.cps.map (·.toUInt8)) tk') { s with toks := tk' + 1 }) :
    wpAny (model prog w) A (call (.builtin "str.encode") [.str x t, .str (Str.ofString "ascii") u]) Q E s := by
  refine wpAny_call_entry PySem.F.slot_str_encode (typeIs_str _ _ _) PySem.F.entry_str_encode ?_ (PySem.F.args_str_encode_2 _ _)
  unfold Builtin.«str.encode»
  repeat wp_step
  rw [if_neg (by decide +kernel)]
  dsimp only
  rw [if_neg (by decide +kernel)]
  refine wpAny_pure ?_
  dsimp only [Option.getD]
  refine wpAny_bind (wpAny_pure ?_)
  show wpAny _ _ (Builtin._codecs.encodeRoad "str.encode" (.str x t) x (Str.ofString "ascii") none >>= _) _ _ _
  rw [encodeRoad_ascii, narrow_ascii _ _ _ h (by rw [sizeLine_eq]; omega)]
  refine wpAny_bind (wpAny_bind (wpAny_pure (wpAny_mkBytes ?_ ?_)))
  · exact wpAny_pure ⟨_, rfl, hq _⟩
  · rw [Array.size_map, sizeLine_eq]; omega
end
theorem rs_P1 : True := by
  w_top off
  trivial
noncomputable abbrev dec (n : Int) : Str := (toString n : String)
noncomputable def codesS (s : Str) : List Int := s.cps.toList.map fun (c : Nat) => (c : Int)
theorem dec_all : ∀ n : Nat, n < 200 → (codesS (dec n)).length ≤ 3 ∧ codesS (dec n) ≠ [] ∧ (codesS (dec n)).all (fun x => isFig x) = true ∧ val (codesS (dec n)) = n := by decide +kernel
theorem dec_at {n : Int} (h0 : 0 ≤ n) (h1 : n < 200) : (codesS (dec n)).length ≤ 3 ∧ codesS (dec n) ≠ [] ∧ (codesS (dec n)).all (fun x => isFig x) = true ∧ val (codesS (dec n)) = n := by
  have := dec_all n.toNat (by omega)
  rwa [show ((n.toNat : Nat) : Int) = n by omega] at this
theorem dec_len {n : Int} (h0 : 0 ≤ n) (h1 : n < 200) : (dec n).length ≤ 3 := by
  have := (dec_at h0 h1).1
  unfold codesS at this
  rw [List.length_map] at this
  exact this
noncomputable def rowsOf : Int → List (Int × Int) → List Str
  | _, [] => []
  | off, (n, v) :: r => (dec n ++ Str.ofString " " ++ dec off) :: rowsOf (off + (dec v).length + 1) r
noncomputable def offEnd : Int → List (Int × Int) → Int
  | off, [] => off
  | off, (_, v) :: r => offEnd (off + (dec v).length + 1) r
noncomputable def partsOf (ps : List (Int × Int)) : List Str := ps.map fun p => dec p.2
theorem rowsOf_snoc (n v : Int) : ∀ (off : Int) (l : List (Int × Int)), rowsOf off (l ++ [(n, v)]) = rowsOf off l ++ [dec n ++ Str.ofString " " ++ dec (offEnd off l)]
  | _, [] => rfl
  | off, (m, u) :: r => by
    show _ :: rowsOf _ (r ++ [(n, v)]) = _
    rw [rowsOf_snoc n v _ r]; rfl
theorem offEnd_snoc (n v : Int) : ∀ (off : Int) (l : List (Int × Int)), offEnd off (l ++ [(n, v)]) = offEnd off l + (dec v).length + 1
  | _, [] => rfl
  | off, (m, u) :: r => by
    show offEnd _ (r ++ [(n, v)]) = _
    rw [offEnd_snoc n v _ r]; rfl
theorem rowsOf_length : ∀ (off : Int) (l : List (Int × Int)), (rowsOf off l).length = l.length
  | _, [] => rfl
  | _, (_, _) :: r => by show (rowsOf _ r).length + 1 = _; rw [rowsOf_length _ r]; rfl
theorem offEnd_bound : ∀ (l : List (Int × Int)) (off : Int), (∀ p ∈ l, 0 ≤ p.2 ∧ p.2 < 200) → off ≤ offEnd off l ∧ offEnd off l ≤ off + 4 * l.length
  | [], off, _ => ⟨Int.le_refl _, by show off ≤ off + 4 * ((0 : Nat) : Int); omega⟩
  | (m, u) :: r, off, h => by
    have h1 := h _ (.head _)
    have : (dec u).length ≤ 3 := dec_len h1.1 h1.2
    have ih := offEnd_bound r (off + (dec u).length + 1) fun p hp => h p (.tail _ hp)
    show off ≤ offEnd _ r ∧ offEnd _ r ≤ _
    rw [List.length_cons]
    omega
theorem rs_P2 : True := by
  w_top off
  trivial
theorem codes_app (a b : Str) : codesS (a ++ b) = codesS a ++ codesS b := by
  show List.map _ (a.cps ++ b.cps).toList = _
  rw [Array.toList_append, List.map_append]; rfl
theorem codes_len (a : Str) : (codesS a).length = a.length := by
  unfold codesS; rw [List.length_map]; rfl
noncomputable def offPairs : Int → List (Int × Int) → List (Int × Int)
  | _, [] => []
  | off, (n, v) :: r => (n, off) :: offPairs (off + (dec v).length + 1) r
theorem offPairs_length : ∀ (off : Int) (l : List (Int × Int)), (offPairs off l).length = l.length
  | _, [] => rfl
  | _, (_, _) :: r => by show (offPairs _ r).length + 1 = _; rw [offPairs_length _ r]; rfl
theorem offPairs_fst : ∀ (off : Int) (l : List (Int × Int)), (offPairs off l).map Prod.fst = l.map Prod.fst
  | _, [] => rfl
  | _, (_, _) :: r => by show _ :: (offPairs _ r).map _ = _; rw [offPairs_fst _ r]; rfl
noncomputable def leadC (off : Int) (ps : List (Int × Int)) : List Int := codesS (Str.join (Str.ofString " ") (rowsOf off ps))
noncomputable def bodyC (ps : List (Int × Int)) : List Int := codesS (Str.join (Str.ofString "\n") (partsOf ps))
theorem c32 : codesS (Str.ofString " ") = [32] := by decide
theorem c10 : codesS (Str.ofString "\n") = [10] := by decide
theorem leadC_one (off n v : Int) : leadC off [(n, v)] = codesS (dec n) ++ 32 :: codesS (dec off) := by
  show codesS (dec n ++ Str.ofString " " ++ dec off) = _
  rw [codes_app, codes_app, c32]; simp
theorem leadC_cons (off n v : Int) (q : Int × Int) (r : List (Int × Int)) : leadC off ((n, v) :: q :: r) = codesS (dec n) ++ 32 :: (codesS (dec off) ++ 32 :: leadC (off + (dec v).length + 1) (q :: r)) := by
  obtain ⟨m, u⟩ := q
  show codesS (dec n ++ Str.ofString " " ++ dec off ++ Str.ofString " " ++ Str.join _ _) = _
  rw [codes_app, codes_app, codes_app, codes_app, c32]
  simp only [List.append_assoc, List.singleton_append]; rfl
theorem bodyC_one (n v : Int) : bodyC [(n, v)] = codesS (dec v) := rfl
theorem bodyC_cons (n v : Int) (q : Int × Int) (r : List (Int × Int)) : bodyC ((n, v) :: q :: r) = codesS (dec v) ++ 10 :: bodyC (q :: r) := by
  show codesS (dec v ++ Str.ofString "\n" ++ Str.join _ _) = _
  rw [codes_app, codes_app, c10]
  simp only [List.append_assoc, List.singleton_append]; rfl
noncomputable def Okp (ps : List (Int × Int)) : Prop := ∀ p ∈ ps, 0 < p.1 ∧ p.1 ≤ 20 ∧ 0 ≤ p.2 ∧ p.2 < 200
structure Digs (d : List Int) (v : Int) : Prop where
  len : d.length ≤ 3
  ne : d ≠ []
  fig : ∀ x ∈ d, isFig x = true
  v : val d = v
theorem digs {n : Int} (h0 : 0 ≤ n) (h1 : n < 200) : Digs (codesS (dec n)) n := by
  obtain ⟨a, b, c, d⟩ := dec_at h0 h1
  exact ⟨a, b, List.all_eq_true.mp c, d⟩
theorem fig_nat {x : Int} (h : isFig x = true) : ∃ n : Nat, n < 10 ∧ x = 48 + (n : Int) := by
  simp only [isFig, Bool.and_eq_true, decide_eq_true_eq] at h
  exact ⟨(x - 48).toNat, by omega, by omega⟩
theorem fig_tab : ∀ n : Nat, n < 10 → isW (48 + (n : Int)) = false ∧ isReg (48 + (n : Int)) = true ∧ (48 + (n : Int)) ≠ 37 := by decide
theorem fig_notW {x : Int} (h : isFig x = true) : isW x = false := by
  obtain ⟨n, hn, rfl⟩ := fig_nat h
  exact (fig_tab n hn).1
theorem fig_reg {x : Int} (h : isFig x = true) : isReg x = true := by
  obtain ⟨n, hn, rfl⟩ := fig_nat h
  exact (fig_tab n hn).2.1
theorem fig_no37 {x : Int} (h : isFig x = true) : x ≠ 37 := by
  obtain ⟨n, hn, rfl⟩ := fig_nat h
  exact (fig_tab n hn).2.2
theorem Digs.drop {d : List Int} {v : Int} (h : Digs d v) (r : List Int) : (d ++ r).dropWhile isW = d ++ r := by
  obtain ⟨_, ne, fig, _⟩ := h
  cases d with
  | nil => exact absurd rfl ne
  | cons x t =>
    show List.dropWhile isW (x :: (t ++ r)) = _
    rw [List.dropWhile_cons_of_neg (by rw [fig_notW (fig x (.head _))]; decide)]; rfl
theorem takeW {p : Int → Bool} : ∀ {d : List Int} (_ : ∀ x ∈ d, p x = true) {r : List Int} (_ : ∀ x ∈ r.head?, p x = false), (d ++ r).takeWhile p = d ∧ (d ++ r).dropWhile p = r
  | [], _, [], _ => ⟨rfl, rfl⟩
  | [], _, y :: r, hr => by
    have : p y = false := hr y rfl
    simp [this]
  | x :: d, h, r, hr => by
    obtain ⟨h1, h2⟩ := takeW (fun y hy => h y (.tail _ hy)) hr
    have hx := h x (.head _)
    simp only [List.cons_append, List.takeWhile_cons, List.dropWhile_cons, hx, if_true, h1, h2]
    exact ⟨trivial, trivial⟩
theorem Digs.num {d : List Int} {v : Int} (h : Digs d v) {r : List Int} (hr : ∀ x ∈ r.head?, isFig x = false) : Num (d ++ r) v r := by
  obtain ⟨h1, h2⟩ := takeW h.fig hr
  unfold Num
  rw [h.drop, h1, h2]
  refine ⟨?_, h.v, rfl⟩
  rintro (e | e)
  · exact h.ne e
  · have := h.len; omega
theorem Num.white {x : Int} {r r' : List Int} {v : Int} (hx : isW x = true) (h : Num r v r') : Num (x :: r) v r' := by
  unfold Num at *
  rw [List.dropWhile_cons_of_pos hx]; exact h
theorem Lead.white {x : Int} {r : List Int} {ps : List (Int × Int)} (hx : isW x = true) (h : Lead ps r) : Lead ps (x :: r) := by
  cases ps with
  | nil => unfold Lead at *; rw [List.dropWhile_cons_of_pos hx]; exact h
  | cons p ps =>
    obtain ⟨n, o⟩ := p
    obtain ⟨r1, r2, h1, h2, h3⟩ := h
    exact ⟨r1, r2, h1.white hx, h2, h3⟩
theorem lead_of : ∀ (ps : List (Int × Int)) (off : Int), Okp ps → 0 ≤ off → off + 4 * ps.length < 100 → ps ≠ [] → Lead (offPairs off ps) (leadC off ps ++ [10])
  | [], _, _, _, _, h => absurd rfl h
  | [(n, v)], off, hp, h0, h1, _ => by
    have hb := hp _ (.head _)
    have dn := digs (n := n) (by omega) (by omega)
    have dd := digs (n := off) (by omega) (by simp only [List.length_cons] at h1; omega)
    rw [leadC_one, List.append_assoc]
    refine ⟨_, _, dn.num (r := 32 :: codesS (dec off) ++ [10]) (by intro x hx; cases hx; rfl), (dd.num (r := [10]) (by intro x hx; cases hx; rfl)).white (by decide), ?_⟩
    show (List.dropWhile isW [10]).takeWhile isFig = []
    decide
  | (n, v) :: q :: r, off, hp, h0, h1, _ => by
    have hb := hp _ (.head _)
    have dn := digs (n := n) (by omega) (by omega)
    have dd := digs (n := off) (by omega) (by simp only [List.length_cons] at h1; omega)
    have lv := dec_len (n := v) (by omega) (by omega)
    rw [leadC_cons]
    have ih := lead_of (q :: r) (off + (dec v).length + 1) (fun p hm => hp p (.tail _ hm)) (by omega) (by simp only [List.length_cons] at h1 ⊢; omega) (by simp)
    simp only [List.append_assoc, List.cons_append]
    exact ⟨_, _, dn.num (by intro x hx; cases hx; rfl), (dd.num (r := 32 :: (leadC (off + (dec v).length + 1) (q :: r) ++ [10])) (by intro x hx; cases hx; rfl)).white (by decide), ih.white (by decide)⟩
theorem asc_of : ∀ (ps : List (Int × Int)) (off : Int) (pr : Option Int), Okp ps → (∀ p, pr = some p → p < off) → Asc pr (offPairs off ps)
  | [], _, _, _, _ => trivial
  | (n, v) :: r, off, pr, hp, h => by
    have hb := hp _ (.head _)
    refine ⟨by dsimp only at hb; omega, h, asc_of r _ _ (fun p hm => hp p (.tail _ hm)) fun p e => ?_⟩
    cases e
    omega
noncomputable def Plain (x : Int) : Prop := isFig x = true ∨ x = 32 ∨ x = 10
theorem Plain.no37 {x : Int} (h : Plain x) : x ≠ 37 := by
  rcases h with h | rfl | rfl
  · exact fig_no37 h
  · decide
  · decide
theorem Plain.lt {x : Int} (h : Plain x) : 0 ≤ x ∧ x < 128 := by
  rcases h with h | rfl | rfl
  · simp only [isFig, Bool.and_eq_true, decide_eq_true_eq] at h; omega
  · decide
  · decide
theorem leadC_plain : ∀ (ps : List (Int × Int)) (off : Int), Okp ps → 0 ≤ off → off + 4 * ps.length < 100 → (∀ x ∈ leadC off ps, Plain x) ∧ (leadC off ps).length ≤ 8 * ps.length
  | [], _, _, _, _ => ⟨fun x hx => (nomatch hx), Nat.le_refl _⟩
  | [(n, v)], off, hp, h0, h1 => by
    have hb := hp _ (.head _)
    have dn := digs (n := n) (by omega) (by omega)
    have dd := digs (n := off) (by omega) (by simp only [List.length_cons] at h1; omega)
    rw [leadC_one]
    refine ⟨fun x hx => ?_, ?_⟩
    · simp only [List.mem_append, List.mem_cons] at hx
      rcases hx with h | rfl | h
      · exact .inl (dn.fig x h)
      · exact .inr (.inl rfl)
      · exact .inl (dd.fig x h)
    · have := dn.len
      have := dd.len
      simp only [List.length_append, List.length_cons, List.length_nil]; omega
  | (n, v) :: q :: r, off, hp, h0, h1 => by
    have hb := hp _ (.head _)
    have dn := digs (n := n) (by omega) (by omega)
    have dd := digs (n := off) (by omega) (by simp only [List.length_cons] at h1; omega)
    have lv := dec_len (n := v) (by omega) (by omega)
    rw [leadC_cons]
    obtain ⟨i1, i2⟩ := leadC_plain (q :: r) (off + (dec v).length + 1) (fun p hm => hp p (.tail _ hm)) (by omega) (by simp only [List.length_cons] at h1 ⊢; omega)
    refine ⟨fun x hx => ?_, ?_⟩
    · simp only [List.mem_append, List.mem_cons] at hx
      rcases hx with h | rfl | h | rfl | h
      · exact .inl (dn.fig x h)
      · exact .inr (.inl rfl)
      · exact .inl (dd.fig x h)
      · exact .inr (.inl rfl)
      · exact i1 x h
    · have := dn.len
      have := dd.len
      simp only [List.length_append, List.length_cons] at i2 ⊢; omega
theorem bodyC_plain : ∀ (ps : List (Int × Int)), Okp ps → (∀ x ∈ bodyC ps, Plain x) ∧ (bodyC ps).length ≤ 4 * ps.length
  | [], _ => ⟨fun x hx => (nomatch hx), Nat.le_refl _⟩
  | [(n, v)], hp => by
    have hb := hp _ (.head _)
    have dv := digs (n := v) (by omega) (by omega)
    rw [bodyC_one]
    refine ⟨fun x hx => .inl (dv.fig x hx), ?_⟩
    have := dv.len
    simp only [List.length_cons, List.length_nil]; omega
  | (n, v) :: q :: r, hp => by
    have hb := hp _ (.head _)
    have dv := digs (n := v) (by omega) (by omega)
    rw [bodyC_cons]
    obtain ⟨i1, i2⟩ := bodyC_plain (q :: r) (fun p hm => hp p (.tail _ hm))
    refine ⟨fun x hx => ?_, ?_⟩
    · simp only [List.mem_append, List.mem_cons] at hx
      rcases hx with h | rfl | h
      · exact .inl (dv.fig x h)
      · exact .inr (.inr rfl)
      · exact i1 x h
    · have := dv.len
      simp only [List.length_append, List.length_cons] at i2 ⊢; omega
theorem part_last {ks pre d : List Int} {v : Int} (hk : ks = pre ++ d) (h : Digs d v) (h0 : 0 ≤ v) : Part ks pre.length ks.length v := by
  subst hk
  have h1 := takeW (fun x hx => fig_reg (h.fig x hx)) (r := []) (fun x hx => nomatch hx)
  have h2 := h.drop []
  rw [List.append_nil] at h1 h2
  refine ⟨_, d, d, rfl, by rw [List.length_append]; omega, ⟨Nat.le_refl _, by rw [List.take_length]; exact List.suffix_append _ _⟩, h.ne, fun x hx => fig_no37 (h.fig x hx), ?_, h.fig, h.ne, ?_, ?_, ?_, h.v⟩
  · rw [h2, h1.1]
  · have := h.len; omega
  · rw [h2, h1.2]; rfl
  · rw [h.v]; exact h0
theorem part_mid {ks pre d rest : List Int} {v en : Int} (hk : ks = pre ++ (d ++ 10 :: rest)) (h : Digs d v) (h0 : 0 ≤ v) (he : en = pre.length + d.length + 1) : Part ks pre.length en v := by
  subst hk
  have h1 := takeW (fun x hx => fig_reg (h.fig x hx)) (r := [10]) (by intro x hx; cases hx; rfl)
  have h2 := h.drop [10]
  refine ⟨pre.length + d.length + 1, d ++ [10], d, by rw [he]; push_cast; rfl, by rw [List.length_append, List.length_singleton]; push_cast; omega, ⟨?_, ?_⟩, by simp, ?_, ?_, h.fig, h.ne, ?_, ?_, ?_, h.v⟩
  · simp only [List.length_append, List.length_cons]; omega
  · have e : pre ++ (d ++ 10 :: rest) = (pre ++ (d ++ [10])) ++ rest := by simp
    have el : (pre ++ (d ++ [10])).length = pre.length + d.length + 1 := by simp only [List.length_append, List.length_singleton]; omega
    rw [e, ← el, List.take_left]
    exact List.suffix_append _ _
  · intro x hx
    rcases List.mem_append.mp hx with hx | hx
    · exact fig_no37 (h.fig x hx)
    · rw [List.mem_singleton.mp hx]; decide
  · rw [h2, h1.1]
  · have := h.len; omega
  · rw [h2, h1.2]; decide
  · rw [h.v]; exact h0
theorem partsP_of {ks : List Int} {f : Int} : ∀ (ps : List (Int × Int)) (off : Int) (pre : List Int), Okp ps → ks = pre ++ bodyC ps → (pre.length : Int) = f + off → PartsP ks f (offPairs off ps) (ps.map Prod.snd)
  | [], _, _, _, _, _ => ⟨rfl, fun j p v hp => (nomatch hp)⟩
  | [(n, v)], off, pre, hp, hk, hl => by
    have hb := hp _ (.head _)
    have dv := digs (n := v) (by omega) (by omega)
    refine ⟨rfl, fun j p u h1 h2 => ?_⟩
    cases j with
    | succ j => exact nomatch h1
    | zero =>
      cases h1; cases h2
      refine ⟨fun q hq => (nomatch hq), fun _ => ?_⟩
      dsimp only
      rw [← hl]
      exact part_last (by rw [hk, bodyC_one]) dv (by omega)
  | (n, v) :: q :: r, off, pre, hp, hk, hl => by
    have hb := hp _ (.head _)
    have dv := digs (n := v) (by omega) (by omega)
    rw [bodyC_cons] at hk
    have hlv : (codesS (dec v)).length = (dec v).length := codes_len _
    obtain ⟨i1, i2⟩ := partsP_of (ks := ks) (f := f) (q :: r) (off + (dec v).length + 1) (pre ++ codesS (dec v) ++ [10]) (fun p hm => hp p (.tail _ hm)) (by rw [hk]; simp) (by simp only [List.length_append, List.length_singleton, hlv]; push_cast; omega)
    refine ⟨by rw [offPairs_length, List.length_map], fun j p u h1 h2 => ?_⟩
    cases j with
    | succ j => exact i2 j p u h1 h2
    | zero =>
      cases h1; cases h2
      obtain ⟨m, w⟩ := q
      refine ⟨fun q hq => ?_, fun hq => nomatch hq⟩
      cases hq
      dsimp only
      rw [← hl]
      exact part_mid hk dv (by omega) (by rw [hlv]; omega)
noncomputable def leadT (ps : List (Int × Int)) : Str := if ps = [] then Str.ofString "" else Str.join (Str.ofString " ") (rowsOf 0 ps) ++ Str.ofString "\n"
noncomputable def textT (ps : List (Int × Int)) : Str := leadT ps ++ Str.join (Str.ofString "\n") (partsOf ps)
structure TextOk (ps : List (Int × Int)) : Prop where
  asc : Asc none (offPairs 0 ps)
  plain : ∀ x ∈ codesS (textT ps), Plain x
  len : (codesS (textT ps)).length ≤ 100
  lead : (leadT ps).length ≤ (codesS (textT ps)).length
  ld : Lead (offPairs 0 ps) ((codesS (textT ps)).take (leadT ps).length)
  pt : PartsP (codesS (textT ps)) (leadT ps).length (offPairs 0 ps) (ps.map Prod.snd)
theorem text_ok {ps : List (Int × Int)} (hp : Okp ps) (hl : ps.length ≤ 4) : TextOk ps := by
  by_cases h : ps = []
  · subst h
    exact ⟨trivial, fun x hx => (nomatch hx), by decide, by decide, rfl, rfl, fun j p v hq => (nomatch hq)⟩
  · obtain ⟨l1, l2⟩ := leadC_plain ps 0 hp (by decide) (by omega)
    obtain ⟨b1, b2⟩ := bodyC_plain ps hp
    have e0 : leadT ps = Str.join (Str.ofString " ") (rowsOf 0 ps) ++ Str.ofString "\n" := if_neg h
    have e1 : codesS (leadT ps) = leadC 0 ps ++ [10] := by rw [e0, codes_app, c10]; rfl
    have e2 : codesS (textT ps) = (leadC 0 ps ++ [10]) ++ bodyC ps := by
      show codesS (leadT ps ++ _) = _
      rw [codes_app, e1]; rfl
    have e3 : (leadT ps).length = (leadC 0 ps ++ [10]).length := by rw [← codes_len, e1]
    refine ⟨asc_of ps 0 none hp (fun p e => nomatch e), fun x hx => ?_, ?_, ?_, ?_, ?_⟩
    · rw [e2] at hx
      simp only [List.mem_append, List.mem_singleton] at hx
      rcases hx with (hx | hx) | hx
      · exact l1 x hx
      · exact .inr (.inr hx)
      · exact b1 x hx
    · rw [e2]; simp only [List.length_append, List.length_singleton]; omega
    · rw [e2, e3, List.length_append (as := leadC 0 ps ++ [10])]; omega
    · rw [e2, e3, List.take_left]; exact lead_of ps 0 hp (by decide) (by omega) h
    · exact partsP_of ps 0 _ hp e2 (by rw [e3]; omega)
theorem rs_P3 : True := by
  w_top off
  trivial
noncomputable def pget (d : List (Int × Int)) (k : Int) : Option Int := (d.find? fun p => p.1 = k).map (·.2)
noncomputable def setD (d : List (Int × Int)) (k v : Int) : List (Int × Int) := if d.any (fun p => p.1 = k) then d.map (fun p => if p.1 = k then (p.1, v) else p) else d ++ [(k, v)]
noncomputable def rowS (d : List (Int × Int)) (codes : List Int) : List (Int × Int) := codes.foldl (fun d c => setD d (c.fdiv 10) c) d
noncomputable def keptD (d : List (Int × Int)) (rooms : List (List Int)) : List (Int × Int) := rooms.foldl (fun d r => rowS d r.reverse) d
noncomputable def fst1 (l : List Int) (q : Int) : Option Int := l.find? fun c => c.fdiv 10 = q
theorem pget_nil (k : Int) : pget [] k = none := rfl
theorem pget_cons (p : Int × Int) (d : List (Int × Int)) (k : Int) : pget (p :: d) k = if p.1 = k then some p.2 else pget d k := by
  unfold pget
  by_cases h : p.1 = k <;> simp [h]
theorem pget_app (a b : List (Int × Int)) (k : Int) : pget (a ++ b) k = (pget a k).or (pget b k) := by
  induction a with
  | nil => rfl
  | cons p a ih => rw [List.cons_append, pget_cons, pget_cons, ih]; split <;> simp
theorem pget_any (d : List (Int × Int)) (k : Int) : d.any (fun p => p.1 = k) = (pget d k).isSome := by
  induction d with
  | nil => rfl
  | cons p d ih =>
    rw [List.any_cons, pget_cons, ih]
    by_cases h : p.1 = k <;> simp [h]
theorem pget_put (d : List (Int × Int)) (k v q : Int) : pget (putF d k v) q = (pget d q).or (if k = q then some v else none) := by
  unfold putF
  split
  · rename_i h
    rw [pget_any] at h
    by_cases e : k = q
    · subst e
      obtain ⟨x, hx⟩ := Option.isSome_iff_exists.mp h
      rw [hx]; rfl
    · rw [if_neg e]; simp
  · rw [pget_app, pget_cons, pget_nil]
theorem pget_map (d : List (Int × Int)) (k v q : Int) : pget (d.map fun p => if p.1 = k then (p.1, v) else p) q = if k = q then (if d.any (fun p => p.1 = k) then some v else none) else pget d q := by
  induction d with
  | nil => simp [pget]
  | cons p d ih =>
    rw [List.map_cons, pget_cons, pget_cons, ih, List.any_cons]
    by_cases h1 : p.1 = k <;> by_cases h2 : k = q <;> by_cases h3 : p.1 = q <;> simp_all
    rw [decide_eq_false (by rw [h2]; exact h3), Bool.false_or]
theorem pget_set (d : List (Int × Int)) (k v q : Int) : pget (setD d k v) q = if k = q then some v else pget d q := by
  unfold setD
  split
  · rename_i h; rw [pget_map, h]; rfl
  · rename_i h
    rw [pget_any] at h
    rw [pget_app, pget_cons, pget_nil]
    by_cases e : k = q
    · subst e
      rw [if_pos rfl, if_pos rfl]
      rw [Option.not_isSome_iff_eq_none.mp h]; rfl
    · rw [if_neg e, if_neg e]; simp
theorem pget_row (codes : List Int) : ∀ (d : List (Int × Int)) (q : Int), pget (rowD d codes) q = (pget d q).or (fst1 codes q) := by
  induction codes with
  | nil => intro d q; show pget d q = (pget d q).or none; simp
  | cons c r ih =>
    intro d q
    show pget (rowD (putF d (c.fdiv 10) c) r) q = _
    rw [ih, pget_put, Option.or_assoc]
    congr 1
    unfold fst1
    rw [List.find?_cons]
    by_cases h : c.fdiv 10 = q <;> simp [h]
theorem pget_rowS (codes : List Int) : ∀ (d : List (Int × Int)) (q : Int), pget (rowS d codes) q = (fst1 codes.reverse q).or (pget d q) := by
  induction codes with
  | nil => intro d q; rfl
  | cons c r ih =>
    intro d q
    show pget (rowS (setD d (c.fdiv 10) c) r) q = _
    rw [ih, pget_set]
    unfold fst1
    rw [List.reverse_cons, List.find?_append, Option.or_assoc]
    congr 1
    by_cases h : c.fdiv 10 = q <;> simp [h]
theorem fst1_app (a b : List Int) (q : Int) : fst1 (a ++ b) q = (fst1 a q).or (fst1 b q) := by unfold fst1; rw [List.find?_append]
theorem pget_chain (cls : List (List Int)) : ∀ (d : List (Int × Int)) (q : Int), pget (chainD d cls) q = (pget d q).or (fst1 cls.flatten q) := by
  induction cls with
  | nil => intro d q; show pget d q = (pget d q).or none; simp
  | cons c r ih =>
    intro d q
    show pget (chainD (rowD d c) r) q = _
    rw [ih, pget_row, Option.or_assoc, List.flatten_cons, fst1_app]
theorem pget_kept (rooms : List (List Int)) : ∀ (d : List (Int × Int)) (q : Int), pget (keptD d rooms) q = (fst1 rooms.reverse.flatten q).or (pget d q) := by
  induction rooms with
  | nil => intro d q; rfl
  | cons c r ih =>
    intro d q
    show pget (keptD (rowS d c.reverse) r) q = _
    rw [ih, pget_rowS, List.reverse_reverse, List.reverse_cons, List.flatten_append, fst1_app, Option.or_assoc]
    simp
noncomputable def keys (d : List (Int × Int)) : List Int := d.map Prod.fst
theorem keys_mem (d : List (Int × Int)) (k : Int) : k ∈ keys d ↔ (pget d k).isSome = true := by
  rw [← pget_any]
  unfold keys
  rw [List.any_eq_true, List.mem_map]
  constructor
  · rintro ⟨p, hp, rfl⟩; exact ⟨p, hp, by simp⟩
  · rintro ⟨p, hp, h⟩; exact ⟨p, hp, by simpa using h⟩
theorem keys_app (d : List (Int × Int)) (k v : Int) (h : ¬ d.any (fun p => p.1 = k) = true) (hn : (keys d).Nodup) : (keys (d ++ [(k, v)])).Nodup := by
  rw [pget_any] at h
  unfold keys
  rw [List.map_append, List.nodup_append]
  refine ⟨hn, by simp, ?_⟩
  intro a ha b hb e
  have hb : b = k := by simpa using hb
  rw [e, hb] at ha
  exact h ((keys_mem d k).mp ha)
theorem putF_nodup {d : List (Int × Int)} (k v : Int) (hn : (keys d).Nodup) : (keys (putF d k v)).Nodup := by
  unfold putF
  split
  · exact hn
  · exact keys_app d k v (by assumption) hn
theorem setD_nodup {d : List (Int × Int)} (k v : Int) (hn : (keys d).Nodup) : (keys (setD d k v)).Nodup := by
  unfold setD
  split
  · have : keys (d.map fun p => if p.1 = k then (p.1, v) else p) = keys d := by
      unfold keys
      rw [List.map_map]
      refine List.map_congr_left fun p _ => ?_
      show (if p.1 = k then (p.1, v) else p).1 = p.1
      split <;> rfl
    rw [this]; exact hn
  · exact keys_app d k v (by assumption) hn
theorem row_nodup (codes : List Int) : ∀ {d : List (Int × Int)}, (keys d).Nodup → (keys (rowD d codes)).Nodup := by
  induction codes with
  | nil => exact fun h => h
  | cons c r ih => exact fun h => ih (putF_nodup _ _ h)
theorem rowS_nodup (codes : List Int) : ∀ {d : List (Int × Int)}, (keys d).Nodup → (keys (rowS d codes)).Nodup := by
  induction codes with
  | nil => exact fun h => h
  | cons c r ih => exact fun h => ih (setD_nodup _ _ h)
theorem chain_nodup (cls : List (List Int)) : ∀ {d : List (Int × Int)}, (keys d).Nodup → (keys (chainD d cls)).Nodup := by
  induction cls with
  | nil => exact fun h => h
  | cons c r ih => exact fun h => ih (row_nodup _ h)
theorem kept_nodup (rooms : List (List Int)) : ∀ {d : List (Int × Int)}, (keys d).Nodup → (keys (keptD d rooms)).Nodup := by
  induction rooms with
  | nil => exact fun h => h
  | cons c r ih => exact fun h => ih (rowS_nodup _ h)
theorem nodup_len : ∀ (a b : List Int), a.Nodup → b.Nodup → (∀ x, x ∈ a ↔ x ∈ b) → a.length = b.length
  | [], b, _, _, h => by
    cases b with
    | nil => rfl
    | cons x r => exact absurd ((h x).mpr (.head _)) (by simp)
  | x :: a, b, ha, hb, h => by
    have hx : x ∈ b := (h x).mp (.head _)
    have ha' := List.nodup_cons.mp ha
    have ih := nodup_len a (b.erase x) ha'.2 (hb.erase x) fun y => by
      rw [hb.mem_erase_iff, ← h y, List.mem_cons]
      constructor
      · exact fun hy => ⟨fun e => ha'.1 (e ▸ hy), .inr hy⟩
      · rintro ⟨h1, rfl | h2⟩
        · exact absurd rfl h1
        · exact h2
    rw [List.length_cons, ih, List.length_erase_of_mem hx]
    have := List.length_pos_of_mem hx
    omega
theorem pget_of_mem {d : List (Int × Int)} (hn : (keys d).Nodup) {p : Int × Int} (hp : p ∈ d) : pget d p.1 = some p.2 := by
  induction d with
  | nil => cases hp
  | cons q d ih =>
    have hn' := List.nodup_cons.mp (show (q.1 :: keys d).Nodup from hn)
    rw [pget_cons]
    rcases List.mem_cons.mp hp with rfl | hp
    · rw [if_pos rfl]
    · rw [if_neg, ih hn'.2 hp]
      intro e
      exact hn'.1 (e ▸ List.mem_map_of_mem hp)
theorem chain_kept (rooms : List (List Int)) : (chainD [] rooms.reverse).length = (keptD [] rooms).length ∧ ∀ p ∈ chainD [] rooms.reverse, pget (keptD [] rooms) p.1 = some p.2 := by
  have n1 := chain_nodup rooms.reverse (d := []) (by simp [keys])
  have n2 := kept_nodup rooms (d := []) (by simp [keys])
  have e : ∀ q, pget (chainD [] rooms.reverse) q = pget (keptD [] rooms) q := fun q => by
    rw [pget_chain, pget_kept, pget_nil]; simp
  refine ⟨?_, fun p hp => ?_⟩
  · have := nodup_len _ _ n1 n2 fun k => by rw [keys_mem, keys_mem, e]
    simpa [keys] using this
  · rw [← e]; exact pget_of_mem n1 hp
theorem setD_length (d : List (Int × Int)) (k v : Int) : (setD d k v).length ≤ d.length + 1 := by
  unfold setD; split <;> simp
theorem rowS_length (codes : List Int) : ∀ (d : List (Int × Int)), (rowS d codes).length ≤ d.length + codes.length := by
  induction codes with
  | nil => intro d; exact Nat.le_refl _
  | cons c r ih =>
    intro d
    have := ih (setD d (c.fdiv 10) c)
    have := setD_length d (c.fdiv 10) c
    show (rowS (setD d (c.fdiv 10) c) r).length ≤ _
    rw [List.length_cons]; omega
theorem rs_P4 : True := by
  w_top off
  trivial
section
variable {prog : Program} {w : World} {A : Around} {E : Value → Shared → Prop} {s : Shared}
noncomputable abbrev pData (p : Int × Int) : PyData := .tuple [.int p.1, .int p.2]
theorem pData_lay : ∀ l : List (Int × Int), PyData.canLayAll0 (l.map pData) = true
  | [] => rfl
  | _ :: r => by simp [PyData.canLayAll0, PyData.canLay0, pData_lay r]
theorem pData_depth : ∀ l : List (Int × Int), PyData.depthAll (l.map pData) ≤ 1
  | [] => Nat.zero_le _
  | _ :: r => by
    have := pData_depth r
    simp only [List.map_cons, PyData.depthAll, PyData.depth]; omega
theorem pData_shaped (l : List (Int × Int)) : SeqAt.shaped (.list (l.map pData)) = true := by
  have := pData_depth l
  have : PyData.depthAll (l.map pData) + 1 ≤ 64 := by omega
  simp [SeqAt.shaped, PyData.canLay0, PyData.depth, pData_lay, this]
theorem reads_pairs {h : Heap} : ∀ (qs : List PR), (∀ q ∈ qs, IsTup h q.a (pItems q).toArray) → ReadsAll h (pRefs qs) ((qs.map prOf).map pData) []
  | [], _ => .nil
  | q :: r, ht => by
    obtain ⟨o, ho, hc, n, hd⟩ := ht q (.head _)
    exact readsAll_cons_val (.tuple ho hc hd (readsAll_cons_val (.int _ _) (readsAll_cons_val (.int _ _) .nil))) (reads_pairs r fun p hp => ht p (.tail _ hp))
theorem reads_plist {h : Heap} {D : Addr} {qs : List PR} (hl : h.IsList D (pRefs qs).toArray) (ht : ∀ q ∈ qs, IsTup h q.a (pItems q).toArray) : Reads h (.ref D) (.list ((qs.map prOf).map pData)) [D] := by
  obtain ⟨o, ho, hc, n, hd⟩ := hl
  exact Reads.list ho hc hd (by simpa using reads_pairs qs ht)
theorem ne_pairs {D D' : Addr} {qs qs' : List PR} {Q : Value → Shared → Prop} (l1 : s.heap.IsList D (pRefs qs).toArray) (l2 : s.heap.IsList D' (pRefs qs').toArray) (t1 : ∀ q ∈ qs, IsTup s.heap q.a (pItems q).toArray) (t2 : ∀ q ∈ qs', IsTup s.heap q.a (pItems q).toArray)
    (e : qs.map prOf = qs'.map prOf) (hu : A.units + 64 < cLine) (h : Q (.bool false) s) : wpAny (model prog w) A (compareOp .NotEq (.ref D) (.ref D')) Q E s := by
  have r1 := reads_plist l1 t1
  have r2 := reads_plist l2 t2
  rw [e] at r1
  have hs := pData_shaped (qs'.map prOf)
  refine ne_dataH r1 r2 hs hs hu ?_
  rw [SeqAt.eqv_refl _ (SeqAt.canLay_of_shaped hs)]
  exact h
theorem IVals.get {a : List (Int × Value)} {c : List (Int × Int)} (h : IVals a c) {k v : Int} (hv : pget c k = some v) : ∃ t, valueAt a k = some (.int v t) := by
  induction h with
  | nil => cases hv
  | @cons k' v' t kvs d _ ih =>
    rw [pget_cons] at hv
    rw [valueAt_cons]
    dsimp only at hv ⊢
    split at hv
    · rename_i e
      cases hv
      exact ⟨t, if_pos e⟩
    · rename_i e
      rw [if_neg e]
      exact ih hv
theorem hits_of {a b : List (Int × Value)} {c d : List (Int × Int)} (h1 : IVals a c) (h2 : IVals b d) (h : ∀ p ∈ c, pget d p.1 = some p.2) : KeqHits A s b a true := by
  induction h1 with
  | nil => exact .nil
  | @cons k v t kvs c' _ ih =>
    obtain ⟨u, hu⟩ := h2.get (h _ (.head _))
    have e := SeqAt.EqAt.int_int (A := A) (s := s) v t v u
    have e2 : (v == v) = true := by simp
    rw [e2] at e
    exact .hit (e := true) (b := true) hu e (ih fun p hp => h p (.tail _ hp))
theorem eq_kept {x y : Addr} {a b : List (Int × Value)} {c d : List (Int × Int)} {Q : Value → Shared → Prop} (lx : (x == sysModules) = false) (ly : (y == sysModules) = false) (dx : s.heap.DictOf (intKind prog w) x a) (dy : s.heap.DictOf (intKind prog w) y b)
    (h1 : IVals a c) (h2 : IVals b d) (hl : c.length = d.length) (h : ∀ p ∈ c, pget d p.1 = some p.2) (hu : A.units < cLine) (hq : Q (.bool true) s) : wpAny (model prog w) A (compareOp .Eq (.ref x) (.ref y)) Q E s := by
  refine keq_eq lx ly dx dy hu (r := true) (fun _ => hits_of h1 h2 h) ?_
  rw [h1.length, h2.length, hl]
  simpa using hq
theorem IVals.set {a : List (Int × Value)} {c : List (Int × Int)} (h : IVals a c) (k v : Int) (t : Tok) : IVals (stored a k (.int v t)) (setD c k v) := by
  unfold stored setD
  rw [h.any]
  split
  · rename_i hc; clear hc
    induction h with
    | nil => exact .nil
    | @cons k' v' t' kvs d _ ih =>
      rw [List.map_cons, List.map_cons]
      dsimp only
      split
      · exact .cons ih
      · exact .cons ih
  · exact h.append (.cons .nil)
end
theorem rs_L0 : True := by
  w_top off
  trivial
structure LawT (P : Params) where
  (name qual : Str)
  params : Arguments
  body : List Stmt
  scope : Scope
  (dV kV doc pm : Value)
  an : Option Addr
  (cdv ct oc : Value)
  od : Option Addr
  osl : Array (Option Value)
  ho : (hd.heap_39 P).lookup 809 = some ⟨oc, od, .func (fnOf name qual params body scope dV kV doc pm an cdv ct), osl⟩
@[reducible] def LawT.of {P : Params} {name qual : Str} {params : Arguments} {body : List Stmt} {scope : Scope} {dV kV doc pm : Value} {an : Option Addr} {cdv ct oc : Value} {od : Option Addr} {osl : Array (Option Value)}
    (ho : (hd.heap_39 P).lookup 809 = some ⟨oc, od, .func (fnOf name qual params body scope dV kV doc pm an cdv ct), osl⟩) : LawT P := ⟨name, qual, params, body, scope, dV, kV, doc, pm, an, cdv, ct, oc, od, osl, ho⟩
noncomputable def lawT (P : Params) : LawT P := by
  refine' LawT.of ?ho
  case ho => k_is
noncomputable def lawE (P : Params) (L fa : Addr) (cd : Value) : Env := envOfC "law" (lawT P).scope L fa cd
noncomputable def lawP (P : Params) (i n : Nat) : List Stmt := ((lawT P).body.drop i).take n
theorem execs_app_eq {env : Env} (ys : List Stmt) : ∀ (xs : List Stmt), execs (xs ++ ys) env = (execs xs env >>= fun f => match f with | .next => execs ys env | f => pure f)
  | [] => by
    show execs ys env = (pure Flow.next >>= _)
    rw [pure_bind]
  | x :: xs => by
    rw [List.cons_append, execs_cons, execs_cons, execs_app_eq ys xs, bind_assoc]
    congr 1
    funext f
    cases f <;> first | rfl | (rw [pure_bind])
noncomputable def Cut (M : Model) (A : Around) (env : Env) (ys : List Stmt) (Q : Flow → Shared → Prop) (E : Value → Shared → Prop) (f : Flow) (s' : Shared) : Prop :=
  match f with | .next => wpAny M A (execs ys env) Q E s' | .ret v => Q (.ret v) s' | .brk => Q .brk s' | .cont => Q .cont s'
theorem execs_app {M : Model} {A : Around} {env : Env} {Q : Flow → Shared → Prop} {E : Value → Shared → Prop} {xs ys : List Stmt} {s : Shared} (h : wpAny M A (execs xs env) (Cut M A env ys Q E) E s) : wpAny M A (execs (xs ++ ys) env) Q E s := by
  rw [execs_app_eq]
  refine wpAny_bind (wpAny_mono h (fun f s' hf => ?_) fun _ _ e => e)
  cases f with
  | next => exact hf
  | ret v => exact wpAny_pure hf
  | brk => exact wpAny_pure hf
  | cont => exact wpAny_pure hf
theorem lawP_split (P : Params) (i n m : Nat) : lawP P i (n + m) = lawP P i n ++ lawP P (i + n) m := by
  unfold lawP
  rw [List.take_add, List.drop_drop]
theorem law_all (P : Params) : (lawT P).body = lawP P 0 24 := by
  unfold lawP lawT LawT.of
  dsimp only [List.drop, List.take]
theorem ln_102 : True := by
  k_with "law open" => ((unfold lawP lawE lawT LawT.of; dsimp only [List.drop, List.take]))
  trivial
theorem rs_G0 : True := by
  w_top off
  k_with "my call" => (((with_reducible show wpAny _ _ (call (Value.ref 773) [Value.ref _]) _ _ _); (rename News _ _ _ _ => N0'); k_dflt (refine' use (pen_ct _ ?q103zhl) ?q103zM ?q103zB ?q103zF ?q103zN (List.forall_mem_nil _) Pick.all ?q103zhP ?_ rfl rfl; (case q103zhP => exact Heap.IsList.at (by assumption) (fun _ e => Fr.keep (by k_asm) _ _ e)); (case q103zhl => assumption); (case q103zM => assumption); (case q103zB => assumption); (case q103zF => k_asm); (case q103zN => exact N0')); intro _ _ _ _ _ _ ho' q'; (have hoff' := offs_of N0' ho'); clear ho'; obtain ⟨_, _, _, rfl, _, _, rfl⟩ := q'; (have := neN (hoff' _ (.head _) _ (.head _))); (try dsimp only at this); revert this; intro _; (have := neN (hoff' _ (.tail _ (.head _)) _ (.head _))); (try dsimp only at this); revert this; intro _; clear hoff'; walk_at "tout"; (try k_sweep)))
  trivial
structure Short (s : Str) : Prop where
  h : s.length ≤ 100000
structure Hid (P : Prop) : Prop where
  h : P
theorem add_short {prog : Program} {w : World} {A : Around} {E : Value → Shared → Prop} {s : Shared} {x y : Str} {t u : Tok} {Q : Value → Shared → Prop} (hx : Short x) (hy : Short y) (h : ∀ t' tk, Q (.str (x ++ y) t') { s with toks := tk }) : wpAny (model prog w) A (binaryOp .Add (.str x t) (.str y u)) Q E s :=
  add_strk hx.h hy.h h
theorem ln_104 : True := by
  k_with "binaryOp Add str str" => ((k_here; (refine' add_short ?q104zx ?q104zy ?_; (case q104zx => first | assumption | exact ⟨by decide⟩); (case q104zy => first | assumption | exact ⟨by decide⟩)); intro _ _))
  k_with "call builtin:list.append cons" => ((k_here; (with_reducible show wpAny _ _ (call (Value.builtin _) [Value.ref _, Value.str _ _]) _ _ _); k_dflt (refine' append_led ?q105zk1 ?q105zk2 ?q105zk3 ?q105zz ?_; (case q105zk1 => k_asm); (case q105zk2 => k_asm); (case q105zk3 => k_upd); (case q105zz => assumption); k_whole); intro _ _ _; (try k_sweep)))
  trivial
theorem allLt_mem {d : Addr} {l : List (Addr × Obj)} (h : AllLt d l) : ∀ p ∈ l, @LT.lt Nat _ p.1 d := by
  induction l with
  | nil => intro p hp; exact absurd hp List.not_mem_nil
  | cons q r ih =>
    intro p hp
    obtain ⟨h1, h2⟩ := h
    rcases List.mem_cons.mp hp with e | hp
    · rw [e]; exact h1
    · exact ih h2 p hp
theorem off1_mem {D : Addr} {l : List (Addr × Obj)} (h : LCg.Off1 D l) : ∀ p ∈ l, p.1 ≠ D := by
  induction l with
  | nil => intro p hp; exact absurd hp List.not_mem_nil
  | cons q r ih =>
    intro p hp
    obtain ⟨h1, h2⟩ := h
    rcases List.mem_cons.mp hp with e | hp
    · rw [e]; exact h1
    · exact ih h2 p hp
theorem pair_end3 {h₀ h' : Heap} {L I C D t a c Lc : Addr} {m : Str → Option Value} {s₁ : Shared} {oI oC oa oc' oc : Obj} {nw : List (Addr × Obj)} {ys : List Value} {rest : Value → List (Addr × Obj) → Prop} {tk : Nat} {n o : Int} {tn to : Tok}
    (F : Fr h₀ L h' m) (N : News h₀ L h' (pObj ⟨t, n, o, tn, to⟩ :: (a, oa) :: (c, oc') :: (I, oI) :: (C, oC) :: (D, LCg.lst ys) :: (Lc, oc) :: nw)) (off : LCg.Off3 I C D ((a, oa) :: (c, oc') :: (Lc, oc) :: nw)) (hne : t ≠ I ∧ t ≠ C ∧ t ≠ D)
    (r : ∀ q : PR, q = ⟨t, n, o, tn, to⟩ → rest (.ref q.a) ((a, oa) :: (c, oc') :: (Lc, oc) :: pObj q :: nw)) :
    LCg.CompEnd h₀ L m s₁ I oI C oC D (LCg.lst ys) (fun _ => True) rest (.ref t) { s₁ with heap := h', toks := tk } := by
  refine LCg.CompEnd.intro F N ((a, oa) :: (c, oc') :: (Lc, oc) :: pObj ⟨t, n, o, tn, to⟩ :: nw) ?_ ?_ trivial (r _ rfl)
  · intro p hp
    exact subW (by walk_at "sub") hp
  · obtain ⟨h1, h2, h3, h4⟩ := off
    exact ⟨h1, h2, h3, hne, h4⟩
noncomputable def After (P : Flow → Shared → Prop) (f : Flow) (s : Shared) : Prop := P f s
noncomputable def AfterV (P : Value → Shared → Prop) (v : Value) (s : Shared) : Prop := P v s
theorem ln_106 : True := by
  k_with "law go" => ((
      (fail_if_success (with_reducible show Hold _));
      (fail_if_success (with_reducible show After _ _ _));
      (fail_if_success (with_reducible show AfterV _ _ _));
      (fail_if_success (with_reducible show wpAny _ _ (subscriptTail (PySem.Expr.List _ _) _ _ _) _ _ _));
      (fail_if_success (with_reducible show WOut _ _ _ _ _));
      (fail_if_success (with_reducible show wpAny _ _ (pyIter _) _ _ _));
      (fail_if_success (with_reducible show LCg.CompSrc _ _ _ _ _ _ _ _ _ _ _ _ _ _));
      (fail_if_success (with_reducible show LoopT _ _ _ _ _ _ _ _ _ _ _));
      (fail_if_success (with_reducible show wpAny _ _ (call (Value.ref 799) _) _ _ _));
      (fail_if_success (with_reducible show wpAny _ _ (exec (Stmt.While _ _ _ _) _) _ _ _));
      (fail_if_success (with_reducible show wpAny _ _ (exec (Stmt.For _ _ _ _ _) _) _ _ _));
      (fail_if_success (with_reducible show wpAny _ _ (eval (PySem.Expr.IfExp _ _ _ _) _) _ _ _));
      (fail_if_success (with_reducible show wpAny _ _ (eval (PySem.Expr.ListComp _ _ _ _) _) _ _ _))))
  k_with "law steps" => (repeat' (walk_at "law go"; (first | (k_unfold; (try dsimp only)) | ((with_reducible show wpAny _ _ (PySem.call (Prod.fst _) _) _ _ _); dsimp only [List.cons_append, List.nil_append]) | walk1 | (dsimp only; walk1))))
  trivial
theorem rs_H2 : True := by
  w_top off
  trivial
structure IsD (a : Addr) (h : Heap) : Prop where
  k : KitAt a "dict" h
theorem IsD.keeps {a : Addr} {h h' : Heap} (x : IsD a h) (k : ∀ b o, h.get? b = some o → h'.get? b = some o) : IsD a h' := by
  obtain ⟨o, h1, h2⟩ := x.k
  exact ⟨o, k _ _ h1, h2⟩
theorem ln_108 : True := by
  k_with "call builtin:isinstance" => ((k_here; (with_reducible show wpAny _ _ (call _ [Value.ref _, _]) _ _ _); k_dflt (refine' kia_one kitx_dict ?q108zX ?q108zc ?q108zee ?q108znb ?_; (case q108zc => exact IsD.k (IsD.keeps (by assumption) (Fr.keep (by k_asm)))); (case q108zX => k_in); (case q108zee => kit_is); (case q108znb => kit_nb); k_whole; intro _)))
  trivial
section
variable {prog : Program} {w : World} {S x : Addr}
theorem kind_of_dict (n : Nat) : Fun prog w 414 n [.ref x] (fun h => IsD x h) [] (fun v' news' _ => news' = [] ∧ ∃ t, v' = .str "dict" t) := by
  intro A base l s R M O hP ret
  have bd : Bd [("value", .ref x)] := ⟨⟩
  k_dflt walk_at "my enter"
  rename Kg _ _ _ => kg
  have hD := hP.keeps kg.keeps
  k_dflt walk_at "my steps"
  exact ⟨rfl, _, rfl⟩
theorem ln_109 : True := by
  k_with "my call" => (((with_reducible show wpAny _ _ (call (Value.ref 414) [Value.ref _]) _ _ _); k_dflt (refine' useA1 (kind_of_dict _) ?q109zM ?q109zB ?q109zF ?q109zN (List.forall_mem_nil _) Pick.all ?q109zhP ?_ rfl rfl; (case q109zhP => exact IsD.keeps (by assumption) (Fr.keep (by k_asm))); (case q109zM => assumption); (case q109zB => assumption); (case q109zF => k_asm); (case q109zN => k_asm)); intro _ _ _ _ _; walk_at "tout"; (try k_sweep)))
  trivial
theorem is_os_dict (n : Nat) : Fun prog w 681 (n + 2) [.ref S, .ref x] (fun h => IsD x h) [] (fun v' news' _ => news' = [] ∧ v' = .bool false) := by
  intro A base l s R M O hP ret
  have bd : Bd [("shelf", .ref S), ("value", .ref x)] := ⟨⟩
  k_dflt walk_at "my enter"
  rename Kg _ _ _ => kg
  have hD := hP.keeps kg.keeps
  k_dflt walk_at "my steps"
  exact ⟨rfl, rfl⟩
theorem ln_110 : True := by
  k_with "my call" => (((with_reducible show wpAny _ _ (call (Value.ref 681) [Value.ref _, Value.ref _]) _ _ _); k_dflt (refine' useA0 (is_os_dict _) ?q110zM ?q110zB ?q110zF ?q110zN (List.forall_mem_nil _) Pick.all ?q110zhP ?_ rfl rfl; (case q110zhP => exact IsD.keeps (by assumption) (Fr.keep (by k_asm))); (case q110zM => assumption); (case q110zB => assumption); (case q110zF => k_asm); (case q110zN => k_asm)); intro _ _ _ _; walk_at "tout"; (try k_sweep)))
  trivial
theorem read_packed_dict (n : Nat) : FunE prog w 756 (n + 11) [.ref S, .ref x, .ref 792] (fun h => IsD x h) [] (fun _ _ _ => False) True := by
  intro A base l s R M O hP ret bad
  have bd : Bd [("shelf", .ref S), ("stream", .ref x), ("undo", .ref 792)] := ⟨⟩
  k_dflt walk_at "my enter"
  rename Kg _ _ _ => kg
  have hD := hP.keeps kg.keeps
  k_dflt walk_at "my steps"
  trivial
end
theorem rs_D5 : True := by
  w_top off
  trivial
theorem news_neC {g h : Heap} {L : Addr} {led : List (Addr × Obj)} (N : News g L h led) {a b : Addr} {o o' : Obj} (h1 : (a, o) ∈ led) (h2 : (b, o') ∈ led) (hc : o.cls ≠ o'.cls) : a ≠ b := by
  rintro rfl
  have := (N _ h1).1.symm.trans (N _ h2).1
  exact hc (congrArg Obj.cls (Option.some.inj this))
theorem dict_cls {prog : Program} {w : World} {K : Type} [DecidableEq K] {knd : KeyKind prog w K} {o : Obj} {kvs : List (K × Value)} (h : o.IsDictOf knd kvs) : o.cls = .type "dict" := by
  obtain ⟨es, ep, hx, _⟩ := h
  exact hx.1
theorem news_neD {prog : Program} {w : World} {K : Type} [DecidableEq K] {knd : KeyKind prog w K} {g h : Heap} {L : Addr} {led : List (Addr × Obj)} (N : News g L h led) {a b : Addr} {o o' : Obj} {kvs : List (K × Value)} (h1 : (a, o) ∈ led) (hd : o.IsDictOf knd kvs) (h2 : (b, o') ∈ led) (hc : Value.type "dict" ≠ o'.cls) : a ≠ b :=
  news_neC N h1 h2 (by rw [dict_cls hd]; exact hc)
theorem ln_111 : True := by
  k_with "cnt off1" => (first | k_ne | (refine news_neC (by assumption) (by walk_at "my memA") (by walk_at "my memA") ?_; simp; done) | (refine news_neD (knd := intKind _ _) (by assumption) (by walk_at "my memA") (by assumption) (by walk_at "my memA") ?_; simp; done))
  trivial
theorem oC {a : Addr} {r : List Addr} {T : List (Addr × Obj)} (h : ∀ p ∈ T, a ≠ p.1) (h2 : ∀ x ∈ r, ∀ p ∈ T, x ≠ p.1) : ∀ x ∈ a :: r, ∀ p ∈ T, x ≠ p.1 := List.forall_mem_cons.mpr ⟨h, h2⟩
theorem oN {T : List (Addr × Obj)} : ∀ x ∈ ([] : List Addr), ∀ p ∈ T, x ≠ p.1 := fun _ h => nomatch h
theorem oD {a b : Addr} {o : Obj} {T : List (Addr × Obj)} (h : a ≠ b) (h2 : ∀ p ∈ T, a ≠ p.1) : ∀ p ∈ (b, o) :: T, a ≠ p.1 := List.forall_mem_cons.mpr ⟨h, h2⟩
theorem oE {a : Addr} : ∀ p ∈ ([] : List (Addr × Obj)), a ≠ p.1 := fun _ h => nomatch h
theorem ln_112 : True := by
  k_with "cnt offr" => (first | exact oE | (refine oD ?q112zofA ?q112zofB; (case q112zofA => walk_at "cnt off1"); (case q112zofB => walk_at "cnt offr")))
  k_with "cnt off" => (first | exact oN | (refine oC ?q113zofA ?q113zofB; (case q113zofA => walk_at "cnt offr"); (case q113zofB => walk_at "cnt off")))
  trivial
section
variable {prog : Program} {w : World}
theorem count_ct2 (n : Nat) {S dS T T2 a c : Addr} {k1 k2 : Tok} {oT : Obj} {tk : List (Int × Value)} {p : Pen} {j : Nat} {right number more : Int} {tr tn tm : Tok}
    (hT : oT.IsDictOf (intKind prog w) tk) (hz : tk.length ≤ 900) (hne1 : T ≠ S) (hne2 : T ≠ dS) (hac : @Ne Nat a c) (hp : p.ok j) (hj : j ≤ 1000) (hr : 0 ≤ right) (hm : 0 ≤ more)
    (o1 : ∀ x ∈ [T, S, dS], (@Ne Nat a x) ∧ (@Ne Nat c x)) :
    Fun prog w 787 (n + 2) [.ref a, .ref S, .int right tr, .int number tn, .int more tm] (fun _ => True) [(a, penO c p), (c, penC p), (S, instObj 512 dS), (dS, shD w.params k1 k2 T T2), (T, oT)]
      (fun v' news' _ => ∃ tp, ∃ V u : VD, ∃ cc tc ex oT' tk', ∃ q : Pen, v' = .ref tp ∧ news' = (tp, tupO [V.val, .int cc tc]) :: (ex ++ [(a, penO c q), (c, penC q), (S, instObj 512 dS), (dS, shD w.params k1 k2 T T2), (T, oT')]) ∧ q.ok (j + 1) ∧
        Cnt prog w number right more tk tk' oT' V u cc ex ∧ ∀ x ∈ [a, c, S, dS, T], ∀ p ∈ (tp, tupO [V.val, .int cc tc]) :: ex, x ≠ p.1) := by
  refine Fun.sub ?_
  simp only [List.forall_mem_cons, List.not_mem_nil, false_implies, implies_true, and_true] at o1
  obtain ⟨⟨o1, o2⟩, ⟨o3, o4⟩, o5, o6⟩ := o1
  intro A base l₀ s R M O _ ret
  have bd : Bd [("pen", .ref a), ("shelf", .ref S), ("right", .int right tr), ("number", .int number tn), ("more", .int more tm)] := ⟨⟩
  have hne := neN (O.ne (.tail _ (.tail _ (.head _))) (.tail _ (.tail _ (.tail _ (.head _)))) (by simp))
  replace hne1 := neN hne1
  replace hne2 := neN hne2
  k_dflt walk_at "my enter"
  k_dflt walk_at "my steps"
  · refine' ⟨_, ?sb, iE9 _ (.refr _ _ _ _ _ _ _ _) _ _ _ _ _ _ _ (iA5 rfl rfl (by assumption) (cnt_ref (by assumption) hr (.inl ⟨?om, rfl⟩)) ?off)⟩
    case sb => walk_at "my subs"
    case om => omega
    case off => walk_at "cnt off"
  · refine' ⟨_, ?sb, iE9 _ (.refr _ _ _ _ _ _ _ _) _ _ _ _ _ _ _ (iA5 rfl rfl (by assumption) (cnt_ref (tr := tr) (by assumption) hr (.inr ⟨?om, rfl⟩)) ?off)⟩
    case sb => walk_at "my subs"
    case om => omega
    case off => walk_at "cnt off"
  · refine' ⟨_, ?sb, iE9 _ (.name _ _ _ _ _) _ _ _ [(_, instObj 332 _), (_, nameD w.params _ _ _)] _ _ _ (iA5 rfl rfl (by assumption) (cnt_plain hT rfl rfl (.inr (.inl rfl)) (fun h hp => ⟨hp _ (.head _), hp _ (.tail _ (.head _))⟩) (.inr (.inr (.inr ⟨_, _, _, _, _, rfl⟩)))) ?off)⟩
    case sb => walk_at "my subs"
    case off => walk_at "cnt off"
  · refine' ⟨_, ?sb, iE9 _ .none _ _ _ [] _ _ _ (iA5 rfl rfl (by assumption) (cnt_plain hT rfl rfl (.inr (.inl rfl)) (fun h hp => trivial) (.inl rfl)) ?off)⟩
    case sb => walk_at "my subs"
    case off => walk_at "cnt off"
  · refine' ⟨_, ?sb, iE9 _ (.int (-1) _) _ _ _ [] _ _ _ (iA5 rfl rfl (by assumption) (cnt_plain hT rfl rfl (.inr (.inl rfl)) (fun h hp => trivial) (.inr (.inl ⟨_, _, rfl⟩))) ?off)⟩
    case sb => walk_at "my subs"
    case off => walk_at "cnt off"
  · refine' ⟨_, ?sb, iE9 _ (.bool _) _ _ _ [] _ _ _ (iA5 rfl rfl (by assumption) (cnt_plain hT rfl rfl (.inr (.inl rfl)) (fun h hp => trivial) (.inr (.inr (.inl ⟨_, rfl⟩)))) ?off)⟩
    case sb => walk_at "my subs"
    case off => walk_at "cnt off"
  · refine' ⟨_, ?sb, iE9 _ (.int (right + more) _) _ _ _ [] _ _ _ (iA5 rfl rfl (by assumption) (cnt_plain hT rfl (cntI_int (by omega)) (.inr (.inr rfl)) (fun h hp => trivial) (.inr (.inl ⟨_, _, rfl⟩))) ?off)⟩
    case sb => walk_at "my subs"
    case off => walk_at "cnt off"
  · refine' ⟨_, ?sb, iE9 _ (.int right _) _ _ _ [] _ _ _ (iA5 rfl rfl (by assumption) (cnt_plain hT rfl (cntI_int (by omega)) (.inl rfl) (fun h hp => trivial) (.inr (.inl ⟨_, _, rfl⟩))) ?off)⟩
    case sb => walk_at "my subs"
    case off => walk_at "cnt off"
end
theorem rs_GA : True := by
  w_top off
  trivial
structure PenSt (g : Heap) (L : Addr) (h : Heap) (a c : Addr) (p : Pen) (j : Nat) (oc : Obj) (T' : List (Addr × Obj)) : Prop where
  N : News g L h ((a, penO c p) :: (c, penC p) :: T')
  off : Offs T' [a, c]
  ac : @Ne Nat a c
  pc : (L + 1, oc) ∈ T'
  cell : oc.data = .cell (some (.ref a))
  ok : p.ok j
  jl : j ≤ 100
structure PairsAt (T' : List (Addr × Obj)) (pD : Addr) (qs : List PR) : Prop where
  D : (pD, LCg.lst (pRefs qs)) ∈ T'
  t : ∀ q ∈ qs, pObj q ∈ T'
  l : qs.length ≤ 4
  b : ∀ q ∈ qs, 0 < q.n ∧ q.n ≤ 20 ∧ 0 ≤ q.o ∧ q.o < 200
section
variable {prog : Program} {w : World} {A : Around} {base : Heap} {l : List Env} {n : Nat} {g h₀ h : Heap} {gg : Array GenState} {dd : Drawn} {tt : Nat} {oo : OsState} {L : Addr} {m : Str → Option Value}
  {fa : Addr} {cd : Value} {pp : Program} {loose : List Str} {mean : ExcName → Option Value} {mg mb : Str → Option Value}
theorem segA {sc : Addr} {cs : List (Int × Tok)} {o0 : Obj} (M : Rm w A base l h₀ (n + 20)) (B : Below A base l g) (X₀ : (hd.heap_39 w.params).In g) (T : Top pp loose mean mg mb g) (F : Fr g L h m) (N : News g L h [(L + 1, o0)])
    (h0 : o0.data = .cell none) (hcs : cs.length ≤ 63) (hl : g.IsList sc (cs.map cellV).toArray) (e : m "script" = some (.ref sc)) :
    wpAny (model prog w) (A.deeper (lawE w.params L fa cd)) (execs (lawP w.params 0 2) (lawE w.params L fa cd))
      (After fun f s' => f = .next ∧ ∃ h' tk m' a c oc p j qs pD T', s' = ⟨h', gg, dd, tk, oo⟩ ∧ Fr g L h' m' ∧ PenSt g L h' a c p j oc T' ∧ PairsAt T' pD qs ∧ j ≤ 20 ∧ m' "pairs" = some (.ref pD))
      (fun _ _ => False) ⟨h, gg, dd, tt, oo⟩ := by
  walk_at "law open"
  have F₀ := Fr.put F "script" e
  clear F e
  k_dflt walk_at "law steps"
  rename_i a c _ hac _ ho1 ho2 _ oc hoc _ _ _ m0 _ p1 hm0 hm1 hp1 _ _ _ _ _ _ hr F N _
  obtain ⟨mm, rfl⟩ := Int.eq_ofNat_of_zero_le hm0
  have hmm : mm ≤ 4 := by omega
  refine LCg.CompSrc.range M.handledD F N hr (range0_small (by omega)) range0_size (by rw [sizeLine_eq]; omega) fun g₁ => ?_
  refine comp_inv (fun i ys nw => ∃ (p : Pen) (qs : List PR) (tl : List (Addr × Obj)), p.ok (1 + 2 * i) ∧ ys = pRefs qs ∧ nw = (a, penO c p) :: (c, penC p) :: (L + 1, oc) :: tl ∧ (∀ q ∈ qs, pObj q ∈ tl) ∧ Offs tl [a, c, L + 1] ∧ qs.length = i ∧ ∀ q ∈ qs, 0 < q.n ∧ q.n ≤ 20 ∧ 0 ≤ q.o ∧ q.o < 200)
    (iE3 p1 [] [] (iA7 hp1 rfl rfl (fun q hq => nomatch hq) (fun q hq => nomatch hq) rfl (fun q hq => nomatch hq))) ?_ ?_
  · rintro i ys nw v I oI C oC D m₂ h tk E' hi hlen ⟨ti', rfl⟩ HJ
    refine x3_7 HJ ?_
    clear HJ
    rintro p qs tl hp rfl rfl hqm hTl hql hqb
    intro hoC hmx F₁ N₁ off ne
    rw [Int.zero_add] at hmx
    clear F N hr hp1
    have off0 := off
    refine a4 off ?_
    intro o1 o2 o3 off4
    refine a3 o1 ?_
    intro x1 x2 x3
    refine a3 o2 ?_
    intro x4 x5 x6
    refine a3 o3 ?_
    intro x7 x8 x9
    obtain ⟨e1, e2, e3⟩ := ne
    have hTl' : Offs tl [I, C, D, a, c, L + 1] := fun q hq hm => by
      have h0 := LCg.Off3.mem off4 q hq
      rcases List.mem_cons.mp hm with e | hm
      · exact h0.1 e
      · rcases List.mem_cons.mp hm with e | hm
        · exact h0.2.1 e
        · rcases List.mem_cons.mp hm with e | hm
          · exact h0.2.2 e
          · exact hTl q hq hm
    have hi1 : 1 + 2 * i ≤ 100 := by omega
    k_dflt walk_at "law steps"
    k_unmd
    k_unfold
    rename Fr _ _ _ _ => F'
    rename News _ _ _ _ => N'
    rename _ ∧ _ ∧ _ ∧ _ ∧ _ ∧ _ ∧ AllLt _ _ => hLt
    have hAl := hLt.2.2.2.2.2.2
    refine pair_end3 F' N' off0 ⟨by k_ne, by k_ne, by k_ne⟩ fun q hq => (iE3 _ (qs ++ [q]) (pObj q :: tl) (iA7 (by assumption) (by simp [pRefs]) rfl ?_ ?_ (by simp [hql]) ?_))
    · intro p hp
      rcases List.mem_append.mp hp with h | h
      · exact .tail _ (hqm p h)
      · rw [List.mem_singleton.mp h]; exact .head _
    · refine Offs.cons hTl ?_
      rw [hq]
      simp only [List.forall_mem_cons, List.not_mem_nil, false_implies, implies_true, and_true]
      exact ⟨by k_ne, by k_ne, by k_ne⟩
    · intro p hp
      rcases List.mem_append.mp hp with h | h
      · exact hqb p h
      · rw [List.mem_singleton.mp h, hq]
        dsimp only
        omega
  · intro ys nw hlen HJ
    refine x3_7 HJ ?_
    clear HJ
    rintro p qs tl hp rfl rfl hqm hTl hql hqb
    clear F N hr hp1
    k_dflt walk_at "law steps"
    rename Fr _ _ _ _ => F
    rename News _ _ _ _ => N
    rename _ ∧ _ ∧ _ ∧ LCg.Off1 _ _ => hO
    rename_i D' _ _
    have hTl2 : Offs tl [a, c] := fun p hp hm => hTl p hp (by
      exact subW (by walk_at "sub") hm)
    refine ⟨rfl, iE11 _ _ _ a c oc p _ qs D' ((D', LCg.lst (pRefs qs)) :: (L + 1, oc) :: tl) (iA6 rfl F ⟨fun p hp => N p ?_, Offs.cons (Offs.cons hTl2 ?_) ?_, hac, .tail _ (.head _), hoc, hp, by omega⟩ ⟨.head _, fun q hq => .tail _ (.tail _ (hqm q hq)), by omega, hqb⟩ (by omega) rfl)⟩
    · exact subW (by walk_at "sub") hp
    · simp only [List.forall_mem_cons, List.not_mem_nil, false_implies, implies_true, and_true]
      exact ⟨ho1, ho2⟩
    · simp only [List.forall_mem_cons, List.not_mem_nil, false_implies, implies_true, and_true]
      exact ⟨hO.1, hO.2.1⟩
end
theorem rs_GB : True := by
  w_top off
  trivial
section
variable {prog : Program} {w : World} {A : Around} {base : Heap} {l : List Env} {n : Nat} {g h₀ h : Heap} {gg : Array GenState} {dd : Drawn} {tt : Nat} {oo : OsState} {L : Addr} {m : Str → Option Value} {led : List (Addr × Obj)}
  {fa : Addr} {cd : Value} {pp : Program} {loose : List Str} {mean : ExcName → Option Value} {mg mb : Str → Option Value} {pD : Addr} {qs : List PR}
theorem strValues_snoc (l : List (Str × Tok)) (x : Str) (t : Tok) : strValues (l ++ [(x, t)]) = strValues l ++ [Value.str x t] := by
  unfold strValues; rw [List.map_append]; rfl
theorem segB1 (M : Rm w A base l h₀ (n + 20)) (B : Below A base l g) (X₀ : (hd.heap_39 w.params).In g) (T : Top pp loose mean mg mb g) (F : Fr g L h m) (N : News g L h led)
    (hD : (pD, LCg.lst (pRefs qs)) ∈ led) (hqm : ∀ q ∈ qs, pObj q ∈ led) (e : m "pairs" = some (.ref pD)) (hql : qs.length ≤ 4) (hqb : ∀ q ∈ qs, 0 < q.n ∧ q.n ≤ 20 ∧ 0 ≤ q.o ∧ q.o < 200) :
    wpAny (model prog w) (A.deeper (lawE w.params L fa cd)) (execs (lawP w.params 2 4) (lawE w.params L fa cd))
      (After fun f s' => f = .next ∧ ∃ h' tk m' rw pt, ∃ rl pl : List (Str × Tok), ∃ kr kp, s' = ⟨h', gg, dd, tk, oo⟩ ∧ Fr g L h' m' ∧ News g L h' ((pt, listOf (strValues pl).toArray kp) :: (rw, listOf (strValues rl).toArray kr) :: led) ∧
        rl.map Prod.fst = rowsOf 0 (qs.map prOf) ∧ pl.map Prod.fst = partsOf (qs.map prOf) ∧ m' "row" = some (.ref rw) ∧ m' "parts" = some (.ref pt) ∧ m' "pairs" = some (.ref pD))
      (fun _ _ => False) ⟨h, gg, dd, tt, oo⟩ := by
  walk_at "law open"
  have N₀ : News g L h ((pD, LCg.lst (pRefs qs)) :: led) := fun p hp => by
    rcases List.mem_cons.mp hp with rfl | hp
    · exact N _ hD
    · exact N _ hp
  clear N
  have F₀ := Fr.put F "pairs" e
  clear F
  k_dflt walk_at "law steps"
  rename Fr _ _ _ _ => F
  k_dflt (refine' For_T F ?_)
  k_dflt walk_at "law steps"
  rename Fr _ _ _ _ => F
  rename News _ _ _ _ => N
  rename_i rw _ hO2 _ _ pt _ hO3 _ _
  obtain ⟨x1, x2, x3⟩ := hO3
  obtain ⟨x4, x5⟩ := hO2
  have hps : ∀ p ∈ (qs.map prOf), 0 ≤ p.2 ∧ p.2 < 200 := fun p hp => by
    obtain ⟨q, hq, rfl⟩ := List.mem_map.mp hp
    exact (hqb q hq).2.2
  have hTl2 : Offs led [pt, rw] := fun q hq hm => by
    rcases List.mem_cons.mp hm with e | hm
    · exact absurd (allLt_mem x3 q hq) (by rw [e]; exact Nat.lt_irrefl _)
    · rw [List.mem_singleton] at hm
      exact absurd (allLt_mem x5 q hq) (by rw [hm]; exact Nat.lt_irrefl _)
  refine iE6 pD (pRefs qs) (pRefs qs).length _ _ (fun j m nx => ∃ (rl pl : List (Str × Tok)) (kr kp : Nat) (to : Tok), nx = (pt, listOf (strValues pl).toArray kp) :: (rw, listOf (strValues rl).toArray kr) :: (pD, LCg.lst (pRefs qs)) :: led ∧
      rl.map Prod.fst = rowsOf 0 ((qs.map prOf).take j) ∧ pl.map Prod.fst = partsOf ((qs.map prOf).take j) ∧ m "row" = some (.ref rw) ∧ m "parts" = some (.ref pt) ∧ m "pairs" = some (.ref pD) ∧ m "offset" = some (.int (offEnd 0 ((qs.map prOf).take j)) to))
    (iA9 rfl ?_ M.handledD ?_ F N (iE5 [] [] _ _ _ (iA7 rfl rfl rfl rfl rfl rfl rfl)) ?_ ?_)
  · intro u hu
    obtain ⟨q, _, rfl⟩ := List.mem_map.mp hu
    exact ⟨_, rfl⟩
  · rintro j m nx ⟨_, _, _, _, _, rfl, _⟩; exact .tail _ (.tail _ (.head _))
  · clear F N e
    intro j u m₂ nx h₂ tk₂ I2 oI2 hu HJ
    refine x5_7 HJ ?_
    clear HJ
    rintro rl pl kr kp to enx hrl hpl e1 e2 e3 e4
    intro hne2 F₁ N₁
    rw [enx] at N₁ hne2
    clear enx
    obtain ⟨q, hq, rfl⟩ : ∃ q, qs[j]? = some q ∧ u = .ref q.a := by
      rw [List.getElem?_map] at hu
      obtain ⟨q, hq, rfl⟩ := Option.map_eq_some_iff.mp hu
      exact ⟨q, hq, rfl⟩
    have hqq := hqb q (List.mem_of_getElem? hq)
    have hjl : j < qs.length := (List.getElem?_eq_some_iff.mp hq).1
    have hT := News.isTup N₁ (a := q.a) (items := (pItems q).toArray) (.tail _ (.tail _ (.tail _ (.tail _ (hqm _ (List.mem_of_getElem? hq))))))
    have htk : (qs.map prOf).take (j + 1) = (qs.map prOf).take j ++ [(q.n, q.o)] := by
      rw [List.take_add_one, List.getElem?_map, hq]; rfl
    have hob := offEnd_bound ((qs.map prOf).take j) 0 fun p hp => hps p (List.mem_of_mem_take hp)
    have htl : ((qs.map prOf).take j).length ≤ 4 := by rw [List.length_take, List.length_map]; omega
    have hrow : rowsOf 0 ((qs.map prOf).take (j + 1)) = rowsOf 0 ((qs.map prOf).take j) ++ [dec q.n ++ Str.ofString " " ++ dec (offEnd 0 ((qs.map prOf).take j))] := by rw [htk, rowsOf_snoc]
    have hpar : partsOf ((qs.map prOf).take (j + 1)) = partsOf ((qs.map prOf).take j) ++ [dec q.o] := by rw [htk]; exact List.map_append
    have hoe : offEnd 0 ((qs.map prOf).take (j + 1)) = offEnd 0 ((qs.map prOf).take j) + (dec q.o).length + 1 := by rw [htk, offEnd_snoc]
    have hrll : (strValues rl).length ≤ 100000 := by
      have := congrArg List.length hrl
      rw [List.length_map, rowsOf_length] at this
      unfold strValues
      rw [List.length_map]; omega
    have hpll : (strValues pl).length ≤ 100000 := by
      have := congrArg List.length hpl
      rw [List.length_map] at this
      unfold partsOf at this
      rw [List.length_map] at this
      unfold strValues
      rw [List.length_map]; omega
    obtain ⟨ta, n', o, tn', to'⟩ := q
    dsimp only at hqq hT hrow hpar hoe
    have hT : IsTup h₂ ta [Value.int n' tn', .int o to'].toArray := hT
    clear htk
    replace hoe := Hid.mk hoe
    replace hrow := Hid.mk hrow
    replace hpar := Hid.mk hpar
    replace hob := Hid.mk hob
    replace htl := Hid.mk htl
    generalize hoffe : offEnd 0 ((qs.map prOf).take j) = off at *
    have hob1 : 0 ≤ off ∧ off < 200 := by
      have h1 := hob.h
      have h2 := htl.h
      omega
    replace hoffe := Hid.mk hoffe
    have l1 : Short (dec n') := ⟨by have := dec_len (n := n') (by omega) (by omega); omega⟩
    have l2 : Short (dec off) := ⟨by have := dec_len (n := off) (by omega) (by omega); omega⟩
    have l3 : Short (dec n' ++ Str.ofString " ") := ⟨by
      have := dec_len (n := n') (by omega) (by omega)
      have e : (dec n' ++ Str.ofString " ").length = (dec n').length + 1 := Array.size_append
      rw [e]; omega⟩
    have F₂ := Fr.put (Fr.put (Fr.put (Fr.put F₁ "row" e1) "parts" e2) "pairs" e3) "offset" e4
    clear F₁ hu
    simp only [List.forall_mem_cons] at hne2
    refine a4 hne2 ?_
    intro m1 m2 m3 m4
    replace m1 := neN m1
    replace m2 := neN m2
    replace m3 := neN m3
    (try k_fold)
    k_dflt walk_at "law steps"
    rename Fr _ _ _ _ => F'
    rename News _ _ _ _ => N'
    rw [← strValues_snoc, ← strValues_snoc] at N'
    refine Turn.intro F' N' (.head _) (fun p hp => .tail _ hp) (by simp only [List.forall_mem_cons]; exact ⟨m1, m2, m3, m4⟩) (iE5 _ _ _ _ _ (iA7 rfl ?_ ?_ rfl rfl rfl (by rw [hoe.h]; rfl)))
    · rw [List.map_append, hrl, hrow.h]; rfl
    · rw [List.map_append, hpl, hpar.h]; rfl
  · intro m₂ nx h₂ tk₂ HJ
    refine x5_7 HJ ?_
    clear HJ
    rintro rl pl kr kp to enx hrl hpl e1 e2 e3 e4
    intro F₁ N₁
    rw [enx] at N₁
    clear enx
    clear F N
    k_dflt walk_at "law steps"
    have hlen : (qs.map prOf).take (pRefs qs).length = qs.map prOf := by
      rw [List.length_map]
      exact List.take_of_length_le (by rw [List.length_map]; exact Nat.le_refl _)
    rw [hlen] at hrl hpl
    refine ⟨rfl, iE9 _ _ _ rw pt rl pl kr kp (iA8 rfl F₁ (fun p hp => N₁ p ?_) hrl hpl e1 e2 e3)⟩
    exact subW (by walk_at "sub") hp
end
theorem rs_GB2 : True := by
  w_top off
  trivial
theorem bInts_enc {x : Str} (h : ∀ c ∈ x.cps, c < 128) : KBw.bInts (x.cps.map (·.toUInt8)) = codesS x := by
  unfold KBw.bInts codesS
  rw [Array.toList_map, List.map_map]
  refine List.map_congr_left fun c hc => ?_
  have := h c (Array.mem_toList_iff.mp hc)
  show ((c.toUInt8.toNat : Nat) : Int) = c
  rw [Nat.toUInt8, UInt8.toNat_ofNat']
  omega
theorem plain_cps {x : Str} (h : ∀ c ∈ codesS x, Plain c) : ∀ c ∈ x.cps, c < 128 := fun c hc => by
  have := (h (c : Int) (List.mem_map_of_mem (Array.mem_toList_iff.mpr hc))).lt
  omega
theorem strs_are : ∀ (l : List (Str × Tok)), StrsAre (strValues l) (l.map Prod.fst)
  | [] => .nil
  | (y, t) :: r => .cons y t (strs_are r)
theorem rows_sum : ∀ (ps : List (Int × Int)) (off : Int), Okp ps → 0 ≤ off → off + 4 * ps.length < 100 → ((rowsOf off ps).map (·.length)).sum ≤ 8 * ps.length
  | [], _, _, _, _ => Nat.le_refl _
  | (n, v) :: r, off, hp, h0, h1 => by
    have hb := hp _ (.head _)
    have l1 := dec_len (n := n) (by omega) (by omega)
    have l2 := dec_len (n := off) (by omega) (by simp only [List.length_cons] at h1; omega)
    have l3 := dec_len (n := v) (by omega) (by omega)
    have ih := rows_sum r (off + (dec v).length + 1) (fun p hm => hp p (.tail _ hm)) (by omega) (by simp only [List.length_cons] at h1; omega)
    have e : (dec n ++ Str.ofString " " ++ dec off).length = (dec n).length + 1 + (dec off).length := by
      show (_ ++ _ : Array Nat).size = _
      rw [Array.size_append]
      show (_ ++ _ : Array Nat).size + _ = _
      rw [Array.size_append]; rfl
    show ((dec n ++ Str.ofString " " ++ dec off).length :: (rowsOf _ r).map _).sum ≤ _
    rw [List.sum_cons, e, List.length_cons]
    omega
theorem parts_sum : ∀ (ps : List (Int × Int)), Okp ps → ((partsOf ps).map (·.length)).sum ≤ 8 * ps.length
  | [], _ => Nat.le_refl _
  | (n, v) :: r, hp => by
    have hb := hp _ (.head _)
    have l3 := dec_len (n := v) (by omega) (by omega)
    have ih := parts_sum r (fun p hm => hp p (.tail _ hm))
    show ((dec v).length :: (partsOf r).map _).sum ≤ _
    rw [List.sum_cons, List.length_cons]
    omega
structure JoinFit (l : List (Str × Tok)) : Prop where
  h : ((l.map Prod.fst).map (·.length)).sum + (l.map Prod.fst).length ≤ 100000
section
variable {prog : Program} {w : World} {A : Around} {E : Value → Shared → Prop} {s : Shared} {g : Heap} {L D : Addr} {led : List (Addr × Obj)} {x : Str} {t : Tok} {Q : Value → Shared → Prop}
theorem join_my {l : List (Str × Tok)} {k : Nat} (N : News g L s.heap led) (hm : (D, listOf (strValues l).toArray k) ∈ led) (hw : JoinFit l) (hsep : x.length ≤ 16)
    (h : ∀ t' k, Q (.str (Str.join x (l.map Prod.fst)) t') { s with toks := k }) : wpAny (model prog w) A (call (.builtin "str.join") [.str x t, .ref D]) Q E s := by
  refine join_listW (items := (strValues l).toArray) ⟨_, (N _ hm).1, rfl, k, rfl⟩ (strs_are l) hsep (by have := hw.h; omega) fun t' k => ?_
  show Q (.str (Builtin.Str.glued x _) t') _
  rw [StrLaws.glued_eq_join]
  exact h t' k
theorem encode_my {b : Array UInt8} {u : Tok} (h : ∀ c ∈ x.cps, c < 128) (hz : x.cps.size ≤ 1000000) (hb : x.cps.map (·.toUInt8) = b) (hq : ∀ tk', Q (.bytes b tk') { s with toks := tk' + 1 }) :
    wpAny (model prog w) A (call (.builtin "str.encode") [.str x t, .str (Str.ofString "ascii") u]) Q E s := by
  subst hb; exact encode_ascii h hz hq
theorem cut_eval {M : Model} {tr : Sem Value} {P : Value → Shared → Prop} (h1 : wpAny M A tr P E s) (h2 : ∀ v s', P v s' → Q v s') : wpAny M A tr Q E s := wpAny_mono h1 h2 fun _ _ e => e
end
theorem ln_114 : True := by
  k_with "call builtin:str.join" => ((k_here; (with_reducible show wpAny _ _ (call (Value.builtin _) [Value.str _ _, Value.ref _]) _ _ _); k_dflt (refine' join_my ?q114zN ?q114zm ?q114zw ?q114zs ?_; (case q114zN => k_asm); (case q114zm => k_mem); (case q114zw => assumption); (case q114zs => decide)); intro _ _))
  k_with "call builtin:str.encode" => ((k_here; (with_reducible show wpAny _ _ (call (Value.builtin _) [Value.str _ _, Value.str _ _]) _ _ _); k_dflt (refine' encode_my ?q115za ?q115zb ?q115zc ?_; (case q115za => assumption); (case q115zb => assumption); (case q115zc => assumption)); intro _))
  trivial
theorem gm_encode {M : Model} {A : Around} {E : Value → Shared → Prop} {s : Shared} {x : Str} {t : Tok} {pl : Sem Bool} {Q : Value × List Value → Shared → Prop} (h : Q (.builtin "str.encode", [.str x t]) s) : wpAny M A (getMethod (.str x t) "encode" pl) Q E s := by
  with_reducible exact GM.of (.str x t) (typeIs_str _ _ _) PySem.F.slot_str_encode PySem.F.type_str_encode GM.noRef h
theorem ln_116 : True := by
  k_with "getMethod str" => (with_reducible refine gm_encode ?_)
  trivial
section
variable {prog : Program} {w : World} {A : Around} {base : Heap} {l : List Env} {n : Nat} {g h₀ h : Heap} {gg : Array GenState} {dd : Drawn} {tt : Nat} {oo : OsState} {L : Addr} {m : Str → Option Value} {led : List (Addr × Obj)}
  {fa : Addr} {cd : Value} {pp : Program} {loose : List Str} {mean : ExcName → Option Value} {mg mb : Str → Option Value} {pD rw pt : Addr} {ps : List (Int × Int)} {rl pl : List (Str × Tok)} {kr kp : Nat}
theorem segB2 (M : Rm w A base l h₀ (n + 20)) (B : Below A base l g) (X₀ : (hd.heap_39 w.params).In g) (T : Top pp loose mean mg mb g) (F : Fr g L h m) (N : News g L h ((pt, listOf (strValues pl).toArray kp) :: (rw, listOf (strValues rl).toArray kr) :: led))
    (hrl : rl.map Prod.fst = rowsOf 0 ps) (hpl : pl.map Prod.fst = partsOf ps) (e1 : m "row" = some (.ref rw)) (e2 : m "parts" = some (.ref pt)) (e3 : m "pairs" = some (.ref pD)) (hps : Okp ps) (hl : ps.length ≤ 4) :
    wpAny (model prog w) (A.deeper (lawE w.params L fa cd)) (execs (lawP w.params 6 3) (lawE w.params L fa cd))
      (After fun f s' => f = .next ∧ ∃ h' tk m' b tb b2 tb2 tl, s' = ⟨h', gg, dd, tk, oo⟩ ∧ Fr g L h' m' ∧ News g L h' led ∧ KBw.bInts b = codesS (textT ps) ∧ KBw.bInts b2 = (codesS (textT ps)).map x1 ∧
        m' "octets" = some (.bytes b tb) ∧ m' "turned_octets" = some (.bytes b2 tb2) ∧ m' "lead" = some (.str (leadT ps) tl) ∧ m' "pairs" = some (.ref pD))
      (fun _ _ => False) ⟨h, gg, dd, tt, oo⟩ := by
  have tx := text_ok hps hl
  have wr : JoinFit rl := ⟨by rw [hrl, rowsOf_length]; have := rows_sum ps 0 hps (by decide) (by omega); omega⟩
  have wp : JoinFit pl := ⟨by rw [hpl]; have := parts_sum ps hps; unfold partsOf at *; rw [List.length_map]; omega⟩
  have sl : Short (leadT ps) := ⟨by have := tx.lead; have := tx.len; omega⟩
  have ca : ∀ c ∈ (textT ps).cps, c < 128 := plain_cps tx.plain
  have cz : (textT ps).cps.size ≤ 1000000 := by have h1 := tx.len; rw [codes_len] at h1; exact Nat.le_trans h1 (by decide)
  have sr : Short (Str.join (Str.ofString " ") (rl.map Prod.fst)) := ⟨by
    rw [hrl, ← codes_len]
    exact Nat.le_trans (leadC_plain ps 0 hps (by decide) (by omega)).2 (by omega)⟩
  have sp : Short (Str.join (Str.ofString "\n") (pl.map Prod.fst)) := ⟨by
    rw [hpl, ← codes_len]
    exact Nat.le_trans (bodyC_plain ps hps).2 (by omega)⟩
  have et : textT ps = leadT ps ++ Str.join (Str.ofString "\n") (pl.map Prod.fst) := by rw [hpl]; rfl
  have F₀ := Fr.put (Fr.put (Fr.put F "row" e1) "parts" e2) "pairs" e3
  clear F e1 e2 e3
  walk_at "law open"
  k_dflt walk_at "law steps"
  refine cut_eval (P := AfterV fun v s' => ∃ t tk, v = .str (leadT ps) t ∧ s' = ⟨h, gg, dd, tk, oo⟩) ?_ ?_
  · refine wpAny_IfExp ?_
    have hT0 : rl = [] → leadT ps = Str.ofString "" := fun e => by
      rw [e] at hrl
      cases ps with
      | nil => rfl
      | cons p r => exact absurd hrl (by obtain ⟨a, b⟩ := p; intro h; cases h)
    have hT1 : rl ≠ [] → leadT ps = Str.join (Str.ofString " ") (rl.map Prod.fst) ++ Str.ofString "\n" := fun e => by
      rw [hrl]
      refine if_neg fun h => e ?_
      rw [h] at hrl
      exact List.map_eq_nil_iff.mp hrl
    have hzr : (strValues rl).length ≤ 100000 := by unfold strValues; have := wr.h; rw [List.length_map] at this ⊢; omega
    cases rl with
    | nil =>
      rw [hT0 rfl]
      k_dflt walk_at "law steps"
      exact ⟨_, _, rfl, rfl⟩
    | cons r rr =>
      rw [hT1 (by simp)]
      k_dflt walk_at "law steps"
      · rename (strValues _).isEmpty = true => h0
        exact absurd h0 (by simp [strValues])
      · exact ⟨_, _, rfl, rfl⟩
  · rintro v s' ⟨t, tk, rfl, rfl⟩
    clear sr wr sl
    have eb : KBw.bInts ((textT ps).cps.map (·.toUInt8)) = codesS (textT ps) := bInts_enc ca
    have hz : (codesS (textT ps)).length ≤ 16777216 := Nat.le_trans tx.len (by decide)
    obtain ⟨b, hb⟩ : ∃ b, (textT ps).cps.map (·.toUInt8) = b := ⟨_, rfl⟩
    rw [hb] at eb
    rw [et] at ca cz hb
    have sl : Short (leadT ps) := ⟨by have := tx.lead; have := tx.len; omega⟩
    k_dflt walk_at "law steps"
    rename Fr _ _ _ _ => F
    k_dflt (refine' ListComp_B (_F₀ := F) ?k1 ?k2 ?k3 ?k4 ?k5 ?_; (case k1 => exact rfl); (case k2 => decide); (case k3 => exact rfl); (case k4 => decide); (case k5 => exact rfl))
    k_dflt walk_at "law steps"
    rename Fr _ _ _ _ => F
    rename News _ _ _ _ => N
    refine (iE3 _ _ _ (iA6 rfl M.handledD F N (by rw [sizeLine_eq, ← KBw.ints_length, eb]; exact hz) (fun g₁ => ?_)))
    refine comp_inv (fun i ys nw => nw = _ ∧ IntsAre ys (((codesS (textT ps)).take i).map x1)) ⟨rfl, .nil⟩ ?_ ?_
    · rintro i ys nw v I oI C oC D m₂ h tk E' hi hlen ⟨c, u, hc, rfl⟩ ⟨rfl, hq⟩ hoC hmx F₁ N₁ off ne
      clear F N
      k_dflt walk_at "law steps"
      rename Fr _ _ _ _ => F'
      rename News _ _ _ _ => N'
      refine LCg.CompEnd.intro F' N' _ (fun p hp => hp) off trivial ⟨rfl, ?_⟩
      have hck := KBw.ints_get hc
      rw [eb] at hck
      rw [List.take_add_one, hck, Option.toList_some, List.map_append]
      exact hq.append (.cons _ _ .nil)
    · rintro ys nw hlen ⟨rfl, hq⟩
      rw [← KBw.ints_length, eb, List.take_length] at hq
      have hr := x1_all eb
      have hn : ((codesS (textT ps)).map x1).length ≤ 16777216 := by rw [List.length_map]; exact hz
      clear F N
      k_dflt walk_at "law steps"
      rename Fr _ _ _ _ => F'
      rename News _ _ _ _ => N'
      refine ⟨rfl, iE8 _ _ _ b _ _ _ _ (iA9 rfl F' (fun p hp => N' p ?_) eb (bInts_byteArr hr) rfl rfl rfl rfl)⟩
      repeat (first | exact hp | refine List.Mem.tail _ ?_)
end
theorem rs_GC : True := by
  w_top off
  trivial
section
variable {prog : Program} {w : World} {A : Around} {base : Heap} {l : List Env} {n : Nat} {g h₀ hh : Heap} {gg : Array GenState} {dd : Drawn} {tt : Nat} {oo : OsState} {L : Addr} {m : Str → Option Value} {led : List (Addr × Obj)} {env : Env}
theorem useNew2 {E : Value → Shared → Prop} {Q₀ : Value → Shared → Prop} {vals : List Value} {P : Heap → Prop} {C fI : Addr} {Qi : Addr → Addr → List (Addr × Obj) → Prop}
    (hC : ∀ x dx, Fun prog w fI n (.ref x :: vals) P [(x, instObj C dx), (dx, dictOf [] 0)] (fun v news' _ => v = .none ∧ Qi x dx news'))
    (M : Rm w A base l h₀ (n + 2)) (B : Below A base l g) (F : Fr g L hh m) (X₀ : (Mine.hd.heap_39 w.params).In g) (N : News g L hh led)
    (hm : makesIn (Mine.hd.heap_39 w.params) C = true) (hi : findIn (Mine.hd.heap_39 w.params) (.ref C) "__init__" = some (some (.ref fI))) (hfn : isFn (Mine.hd.heap_39 w.params) (.ref fI) = true)
    (hP : ∀ h', (∀ b o, hh.get? b = some o → h'.get? b = some o) → P h')
    (k : ∀ x dx h' tk news', Fr g L h' m → News g L h' (news' ++ led) → (∀ p ∈ news', ∀ q ∈ led, p.1 ≠ q.1) → Qi x dx news' → Q₀ (.ref x) ⟨h', gg, dd, tk, oo⟩)
    (hf : env.frame = some L) (hk : env.scope.kind = .function) :
    wpAny (model prog w) (A.deeper env) (call (.ref C) vals) Q₀ E ⟨hh, gg, dd, tt, oo⟩ := by
  refine wpAny_call (codeAny_mono (R := fun r s' => match r with | .ok (.ret v) => Q₀ v s' | .ok _ => False | .error e => E e s') ?_ fun r s' z => z)
  have X := X₀.keeps F.keep
  have N' := (N.push F emptyDict).push (F.push _) (instObj C hh.objs.size)
  rw [Heap.size_push] at N'
  refine make_core (makes_of X hm) (looks_findIn X hi) (fun self => bind_fn X self (beq_iff_eq.mp hfn)) (.inl rfl) ?_
  have kk : ∀ b o, hh.get? b = some o → ((hh.push emptyDict).push (instObj C hh.objs.size)).get? b = some o := fun b o e => Heap.get?_push_of_some _ (Heap.get?_push_of_some _ e)
  have F' : Fr g L ((hh.push emptyDict).push (instObj C hh.objs.size)) m := (F.push _).push _
  have M' := (M.deeper (env := env) B F' hf hk).make C vals
  have hs : ∀ p ∈ [(hh.objs.size + 1, instObj C hh.objs.size), (hh.objs.size, dictOf [] 0)], p ∈ (hh.objs.size + 1, instObj C hh.objs.size) :: (hh.objs.size, emptyDict) :: led := by
    intro p hp
    rcases List.mem_cons.mp hp with rfl | hp
    · exact .head _
    · rw [List.mem_singleton.mp hp]; exact .tail _ (.head _)
  refine hC (hh.objs.size + 1) hh.objs.size _ _ _ _ _ M' (own_of B N' hs hf rfl) (hP _ kk) ⟨fun v h' tk news' kp hn q => ?_⟩
  obtain ⟨rfl, q⟩ := q
  refine ⟨rfl, ?_⟩
  have hlt : ∀ p ∈ led, p.1 < hh.objs.size := fun p hp => Heap.lt_size (N p hp).1
  have hW : ∀ p ∈ led, p.1 ∉ List.map Prod.fst [(hh.objs.size + 1, instObj C hh.objs.size), (hh.objs.size, dictOf [] 0)] := fun p hp hm => by
    have h1 := hlt p hp
    rcases List.mem_cons.mp hm with e | hm
    · rw [show p.1 = hh.objs.size + 1 from e] at h1; exact absurd h1 (Nat.not_lt.mpr (Nat.le_succ _))
    · rw [show p.1 = hh.objs.size from List.mem_singleton.mp hm] at h1; exact absurd h1 (Nat.lt_irrefl _)
  have pk : Pick (List.map Prod.fst [(hh.objs.size + 1, instObj C hh.objs.size), (hh.objs.size, dictOf [] 0)]) ((hh.objs.size + 1, instObj C hh.objs.size) :: (hh.objs.size, emptyDict) :: led) led :=
    .take (.head _) (.take (.tail _ (.head _)) (Pick.rest hW fun a ha => ha))
  obtain ⟨F₂, N₂⟩ := after F' N' hs pk kp hn
  refine k _ _ h' tk news' F₂ N₂ (fun p hp r hr e => ?_) q
  rcases (hn p hp).2 with h1 | h1
  · exact hW r hr (e ▸ h1)
  · have := kk _ _ (N r hr).1
    rw [← e, h1] at this; cases this
structure CntT (prog : Program) (w : World) (number right more : Int) (tk tk' : List (Int × Value)) (oT' : Obj) (V u : VD) (c : Int) (TT : List (Addr × Obj)) : Prop where
  dT : oT'.IsDictOf (intKind prog w) tk'
  len : tk'.length ≤ tk.length + 1
  off : ∀ n, n ≠ number → valueAt tk' n = valueAt tk n
  cE : c = u.cntI
  cs : c = right ∨ c = -1 ∨ c = right + more
  at_ : ∀ h, (∀ p ∈ TT, h.get? p.1 = some p.2) → V.at_ w.params h
  f : ∀ h tk₂, (∀ p ∈ TT, h.get? p.1 = some p.2) → valueAt tk₂ number = valueAt tk' number → Fetch w.params h tk₂ V u
  hu : u = .none ∨ (∃ i t, u = .int i t) ∨ (∃ b, u = .bool b) ∨ ∃ x dx k s t, u = .name x dx k s t
theorem call_count {E : Value → Shared → Prop} {Q₀ : Value → Shared → Prop} {S dS T T2 a c : Addr} {k1 k2 : Tok} {oT : Obj} {tk : List (Int × Value)} {p : Pen} {j : Nat} {right number more : Int} {tr tn tm : Tok} {TT : List (Addr × Obj)}
    (hT : oT.IsDictOf (intKind prog w) tk) (hz : tk.length ≤ 900) (hne1 : T ≠ S) (hne2 : T ≠ dS) (hac : @Ne Nat a c) (hp : p.ok j) (hj : j ≤ 1000) (hr : 0 ≤ right) (hm : 0 ≤ more)
    (o1 : ∀ x ∈ [T, S, dS], (@Ne Nat a x) ∧ (@Ne Nat c x))
    (M : Rm w A base l h₀ (n + 3)) (B : Below A base l g) (F : Fr g L hh m) (N : News g L hh ((a, penO c p) :: (c, penC p) :: (S, instObj 512 dS) :: (dS, shD w.params k1 k2 T T2) :: (T, oT) :: TT)) (off : Offs TT [a, c, S, dS, T])
    (k : ∀ tp (V u : VD) cc tc oT' tk' (q : Pen) h' tkk TT', Fr g L h' m → News g L h' ((a, penO c q) :: (c, penC q) :: (S, instObj 512 dS) :: (dS, shD w.params k1 k2 T T2) :: (T, oT') :: TT') → Offs TT' [a, c, S, dS, T] → (∀ p ∈ TT, p ∈ TT') →
      IsTup h' tp [V.val, .int cc tc].toArray → q.ok (j + 1) → CntT prog w number right more tk tk' oT' V u cc TT' → Q₀ (.ref tp) ⟨h', gg, dd, tkk, oo⟩)
    (hf : env.frame = some L := by rfl) (hk : env.scope.kind = .function := by rfl) :
    wpAny (model prog w) (A.deeper env) (call (.ref 787) [.ref a, .ref S, .int right tr, .int number tn, .int more tm]) Q₀ E ⟨hh, gg, dd, tt, oo⟩ := by
  refine use (rest := TT) (count_ct2 (k1 := k1) (k2 := k2) (T2 := T2) (tr := tr) (tn := tn) (tm := tm) n hT hz hne1 hne2 hac hp hj hr hm o1) M B F N (fun p hp => ?_) ?_ trivial (fun v h' tkk news' F' N' _ q => ?_) hf hk
  · exact subW (by walk_at "sub") hp
  · exact .take (by simp) (.take (by simp) (.take (by simp) (.take (by simp) (.take (by simp) (Pick.rest off fun a ha => ha)))))
  · refine x9_5 q ?_
    clear q
    rintro tp V u cc tc ex oT' tk' q rfl rfl hq C hoff
    have N2 : News g L h' ((a, penO c q) :: (c, penC q) :: (S, instObj 512 dS) :: (dS, shD w.params k1 k2 T T2) :: (T, oT') :: (tp, tupO [V.val, .int cc tc]) :: (ex ++ TT)) := fun p hp => N' p (by
      have hf : ∀ z ∈ [(a, penO c q), (c, penC q), (S, instObj 512 dS), (dS, shD w.params k1 k2 T T2), (T, oT')], z ∈ (tp, tupO [V.val, .int cc tc]) :: (ex ++ [(a, penO c q), (c, penC q), (S, instObj 512 dS), (dS, shD w.params k1 k2 T T2), (T, oT')]) ++ TT := fun _ h => List.mem_append_left _ (.tail _ (List.mem_append_right _ h))
      exact subW (subC (hf _ (.head _)) (subC (hf _ (.tail _ (.head _))) (subC (hf _ (.tail _ (.tail _ (.head _)))) (subC (hf _ (.tail _ (.tail _ (.tail _ (.head _))))) (subC (hf _ (.tail _ (.tail _ (.tail _ (.tail _ (.head _)))))) (subC (List.mem_append_left _ (.head _)) (fun q h => (List.mem_append.mp h).elim (fun h => List.mem_append_left _ (.tail _ (List.mem_append_left _ h))) (List.mem_append_right _)))))))) hp)
    have hex : ∀ p ∈ ex, p ∈ (tp, tupO [V.val, .int cc tc]) :: (ex ++ TT) := fun p hp => .tail _ (List.mem_append_left _ hp)
    refine k tp V u cc tc oT' tk' q h' tkk _ F' N2 (fun p hp hm => ?_) (fun p hp => .tail _ (List.mem_append_right _ hp)) (News.isTup N2 (.tail _ (.tail _ (.tail _ (.tail _ (.tail _ (.head _))))))) hq
      ⟨C.dT, C.len, C.off, C.cE, C.cs, fun h0 hh => C.at_ h0 fun p hp => hh p (hex p hp), fun h0 tk₂ hh hv => C.f h0 tk₂ (fun p hp => hh p (hex p hp)) hv, C.hu⟩
    rcases List.mem_cons.mp hp with rfl | hp
    · exact hoff _ hm _ (.head _) rfl
    · rcases List.mem_append.mp hp with hp | hp
      · exact hoff _ hm _ (.tail _ hp) rfl
      · exact off p hp hm
end
theorem rs_GC1 : True := by
  w_top off
  trivial
theorem len_short {prog : Program} {w : World} {A : Around} {E : Value → Shared → Prop} {s : Shared} {x : Str} {t : Tok} {Q : Value → Shared → Prop} (hx : Short x) (h : Q (.int x.length (s.toks + 1)) { s with toks := s.toks + 1 + 1 }) : wpAny (model prog w) A (call (.builtin "len") [.str x t]) Q E s :=
  P.len_str (by have := hx.h; omega) h
theorem ln_117 : True := by
  k_with "call builtin:len cons" => ((k_here; (with_reducible show wpAny _ _ (call (Value.builtin "len") [Value.str _ _]) _ _ _); k_dflt (refine' len_short ?q117zx ?_; (case q117zx => assumption))))
  trivial
theorem CntT.mono {prog : Program} {w : World} {number right more : Int} {tk tk' : List (Int × Value)} {oT' : Obj} {V u : VD} {c : Int} {TT TT' : List (Addr × Obj)} (C : CntT prog w number right more tk tk' oT' V u c TT) (h : ∀ p ∈ TT, p ∈ TT') : CntT prog w number right more tk tk' oT' V u c TT' :=
  ⟨C.dT, C.len, C.off, C.cE, C.cs, fun h0 hh => C.at_ h0 fun p hp => hh p (h p hp), fun h0 tk₂ hh hv => C.f h0 tk₂ (fun p hp => hh p (h p hp)) hv, C.hu⟩
theorem offs_sub {T : List (Addr × Obj)} {W W' : List Addr} (h : Offs T W) (hs : ∀ a ∈ W', a ∈ W) : Offs T W' := fun p hp hm => h p hp (hs _ hm)
structure ShSt (prog : Program) (w : World) (S dS Tb Tr : Addr) (k1 k2 : Tok) (oT : Obj) (tk : List (Int × Value)) (TT : List (Addr × Obj)) : Prop where
  hS : (S, instObj 512 dS) ∈ TT
  hd : (dS, shD w.params k1 k2 Tb Tr) ∈ TT
  lo : (Tb == sysModules) = false
  dT : oT.IsDictOf (intKind prog w) tk
  n1 : Tb ≠ S
  n2 : Tb ≠ dS
theorem ne_shD {prog : Program} {w : World} {g h : Heap} {L Tb dS Tc Tr : Addr} {k1 k2 : Tok} {oT : Obj} {led : List (Addr × Obj)} (N : News g L h led) (h1 : (Tb, oT) ∈ led) (h2 : (dS, shD w.params k1 k2 Tc Tr) ∈ led) (hd : oT.IsDictOf (intKind prog w) []) : Tb ≠ dS := by
  rintro rfl
  have := (N _ h1).1.symm.trans (N _ h2).1
  have e := Option.some.inj this
  dsimp only at e
  rw [e] at hd
  obtain ⟨es, ep, _, h3, _, h4, _⟩ := hd
  have h5 := h4.length
  cases h3
  exact absurd h5 (by simp)
theorem ln_118 : True := by
  k_with "my call" => (((with_reducible show wpAny _ _ (call (Value.ref 512) []) _ _ _); k_dflt (refine' useNew2 (fun x dx => shelf_init_ct _ x dx) ?q118zM ?q118zB ?q118zF ?q118zX ?q118zN ?q118zhm ?q118zhi ?q118zhf (fun _ _ => trivial) ?_ rfl rfl; (case q118zM => assumption); (case q118zB => assumption); (case q118zF => k_asm); (case q118zX => k_asm); (case q118zN => k_asm); (case q118zhm => k_is); (case q118zhi => k_is); (case q118zhf => k_is)); intro _ _ _ _ _ _ _ _ q'; obtain ⟨_, _, _, _, _, _, qb', _, _⟩ := q'; subst qb'; walk_at "tout"; (try k_sweep)))
  trivial
section
variable {prog : Program} {w : World} {A : Around} {base : Heap} {l : List Env} {n : Nat} {g h₀ h : Heap} {gg : Array GenState} {dd : Drawn} {tt : Nat} {oo : OsState} {L : Addr} {m : Str → Option Value}
  {fa : Addr} {cd : Value} {pp : Program} {loose : List Str} {mean : ExcName → Option Value} {mg mb : Str → Option Value} {a c pD : Addr} {p : Pen} {j : Nat} {oc : Obj} {T' : List (Addr × Obj)} {qs : List PR} {lt : Str} {tl : Tok}
theorem segC1 (M : Rm w A base l h₀ (n + 20)) (B : Below A base l g) (X₀ : (hd.heap_39 w.params).In g) (T : Top pp loose mean mg mb g) (F : Fr g L h m) (PS : PenSt g L h a c p j oc T') (hj : j ≤ 20) (PA : PairsAt T' pD qs)
    (e1 : m "pairs" = some (.ref pD)) (e2 : m "lead" = some (.str lt tl)) (hlt : Short lt) :
    wpAny (model prog w) (A.deeper (lawE w.params L fa cd)) (execs (lawP w.params 9 4) (lawE w.params L fa cd))
      (After fun f s' => f = .next ∧ ∃ h' tk m' p' j' S dS Tb Tr k1 k2 oT tkk T2 V1 u1 c1 t1 V2 u2 c2 t2 kd tkd, s' = ⟨h', gg, dd, tk, oo⟩ ∧ Fr g L h' m' ∧ PenSt g L h' a c p' j' oc ((Tb, oT) :: T2) ∧ j' ≤ 30 ∧ (∀ q ∈ T', q ∈ T2) ∧ ShSt prog w S dS Tb Tr k1 k2 oT tkk T2 ∧ Offs T2 [Tb] ∧ tkk.length ≤ 2 ∧
        (∃ tk1 oT1, CntT prog w 50 qs.length 1 [] tk1 oT1 V1 u1 c1 T2 ∧ CntT prog w 51 lt.length 1000 tk1 tkk oT V2 u2 c2 T2) ∧ 0 ≤ kd ∧ kd < 5 ∧
        m' "shelf" = some (.ref S) ∧ m' "many" = some V1.val ∧ m' "count" = some (.int c1 t1) ∧ m' "first" = some V2.val ∧ m' "begun" = some (.int c2 t2) ∧ m' "kind" = some (.int kd tkd) ∧
        ∀ x, x ∉ [Str.ofString "shelf", Str.ofString "many", Str.ofString "count", Str.ofString "first", Str.ofString "begun", Str.ofString "kind"] → m' x = m x)
      (fun _ _ => False) ⟨h, gg, dd, tt, oo⟩ := by
  obtain ⟨N, off, hac, hpc, hcell, hp, _⟩ := PS
  obtain ⟨hD, hqm, hql, hqb⟩ := PA
  have F₀ := Fr.put (Fr.put F "pairs" e1) "lead" e2
  have N₀ : News g L h ((a, penO c p) :: (c, penC p) :: (pD, LCg.lst (pRefs qs)) :: (L + 1, oc) :: T') := fun q hq => N q (by
    simp only [List.mem_cons] at hq ⊢
    rcases hq with h | h | rfl | rfl | h
    · exact .inl h
    · exact .inr (.inl h)
    · exact .inr (.inr hD)
    · exact .inr (.inr hpc)
    · exact .inr (.inr h))
  have hna : a ≠ pD ∧ c ≠ pD ∧ a ≠ L + 1 ∧ c ≠ L + 1 := ⟨Ne.symm (off.ne (by simp) _ hD), Ne.symm (off.ne (by simp) _ hD), Ne.symm (off.ne (by simp) _ hpc), Ne.symm (off.ne (by simp) _ hpc)⟩
  clear F N
  walk_at "law open"
  k_dflt walk_at "law steps"
  rename_i S dS _ _ k1 k2 Tb Tr oT oTr hdT hlo hnew _ F N
  have hn1 : Tb ≠ S := news_neD (knd := intKind _ _) N (.tail _ (.head _)) hdT (.tail _ (.tail _ (.head _))) (by simp)
  have hn2 : Tb ≠ dS := ne_shD N (.tail _ (.head _)) (.tail _ (.tail _ (.tail _ (.head _)))) hdT
  simp only [List.forall_mem_cons, List.not_mem_nil, false_implies, implies_true, and_true] at hnew
  refine a4 hnew ?_
  clear hnew
  intro _ hb hd hf
  refine a5 hb ?_
  intro b1 b2 _ _ b3
  refine a5 hd ?_
  intro d1 d2 _ _ d3
  refine a5 hf ?_
  intro f1 f2 _ _ f3
  clear hb hd hf
  have N1 : News _ _ _ ((a, penO c p) :: (c, penC p) :: (S, instObj 512 dS) :: (dS, shD w.params k1 k2 Tb Tr) :: (Tb, oT) :: T') := fun q hq => N q (by
    exact subW (by walk_at "sub") hq)
  have off1 : Offs T' [a, c, S, dS, Tb] := fun q hq hm => by
    simp only [List.mem_cons, List.not_mem_nil, or_false] at hm
    rcases hm with e | e | e | e | e
    · exact off q hq (by simp [e])
    · exact off q hq (by simp [e])
    · exact d3 q hq e.symm
    · exact f3 q hq e.symm
    · exact b3 q hq e.symm
  have o1 : ∀ x ∈ [Tb, S, dS], (@Ne Nat a x) ∧ (@Ne Nat c x) := by
    simp only [List.forall_mem_cons, List.not_mem_nil, false_implies, implies_true, and_true]
    exact ⟨⟨Ne.symm b1, Ne.symm b2⟩, ⟨Ne.symm d1, Ne.symm d2⟩, Ne.symm f1, Ne.symm f2⟩
  have q1 : @Ne Nat a S := Ne.symm d1
  have q2 : @Ne Nat c S := Ne.symm d2
  have q3 : @Ne Nat a dS := Ne.symm f1
  have q4 : @Ne Nat c dS := Ne.symm f2
  have q5 : @Ne Nat a Tb := Ne.symm b1
  have q6 : @Ne Nat c Tb := Ne.symm b2
  obtain ⟨q7, q8, q9, q10⟩ := hna
  clear b1 b2 b3 d1 d2 d3 f1 f2 f3 N
  k_dflt (refine' call_count (TT := T') hdT (Nat.zero_le _) hn1 hn2 hac hp (by omega) (by omega) (by omega) o1 M (by assumption) F N1 off1 ?_)
  intro tp1 V1 u1 c1 t1 oT1 tk1 p1 h1 tkk1 T1 F1 N1' off1' hs1 ht1 hp1 C1
  have N2 : News g L h1 ((a, penO c p1) :: (c, penC p1) :: (S, instObj 512 dS) :: (dS, shD w.params k1 k2 Tb Tr) :: (Tb, oT1) :: (L + 1, oc) :: T1) := fun q hq => N1' q (by
    have hpc1 := hs1 _ hpc
    exact subW (by walk_at "sub") hq)
  clear N1 F off1 N1' hp
  k_dflt walk_at "law steps"
  rename Fr _ _ _ _ => F
  rename News _ _ _ _ => N
  have N1 : News _ _ _ ((a, penO c p1) :: (c, penC p1) :: (S, instObj 512 dS) :: (dS, shD w.params k1 k2 Tb Tr) :: (Tb, oT1) :: T1) := fun q hq => N q (by
    exact subW (by walk_at "sub") hq)
  have hl1 := C1.len
  rw [List.length_nil] at hl1
  k_dflt (refine' call_count (TT := T1) C1.dT (by omega) hn1 hn2 hac hp1 (by omega) (by omega) (by omega) o1 M (by assumption) F N1 off1' ?_)
  intro tp2 V2 u2 c2 t2 oT2 tk2 p2 h2 tkk2 T2 F2 N2' off2' hs2 ht2 hp2 C2
  have N3 : News g L h2 ((a, penO c p2) :: (c, penC p2) :: (S, instObj 512 dS) :: (dS, shD w.params k1 k2 Tb Tr) :: (Tb, oT2) :: (L + 1, oc) :: T2) := fun q hq => N2' q (by
    have hpc2 := hs2 _ (hs1 _ hpc)
    exact subW (by walk_at "sub") hq)
  clear N1 F off1' N2' hp1
  k_dflt walk_at "law steps"
  rename Fr _ _ _ _ => F
  rename News _ _ _ _ => N
  rename_i kd tkd p3 hk0 hk1 hp3 _
  have hl2 := C2.len
  have hsub : ∀ q ∈ T2, q ∈ (S, instObj 512 dS) :: (dS, shD w.params k1 k2 Tb Tr) :: T2 := fun q hq => .tail _ (.tail _ hq)
  refine ⟨rfl, iE8 _ _ _ p3 _ S dS Tb (iE8 Tr k1 k2 oT2 tk2 ((S, instObj 512 dS) :: (dS, shD w.params k1 k2 Tb Tr) :: T2) V1 u1 (iE8 c1 t1 V2 u2 c2 t2 kd tkd (iA18 rfl F ⟨fun q hq => N q ?_, ?_, hac, .tail _ (hsub _ (hs2 _ (hs1 _ hpc))), hcell, hp3, by omega⟩ (by omega) (fun q hq => hsub _ (hs2 _ (hs1 _ hq)))
    ⟨.head _, .tail _ (.head _), hlo, C2.dT, hn1, hn2⟩ ?_ (by omega) ⟨tk1, oT1, C1.mono fun q hq => hsub _ (hs2 _ hq), C2.mono hsub⟩ hk0 hk1 rfl rfl rfl rfl rfl rfl ?_)))⟩
  · exact subW (by walk_at "sub") hq
  · refine Offs.cons (Offs.cons (Offs.cons (offs_sub off2' (by simp)) ?_) ?_) ?_
    all_goals (simp only [List.forall_mem_cons, List.not_mem_nil, false_implies, implies_true, and_true])
    · exact ⟨q3, q4⟩
    · exact ⟨q1, q2⟩
    · exact ⟨q5, q6⟩
  · refine Offs.cons (Offs.cons (offs_sub off2' (by simp)) ?_) ?_
    all_goals (simp only [List.forall_mem_cons, List.not_mem_nil, false_implies, implies_true, and_true])
    · exact hn2
    · exact hn1
  · intro x hx
    simp only [List.mem_cons, List.not_mem_nil, or_false, not_or] at hx
    obtain ⟨y1, y2, y3, y4, y5, y6⟩ := hx
    simp only [y1, y2, y3, y4, y5, y6, if_false]
    split
    · rename_i e; rw [e, e2]
    · split
      · rename_i e; rw [e, e1]
      · rfl
end
theorem rs_GC2 : True := by
  w_top off
  trivial
section
variable {prog : Program} {w : World} {A : Around} {base : Heap} {l : List Env} {n : Nat} {g h₀ h : Heap} {gg : Array GenState} {dd : Drawn} {tt : Nat} {oo : OsState} {L : Addr} {m : Str → Option Value}
  {fa : Addr} {cd : Value} {pp : Program} {loose : List Str} {mean : ExcName → Option Value} {mg mb : Str → Option Value} {a c pD : Addr} {p : Pen} {j : Nat} {oc : Obj} {qs : List PR} {tl : Tok} {b : Array UInt8} {tb : Tok}
  {S dS Tb Tr : Addr} {k1 k2 : Tok} {oT : Obj} {tkk : List (Int × Value)} {T2 : List (Addr × Obj)} {V1 u1 : VD} {c1 : Int} {t1 : Tok} {V2 u2 : VD} {c2 : Int} {t2 : Tok} {kd : Int} {tkd : Tok}
noncomputable def C2End (prog : Program) (w : World) (g : Heap) (L : Addr) (m : Str → Option Value) (a c : Addr) (p : Pen) (j : Nat) (oc : Obj) (Tb : Addr) (oT : Obj) (tkk : List (Int × Value)) (T2 : List (Addr × Obj)) (V1 u1 V2 u2 : VD) (qs : List PR) (h' : Heap) (m' : Str → Option Value) : Prop :=
  ∃ hd kvs dv T3, ∃ V0 : VD, Fr g L h' m' ∧ PenSt g L h' a c p j oc ((Tb, oT) :: T3) ∧ (∀ q ∈ T2, q ∈ T3) ∧ Offs T3 [Tb] ∧
    (∀ hh : Heap, (∀ p ∈ T3, hh.get? p.1 = some p.2) → Entry prog w hh tkk hd kvs "Type" V0 V0 ∧ Entry prog w hh tkk hd kvs "N" V1 u1 ∧ Entry prog w hh tkk hd kvs "First" V2 u2) ∧ (V0 = .none ∨ ∃ x dx k s t, V0 = .name x dx k s t) ∧
    m' "head" = some (.ref hd) ∧ m' "due" = some dv ∧
    ((Good (codesS (textT (qs.map prOf))) (offPairs 0 (qs.map prOf)) V0 u1 u2 ∧ ∃ D qs', dv = .ref D ∧ (∃ k, (D, listOf (pRefs qs').toArray k) ∈ T3) ∧ (∀ q ∈ qs', pObj q ∈ T3) ∧ qs'.map prOf = qs.map prOf) ∨ (¬ Good (codesS (textT (qs.map prOf))) (offPairs 0 (qs.map prOf)) V0 u1 u2 ∧ dv = .none)) ∧
    m' "shelf" = m "shelf" ∧ m' "turned_octets" = m "turned_octets" ∧ m' "pairs" = m "pairs" ∧ m' "lead" = m "lead"
theorem five {k : Int} (h0 : 0 ≤ k) (h1 : k < 5) : k = 0 ∨ k = 1 ∨ k = 2 ∨ k = 3 ∨ k = 4 := by
  obtain ⟨n, rfl⟩ := Int.eq_ofNat_of_zero_le h0
  exact (by decide : ∀ n : Nat, n < 5 → ((n : Int) = 0 ∨ (n : Int) = 1 ∨ (n : Int) = 2 ∨ (n : Int) = 3 ∨ (n : Int) = 4)) n (Int.ofNat_lt.mp h1)
theorem cntI_iff (u : VD) (n : Nat) : u.cntI = (n : Int) ↔ u.cnt = some n := by
  unfold VD.cntI
  cases h : u.cnt with
  | none => simp
  | some k => simp; omega
theorem good_iff {ks : List Int} {ps : List (Int × Int)} {u0 u1 u2 : VD} {c1 c2 : Int} (h1 : c1 = u1.cntI) (h2 : c2 = u2.cntI) : Good ks ps u0 u1 u2 ↔ u0.isOs = true ∧ c1 = (ps.length : Int) ∧ 0 ≤ c2 ∧ c2 ≤ (ks.length : Int) := by
  unfold Good
  rw [h1, cntI_iff]
  refine and_congr_right fun _ => and_congr_right fun _ => ?_
  rw [h2]
  constructor
  · rintro ⟨f, hf, hl⟩
    rw [(cntI_iff _ f).mpr hf]; omega
  · rintro ⟨a, b⟩
    obtain ⟨f, hf⟩ := Int.eq_ofNat_of_zero_le a
    exact ⟨f, (cntI_iff _ f).mp hf, by omega⟩
theorem segC2 (M : Rm w A base l h₀ (n + 20)) (B : Below A base l g) (X₀ : (hd.heap_39 w.params).In g) (T : Top pp loose mean mg mb g) (F : Fr g L h m) (PS : PenSt g L h a c p j oc ((Tb, oT) :: T2)) (PA : PairsAt T2 pD qs) (SH : ShSt prog w S dS Tb Tr k1 k2 oT tkk T2) (offT : Offs T2 [Tb])
    (hC : ∃ tk1 oT1, CntT prog w 50 qs.length 1 [] tk1 oT1 V1 u1 c1 T2 ∧ CntT prog w 51 (leadT (qs.map prOf)).length 1000 tk1 tkk oT V2 u2 c2 T2) (hk0 : 0 ≤ kd) (hk1 : kd < 5)
    (hb : KBw.bInts b = codesS (textT (qs.map prOf)))
    (e1 : m "pairs" = some (.ref pD)) (e2 : m "lead" = some (.str (leadT (qs.map prOf)) tl)) (e3 : m "octets" = some (.bytes b tb)) (e4 : m "many" = some V1.val) (e5 : m "count" = some (.int c1 t1)) (e6 : m "first" = some V2.val) (e7 : m "begun" = some (.int c2 t2)) (e8 : m "kind" = some (.int kd tkd)) :
    wpAny (model prog w) (A.deeper (lawE w.params L fa cd)) (execs (lawP w.params 13 3) (lawE w.params L fa cd))
      (After fun f s' => f = .next ∧ ∃ h' tk m', s' = ⟨h', gg, dd, tk, oo⟩ ∧ C2End prog w g L m a c p j oc Tb oT tkk T2 V1 u1 V2 u2 qs h' m')
      (fun _ _ => False) ⟨h, gg, dd, tt, oo⟩ := by
  obtain ⟨N, off, hac, hpc, hcell, hp, hjl⟩ := PS
  obtain ⟨hD, hqm, hql, hqb⟩ := PA
  obtain ⟨tk1, oT1, C1, C2⟩ := hC
  have tx := text_ok (ps := qs.map prOf) (fun q hq => by obtain ⟨r, hr, rfl⟩ := List.mem_map.mp hq; exact hqb r hr) (by rw [List.length_map]; exact hql)
  have sl : Short (leadT (qs.map prOf)) := ⟨by have := tx.lead; have := tx.len; omega⟩
  have F₀ := Fr.put (Fr.put (Fr.put (Fr.put (Fr.put (Fr.put (Fr.put (Fr.put F "pairs" e1) "lead" e2) "octets" e3) "many" e4) "count" e5) "first" e6) "begun" e7) "kind" e8
  have N₀ : News g L h ((pD, LCg.lst (pRefs qs)) :: (Tb, oT) :: (a, penO c p) :: (c, penC p) :: T2) := fun q hq => N q (by
    exact subW (by walk_at "sub") hq)
  clear F N
  walk_at "law open"
  k_dflt walk_at "law steps"
  rename_i hdA _ oD lod hdd lA x3 dx3 _ tk3 la3 lb3 kk3 x2 dx2 _ tk2 la2 lb2 kk2 x1 dx1 _ tk1' la1 lb1 kk1 x0 dx0 _ tk0 la0 lb0 kk0 ls _ F N lls
  obtain ⟨NM, hNM⟩ : ∃ NM : List (Addr × Obj), NM = [(x0, instObj 332 dx0), (dx0, nameD w.params kk0 (Str.ofString "XRef") tk1'), (x1, instObj 332 dx1), (dx1, nameD w.params kk1 (Str.ofString "ObjStm") tk2), (x2, instObj 332 dx2), (dx2, nameD w.params kk2 (Str.ofString "ObjStm") tk3), (x3, instObj 332 dx3), (dx3, nameD w.params kk3 (Str.ofString "ObjStm") (tt + 1 + 1 + 1))] := ⟨_, rfl⟩
  obtain ⟨V0, hv0, hos, hsh, hat⟩ : ∃ V0 : VD, [Value.ref x3, .ref x2, .ref x1, .ref x0, .none][kd.toNat]? = some V0.val ∧ V0.isOs = decide (kd < 3) ∧ (V0 = .none ∨ ∃ x dx k s t, V0 = .name x dx k s t) ∧ (∀ hh : Heap, (∀ p ∈ NM, hh.get? p.1 = some p.2) → V0.at_ w.params hh) := by
    subst hNM
    obtain rfl | rfl | rfl | rfl | rfl := five hk0 hk1
    · exact ⟨.name x3 dx3 kk3 (Str.ofString "ObjStm") _, rfl, by show (_ == _) = _; decide, .inr ⟨_, _, _, _, _, rfl⟩, fun hh hp => ⟨hp (x3, _) (by k_mem), hp (dx3, _) (by k_mem)⟩⟩
    · exact ⟨.name x2 dx2 kk2 (Str.ofString "ObjStm") _, rfl, by show (_ == _) = _; decide, .inr ⟨_, _, _, _, _, rfl⟩, fun hh hp => ⟨hp (x2, _) (by k_mem), hp (dx2, _) (by k_mem)⟩⟩
    · exact ⟨.name x1 dx1 kk1 (Str.ofString "ObjStm") _, rfl, by show (_ == _) = _; decide, .inr ⟨_, _, _, _, _, rfl⟩, fun hh hp => ⟨hp (x1, _) (by k_mem), hp (dx1, _) (by k_mem)⟩⟩
    · exact ⟨.name x0 dx0 kk0 (Str.ofString "XRef") _, rfl, by show (_ == _) = _; decide, .inr ⟨_, _, _, _, _, rfl⟩, fun hh hp => ⟨hp (x0, _) (by k_mem), hp (dx0, _) (by k_mem)⟩⟩
    · exact ⟨.none, rfl, rfl, .inl rfl, fun _ _ => trivial⟩
  have hk63 : kd < 2 ^ 63 := by omega
  (with_unfolding_all refine' item_led ?k0 ?k1 ?k2 ?k3 ?k4 ?_ ?k6)
  case k0 => exact N
  case k1 => exact .head _
  case k2 => exact hv0
  case k3 => exact hk0
  case k4 => exact hk63
  case k6 => with_unfolding_all rfl
  have N1 : News _ _ _ ((hdA, oD) :: (pD, LCg.lst (pRefs qs)) :: (Tb, oT) :: (a, penO c p) :: (c, penC p) :: (NM ++ T2)) := fun q hq => N q (by
    subst hNM
    dsimp only [List.cons_append, List.nil_append] at hq ⊢
    exact subW (by walk_at "sub") hq)
  refine a5 lA ?_
  intro z1 z2 z3 z4 z5
  have offN : Offs (NM ++ T2) [a, c, Tb, hdA] := by
      have o2 : Offs T2 [a, c, Tb, hdA] := fun q hq hm => by
        simp only [List.mem_cons, List.not_mem_nil, or_false] at hm
        rcases hm with e | e | e | e
        · exact off q (.tail _ hq) (by rw [e]; exact .head _)
        · exact off q (.tail _ hq) (by rw [e]; exact .tail _ (.head _))
        · exact offT q hq (by rw [e]; exact .head _)
        · exact absurd (allLt_mem z5 q hq) (by rw [e]; exact Nat.lt_irrefl _)
      subst hNM
      dsimp only [List.cons_append, List.nil_append]
      refine Offs.cons (Offs.cons (Offs.cons (Offs.cons (Offs.cons (Offs.cons (Offs.cons (Offs.cons o2 ?_) ?_) ?_) ?_) ?_) ?_) ?_) ?_ <;> walk_at "alle"
  have w1 : @Ne Nat a Tb := off.ne (List.mem_cons_self ..) _ (.head _) |>.symm
  have w2 : @Ne Nat c Tb := off.ne (List.mem_cons_of_mem _ (List.mem_cons_self ..)) _ (.head _) |>.symm
  have hz : (codesS (textT (qs.map prOf))).length ≤ 16777216 := Nat.le_trans tx.len (by decide)
  have hgood := good_iff (ks := codesS (textT (qs.map prOf))) (ps := offPairs 0 (qs.map prOf)) (u0 := V0) C1.cE C2.cE
  rw [offPairs_length, List.length_map, hos, decide_eq_true_eq] at hgood
  have fin : ∀ (h' : Heap) (m' : Str → Option Value) (oD' : Obj) (dv : Value) (X : List (Addr × Obj)), Fr g L h' m' → News g L h' (X ++ (hdA, oD') :: (pD, LCg.lst (pRefs qs)) :: (Tb, oT) :: (a, penO c p) :: (c, penC p) :: (NM ++ T2)) → Offs X [a, c, Tb] →
      oD'.IsDictOf (PySem.strKind prog w) (strPairs [(.str "N" tt, V1.val), (.str "First" (tt + 1), V2.val), (.str "Type" (tt + 1 + 1), V0.val)]) → m' "head" = some (.ref hdA) → m' "due" = some dv →
      (((kd < 3 ∧ c1 = (qs.length : Int) ∧ 0 ≤ c2 ∧ c2 ≤ ((codesS (textT (qs.map prOf))).length : Int)) ∧ ∃ D qs', dv = .ref D ∧ (∃ k, (D, listOf (pRefs qs').toArray k) ∈ X ++ T2) ∧ (∀ q ∈ qs', pObj q ∈ T2) ∧ qs'.map prOf = qs.map prOf) ∨ (¬ (kd < 3 ∧ c1 = (qs.length : Int) ∧ 0 ≤ c2 ∧ c2 ≤ ((codesS (textT (qs.map prOf))).length : Int)) ∧ dv = .none)) →
      (m' "shelf" = m "shelf" ∧ m' "turned_octets" = m "turned_octets" ∧ m' "pairs" = m "pairs" ∧ m' "lead" = m "lead") → C2End prog w g L m a c p j oc Tb oT tkk T2 V1 u1 V2 u2 qs h' m' := by
    intro h' m' oD' dv X F' N' oX hD' e1 e2 hdue hm
    have s2 : ∀ q ∈ T2, q ∈ X ++ (hdA, oD') :: (NM ++ T2) := fun q hq => List.mem_append_right _ (.tail _ (List.mem_append_right _ hq))
    refine (iE5 hdA (strPairs [(.str (Str.ofString "N") tt, V1.val), (.str (Str.ofString "First") (tt + 1), V2.val), (.str (Str.ofString "Type") (tt + 1 + 1), V0.val)]) dv (X ++ (hdA, oD') :: (NM ++ T2)) V0 (iA10 F' ⟨fun q hq => N' q ?_, ?_, hac, .tail _ (s2 _ ?_), hcell, hp, hjl⟩ s2 ?_ (fun hh hq => ?_) hsh e1 e2 ?_ hm))
    · simp only [List.mem_cons, List.mem_append] at hq ⊢
      rcases hq with h | h | h | h | h | h | h <;> simp [h]
    · refine Offs.cons (fun q hq hm => ?_) (by simp only [List.forall_mem_cons, List.not_mem_nil, false_implies, implies_true, and_true]; exact ⟨w1, w2⟩)
      rcases List.mem_append.mp hq with hq | hq
      · exact oX q hq (by simp only [List.mem_cons, List.not_mem_nil, or_false] at hm ⊢; rcases hm with e | e <;> simp [e])
      · rcases List.mem_cons.mp hq with rfl | hq
        · simp only [List.mem_cons, List.not_mem_nil, or_false] at hm
          rcases hm with e | e <;> exact absurd e (by k_ne)
        · exact offN q hq (by simp only [List.mem_cons, List.not_mem_nil, or_false] at hm ⊢; rcases hm with e | e <;> simp [e])
    · rcases List.mem_cons.mp hpc with e | h
      · exact absurd hcell (by rw [(Prod.mk.inj e).2]; obtain ⟨es, ep, _, h3, _⟩ := SH.dT; rw [h3]; simp)
      · exact h
    · intro q hq hm
      rw [List.mem_singleton] at hm
      rcases List.mem_append.mp hq with hq | hq
      · exact oX q hq (by simp [hm])
      · rcases List.mem_cons.mp hq with rfl | hq
        · exact absurd hm (by k_ne)
        · exact offN q hq (by simp [hm])
    · have hT2 : ∀ q ∈ T2, hh.get? q.1 = some q.2 := fun q h => hq q (s2 q h)
      have hd0 : hh.DictOf (PySem.strKind prog w) hdA _ := Heap.dictOf_iff.mpr ⟨oD', hq _ (List.mem_append_right _ (.head _)), hD'⟩
      refine ⟨⟨hd0, lod, rfl, hat hh fun q h => hq q (List.mem_append_right _ (.tail _ (List.mem_append_left _ h))), .inl ⟨rfl, ?_⟩⟩, ⟨hd0, lod, rfl, C1.at_ hh hT2, C1.f hh tkk hT2 (C2.off 50 (by decide))⟩, ⟨hd0, lod, rfl, C2.at_ hh hT2, C2.f hh tkk hT2 rfl⟩⟩
      rcases hsh with rfl | ⟨_, _, _, _, _, rfl⟩ <;> rfl
    · rw [hgood]
      rcases hdue with ⟨h1, D, qs', h2, ⟨k, h3⟩, h4, h5⟩ | h
      · refine .inl ⟨h1, D, qs', h2, ⟨k, ?_⟩, fun q hq => s2 _ (h4 q hq), h5⟩
        rcases List.mem_append.mp h3 with h3 | h3
        · exact List.mem_append_left _ h3
        · exact s2 _ h3
      · exact .inr h
  have hcs1 := C1.cs
  have hcs2 := C2.cs
  have hll := tx.lead
  have hl100 := tx.len
  clear N la3 lb3 la2 lb2 la1 lb1 la0 lb0 lls hat hv0
  k_dflt walk_at "law steps"
  all_goals (rename Fr _ _ _ _ => F'; rename News _ _ _ _ => N'; clear hgood)
  all_goals first
    | (refine ⟨rfl, iE3 _ _ _ ⟨rfl, fin _ _ _ _ [] F' N' (fun q hq => nomatch hq) (by assumption) rfl rfl (.inr ⟨by omega, rfl⟩) ?_⟩⟩)
    | (refine ⟨rfl, iE3 _ _ _ ⟨rfl, fin _ _ _ _ [] F' N' (fun q hq => nomatch hq) (by assumption) rfl rfl (.inl ⟨⟨by omega, by omega, by omega, by omega⟩, pD, qs, rfl, ⟨_, hD⟩, hqm, rfl⟩) ?_⟩⟩)
    | (refine ⟨rfl, iE3 _ _ _ ⟨rfl, fin _ _ _ _ [(_, listOf #[] 0)] F' N' (by
          intro q hq hm
          rw [List.mem_singleton.mp hq] at hm
          simp only [List.mem_cons, List.not_mem_nil, or_false] at hm
          rcases hm with e | e | e <;> exact absurd e (by k_ne)) (by assumption) rfl rfl (.inl ⟨⟨by omega, by omega, by omega, by omega⟩, _, [], rfl, ⟨0, .head _⟩, (fun q hq => nomatch hq), by
          have : qs = [] := List.eq_nil_of_length_eq_zero (by omega)
          rw [this]⟩) ?_⟩⟩)
  all_goals exact ⟨rfl, rfl, e1.symm, e2.symm⟩
end
theorem rs_GD : True := by
  w_top off
  trivial
theorem prOf_of : ∀ {qs : List PR} {ps : List (Int × Int)}, qs.map PR.n = ps.map Prod.fst → qs.map PR.o = ps.map Prod.snd → qs.map prOf = ps
  | [], [], _, _ => rfl
  | [], _ :: _, h, _ => by cases h
  | _ :: _, [], h, _ => by cases h
  | q :: qs, (a, b) :: ps, h1, h2 => by
    simp only [List.map_cons, List.cons.injEq] at h1 h2 ⊢
    exact ⟨by show (q.n, q.o) = _; rw [h1.1, h2.1], prOf_of h1.2 h2.2⟩
theorem fine_of {ps : List (Int × Int)} (tx : TextOk ps) (hl : ps.length ≤ 4) {u1 u2 : VD} {c1 c2 : Int} (e1 : c1 = u1.cntI) (s1 : c1 = (ps.length : Int) ∨ c1 = -1 ∨ c1 = (ps.length : Int) + 1) (e2 : c2 = u2.cntI) (s2 : c2 = ((leadT ps).length : Int) ∨ c2 = -1 ∨ c2 = ((leadT ps).length : Int) + 1000) :
    Fine (codesS (textT ps)) (offPairs 0 ps) (ps.map Prod.snd) u1 u2 := by
  have hz := tx.len
  have hf : ∀ f, u2.cnt = some f → f ≤ (codesS (textT ps)).length → f = (leadT ps).length := fun f h h' => by
    rw [(cntI_iff u2 f).mpr h] at e2
    omega
  refine ⟨tx.asc, fun mm h => ?_, fun f _ x hx => (tx.plain x (List.mem_of_mem_take hx)).no37, fun f h h' => ?_, fun f h h' => ?_⟩
  · rw [(cntI_iff u1 mm).mpr h] at e1
    rw [offPairs_length]
    omega
  · rw [hf f h h']; exact tx.ld
  · rw [hf f h h']; exact tx.pt
theorem ln_119 : True := by
  k_with "my call" => (((with_reducible show wpAny _ _ (call (Value.ref 375) [Value.ref _, Value.bytes _ _]) _ _ _); k_dflt (refine' useN2 (fun x dx => stream_init_ct _ x dx) ?q119zM ?q119zB ?q119zF ?q119zX ?q119zN ?q119zhm ?q119zhi ?q119zhf (fun _ _ => trivial) ?_ rfl rfl; (case q119zM => assumption); (case q119zB => assumption); (case q119zF => k_asm); (case q119zX => k_asm); (case q119zN => k_asm); (case q119zhm => k_is); (case q119zhi => k_is); (case q119zhf => k_is)); walk_at "tinN"; intro _ _ _; walk_at "tout"; (try k_sweep)))
  k_with "law stepsD" => (repeat' ((fail_if_success (with_reducible show wpAny _ _ (compareOp _ (Value.ref _) (Value.ref _)) _ _ _)); walk_at "law go"; (first | (k_unfold; (try dsimp only)) | ((with_reducible show wpAny _ _ (PySem.call (Prod.fst _) _) _ _ _); dsimp only [List.cons_append, List.nil_append]) | walk1 | (dsimp only; walk1))))
  trivial
section
variable {prog : Program} {w : World} {A : Around} {base : Heap} {l : List Env} {n : Nat} {g h₀ hh : Heap} {gg : Array GenState} {dd : Drawn} {tt : Nat} {oo : OsState} {L : Addr} {m : Str → Option Value} {led : List (Addr × Obj)} {env : Env}
theorem useH {E : Value → Shared → Prop} {Q₀ : Value → Shared → Prop} {vs : List Value} {P : Heap → Prop} {Q : Post}
    (C : Heard prog w n vs P Q) (M : Rm w A base [] h₀ (n + 1)) (B : Below A base [] g) (F : Fr g L hh m) (N : News g L hh led) (hP : P hh)
    (k : ∀ v h' tk nw, Fr g L h' m → News g L h' (nw ++ led) → Q v nw h' → Q₀ v ⟨h', gg, dd, tk, oo⟩)
    (hf : env.frame = some L) (hk : env.scope.kind = .function) :
    wpAny (model prog w) (A.deeper env) (call (.ref 799) vs) Q₀ E ⟨hh, gg, dd, tt, oo⟩ := by
  have M₁ := M.deeper (env := env) B F hf hk
  have hg : g.get? L = none := by
    cases q : g.get? L with
    | none => rfl
    | some o => exact absurd (Nat.lt_of_lt_of_le (Heap.lt_size q) F.above) (Nat.lt_irrefl _)
  have hL : ∀ b, b ∈ frs [env] → b = L := fun b hb => by
    obtain ⟨e, he, hfe⟩ := List.mem_filterMap.mp hb
    rw [List.mem_singleton.mp he, hf] at hfe
    exact (Option.some.inj hfe).symm
  have keepG : ∀ h', KpS [env] hh h' → ∀ b o, g.get? b = some o → h'.get? b = some o := fun h' kp b o e => kp.keep b o (fun hb => by rw [hL b hb, hg] at e; cases e) (F.keep b o e)
  refine wpAny_call (C _ _ _ _ _ M₁ hP fun v h' tk nw kp hs q => ?_)
  refine k v h' tk nw ⟨kp.up.ns F.ns, keepG h' kp, F.above⟩ (fun p hp => ?_) q
  obtain ⟨oL, es, ep, hLo, _⟩ := F.ns
  rcases List.mem_append.mp hp with hp | hp
  · have h1 : hh.get? p.1 = none := by
      rcases (hs p hp).2 with h | h
      · cases h
      · exact h
    refine ⟨(hs p hp).1, fun e => ?_, ?_⟩
    · rw [e, hLo] at h1; cases h1
    · cases z : g.get? p.1 with
      | none => rfl
      | some o => have := F.keep _ _ z; rw [h1] at this; cases this
  · exact ⟨kp.keep _ _ (fun hb => (N p hp).2.1 (hL _ hb)) (N p hp).1, (N p hp).2⟩
variable {fa : Addr} {cd : Value} {pp : Program} {loose : List Str} {mean : ExcName → Option Value} {mg mb : Str → Option Value} {ps : List (Int × Int)} {b2 : Array UInt8} {tb2 : Tok}
  {S dS Tb Tr : Addr} {k1 k2 : Tok} {tkk : List (Int × Value)} {V0 V1 u1 V2 u2 : VD} {hdA : Addr} {kvs : List (Str × Value)} {dv : Value} {h : Heap}
theorem segD1 (M : Rm w A base [] h₀ (n + 20)) (B : Below A base [] g) (X₀ : (hd.heap_39 w.params).In g) (T : Top pp loose mean mg mb g) (F : Fr g L h m) (N : News g L h led)
    (hSh : ∀ hh : Heap, (∀ p ∈ led, hh.get? p.1 = some p.2) → ShAt prog w hh S dS Tb Tr k1 k2 tkk)
    (hE : ∀ hh : Heap, (∀ p ∈ led, hh.get? p.1 = some p.2) → Entry prog w hh tkk hdA kvs "Type" V0 V0 ∧ Entry prog w hh tkk hdA kvs "N" V1 u1 ∧ Entry prog w hh tkk hdA kvs "First" V2 u2)
    (hu0 : V0 = .none ∨ ∃ x dx k s t, V0 = .name x dx k s t) (hu1 : u1 = .none ∨ (∃ i t, u1 = .int i t) ∨ (∃ b, u1 = .bool b) ∨ ∃ x dx k s t, u1 = .name x dx k s t) (hu2 : u2 = .none ∨ (∃ i t, u2 = .int i t) ∨ (∃ b, u2 = .bool b) ∨ ∃ x dx k s t, u2 = .name x dx k s t)
    (hb2 : KBw.bInts b2 = (codesS (textT ps)).map x1) (hbb : ((codesS (textT ps)).map x1).map x1 = codesS (textT ps)) (hz : (codesS (textT ps)).length ≤ 16777216)
    (hF : Fine (codesS (textT ps)) (offPairs 0 ps) (ps.map Prod.snd) u1 u2)
    (hdue : (Good (codesS (textT ps)) (offPairs 0 ps) V0 u1 u2 ∧ ∃ D qs', dv = .ref D ∧ (∃ k, (D, listOf (pRefs qs').toArray k) ∈ led) ∧ (∀ q ∈ qs', pObj q ∈ led) ∧ qs'.map prOf = ps) ∨ (¬ Good (codesS (textT ps)) (offPairs 0 ps) V0 u1 u2 ∧ dv = .none))
    (e1 : m "shelf" = some (.ref S)) (e2 : m "head" = some (.ref hdA)) (e3 : m "turned_octets" = some (.bytes b2 tb2)) (e4 : m "due" = some dv) :
    wpAny (model prog w) (A.deeper (lawE w.params L fa cd)) (execs (lawP w.params 16 1) (lawE w.params L fa cd))
      (After fun f s' => f = .next ∧ ∃ h' tk, s' = ⟨h', gg, dd, tk, oo⟩ ∧ Fr g L h' m ∧ News g L h' led)
      (fun _ _ => False) ⟨h, gg, dd, tt, oo⟩ := by
  have Fb : ∀ h', Fr g L h' (fun y => if y = "due" then some dv else if y = "turned_octets" then some (.bytes b2 tb2) else if y = "head" then some (.ref hdA) else if y = "shelf" then some (.ref S) else m y) → Fr g L h' m := fun h' f => by
    have : (fun y : Str => if y = "due" then some dv else if y = "turned_octets" then some (.bytes b2 tb2) else if y = "head" then some (.ref hdA) else if y = "shelf" then some (.ref S) else m y) = m := by
      funext y
      split
      · rename_i e; rw [e, e4]
      · split
        · rename_i e; rw [e, e3]
        · split
          · rename_i e; rw [e, e2]
          · split
            · rename_i e; rw [e, e1]
            · rfl
    rw [this] at f; exact f
  have F₀ := Fr.put (Fr.put (Fr.put (Fr.put F "shelf" e1) "head" e2) "turned_octets" e3) "due" e4
  clear F
  walk_at "law open"
  k_dflt walk_at "law steps"
  rename Fr _ _ _ _ => F
  rename News _ _ _ _ => N'
  rename_i x dx h1 tk1 l1 l2 s1 s2
  have hx : h1.get? x = some (instObj 375 dx) := (N' _ (.head _)).1
  have hdx := (N' _ (.tail _ (.head _))).1
  have hld : ∀ q ∈ led, h1.get? q.1 = some q.2 := fun q hq => (N' _ (.tail _ (.tail _ hq))).1
  have C := heard_gen (read_packed_ct (prog := prog) (w := w) (n := n + 7) (S := S) (dS := dS) (T := Tb) (T2 := Tr) (x := x) (dx := dx) (hd := hdA) (sk1 := k1) (sk2 := k2) (k1 := s1) (k2 := s2) (tk := tkk) (kvs := kvs) (tb := tb2) (v0 := V0) (v1 := V1) (v2 := V2) hb2 hbb hz hF hu0 hu1 hu2)
    (fun h h' k hp => ⟨hp.1.keeps k, VD.keeps hp.2.1 k, hp.2.2.1.keeps k, hp.2.2.2.1.keeps k, hp.2.2.2.2.keeps k⟩)
  have M' : Rm w A base [] h₀ (n + 7 + 11 + 1 + 1) := M
  have hP := And.intro (hSh _ hld) (And.intro (And.intro hx hdx) (hE _ hld))
  refine useH (n := n + 7 + 11 + 1) C M' B F N' hP ?_ rfl rfl
  intro v h2 tk2 nw F2 N2 hq
  clear F N' hld hx hdx C hP M'
  have hu : (A.deeper (lawE w.params L fa cd)).units + 64 < cLine := by
    have := M.units
    show A.units + 3 + 64 < cLine
    omega
  rcases hq with ⟨hG, D', qs2, rfl, hn, ho, rfl⟩ | ⟨hG, rfl, rfl⟩
  · rcases hdue with ⟨_, D, qs', rfl, ⟨k, hDl⟩, hqs, hps⟩ | ⟨hG', _⟩
    · rw [offPairs_fst] at hn
      have N3 : News g L h2 led := fun q hq => N2 _ (List.mem_append_right _ (.tail _ (.tail _ hq)))
      have l1 : h2.IsList D' (pRefs qs2).toArray := ⟨_, (N2 _ (.head _)).1, rfl, _, rfl⟩
      have l2 : h2.IsList D (pRefs qs').toArray := ⟨_, (N3 _ hDl).1, rfl, _, rfl⟩
      have t1 : ∀ q ∈ qs2, IsTup h2 q.a (pItems q).toArray := fun q hq => News.isTup N2 (List.mem_append_left _ (.tail _ (List.mem_map_of_mem (f := pObj) hq)))
      have t2 : ∀ q ∈ qs', IsTup h2 q.a (pItems q).toArray := fun q hq => News.isTup N3 (hqs q hq)
      clear N2
      k_dflt walk_at "law stepsD"
      refine ne_pairs l1 l2 t1 t2 ((prOf_of hn ho).trans hps.symm) hu ?_
      k_dflt walk_at "law stepsD"
      exact ⟨rfl, _, _, rfl, Fb _ F2, N3⟩
    · exact absurd hG hG'
  · rcases hdue with ⟨hG', _⟩ | ⟨_, rfl⟩
    · exact absurd hG' hG
    · have N3 : News g L h2 led := fun q hq => N2 _ (.tail _ (.tail _ hq))
      k_dflt walk_at "law stepsD"
      exact ⟨rfl, _, _, rfl, Fb _ F2, N3⟩
end
theorem rs_GD2 : True := by
  w_top off
  trivial
section
variable {prog : Program} {w : World} {A : Around} {base : Heap} {l : List Env} {n : Nat} {g h₀ h : Heap} {gg : Array GenState} {dd : Drawn} {tt : Nat} {oo : OsState} {L : Addr} {m : Str → Option Value} {led : List (Addr × Obj)}
  {fa : Addr} {cd : Value} {pp : Program} {loose : List Str} {mean : ExcName → Option Value} {mg mb : Str → Option Value} {qs : List PR} {pD : Addr} {b2 : Array UInt8} {tb2 tl : Tok}
  {S dS Tb Tr : Addr} {k1 k2 : Tok} {tkk : List (Int × Value)}
theorem segD2 (M : Rm w A base [] h₀ (n + 20)) (B : Below A base [] g) (X₀ : (hd.heap_39 w.params).In g) (T : Top pp loose mean mg mb g) (F : Fr g L h m) (N : News g L h led)
    (hSh : ∀ hh : Heap, (∀ p ∈ led, hh.get? p.1 = some p.2) → ShAt prog w hh S dS Tb Tr k1 k2 tkk)
    (hD : (pD, LCg.lst (pRefs qs)) ∈ led) (hqm : ∀ q ∈ qs, pObj q ∈ led) (hql : qs.length ≤ 4) (tx : TextOk (qs.map prOf))
    (hb2 : KBw.bInts b2 = (codesS (textT (qs.map prOf))).map x1) (hbb : ((codesS (textT (qs.map prOf))).map x1).map x1 = codesS (textT (qs.map prOf)))
    (e1 : m "shelf" = some (.ref S)) (e2 : m "pairs" = some (.ref pD)) (e3 : m "turned_octets" = some (.bytes b2 tb2)) (e4 : m "lead" = some (.str (leadT (qs.map prOf)) tl)) :
    wpAny (model prog w) (A.deeper (lawE w.params L fa cd)) (execs (lawP w.params 17 1) (lawE w.params L fa cd))
      (After fun f s' => f = .next ∧ ∃ h' tk, s' = ⟨h', gg, dd, tk, oo⟩ ∧ Fr g L h' m ∧ News g L h' led)
      (fun _ _ => False) ⟨h, gg, dd, tt, oo⟩ := by
  have F₀ := Fr.put (Fr.put (Fr.put (Fr.put F "shelf" e1) "pairs" e2) "turned_octets" e3) "lead" e4
  have sl : Short (leadT (qs.map prOf)) := ⟨by have := tx.lead; have := tx.len; omega⟩
  have N₀ : News g L h ((pD, LCg.lst (pRefs qs)) :: led) := fun p hp => by
    rcases List.mem_cons.mp hp with rfl | hp
    · exact N _ hD
    · exact N _ hp
  have Fb : ∀ h', Fr g L h' (fun y => if y = "lead" then some (.str (leadT (qs.map prOf)) tl) else if y = "turned_octets" then some (.bytes b2 tb2) else if y = "pairs" then some (.ref pD) else if y = "shelf" then some (.ref S) else m y) → Fr g L h' m := fun h' f => by
    have : (fun y : Str => if y = "lead" then some (.str (leadT (qs.map prOf)) tl) else if y = "turned_octets" then some (.bytes b2 tb2) else if y = "pairs" then some (.ref pD) else if y = "shelf" then some (.ref S) else m y) = m := by
      funext y
      split
      · rename_i e; rw [e, e4]
      · split
        · rename_i e; rw [e, e3]
        · split
          · rename_i e; rw [e, e2]
          · split
            · rename_i e; rw [e, e1]
            · rfl
    rw [this] at f; exact f
  clear F N
  walk_at "law open"
  k_dflt walk_at "law stepsD"
  rename_i hA _ _ lod _ lx xN dxN _ _ la lb kN _ oA hdd x dx h1 tk1 F lc ld s1 s2 N'
  have hx : h1.get? x = some (instObj 375 dx) := (N' _ (.head _)).1
  have hdx := (N' _ (.tail _ (.head _))).1
  have hn1 := (N' _ (.tail _ (.tail _ (.head _)))).1
  have hn2 := (N' _ (.tail _ (.tail _ (.tail _ (.head _))))).1
  have hh := (N' _ (.tail _ (.tail _ (.tail _ (.tail _ (.head _)))))).1
  have hld : ∀ q ∈ led, h1.get? q.1 = some q.2 := fun q hq => (N' _ (.tail _ (.tail _ (.tail _ (.tail _ (.tail _ (.tail _ hq))))))).1
  have hF := fine_of tx (by rw [List.length_map]; exact hql) (u1 := .int qs.length (tt + 1 + 1)) (u2 := .int (leadT (qs.map prOf)).length (tt + 1 + 1 + 1 + 1 + 1)) (cntI_int (by omega)) (.inl (by rw [List.length_map])) (cntI_int (by omega)) (.inl rfl)
  have hG : Good (codesS (textT (qs.map prOf))) (offPairs 0 (qs.map prOf)) (.name xN dxN kN (Str.ofString "ObjStm") (tt + 1 + 1 + 1 + 1 + 1 + 1 + 1)) (.int qs.length (tt + 1 + 1)) (.int (leadT (qs.map prOf)).length (tt + 1 + 1 + 1 + 1 + 1)) := by
    rw [good_iff (cntI_int (by omega)) (cntI_int (by omega)), offPairs_length, List.length_map]
    refine ⟨?_, rfl, by omega, by have := tx.lead; omega⟩
    show (_ == _) = true
    decide
  have hz : (codesS (textT (qs.map prOf))).length ≤ 16777216 := Nat.le_trans tx.len (by decide)
  have hd0 : h1.DictOf (PySem.strKind prog w) hA (strPairs [(.str "N" tt, .int qs.length (tt + 1 + 1)), (.str "First" (tt + 1 + 1 + 1), .int (leadT (qs.map prOf)).length (tt + 1 + 1 + 1 + 1 + 1)), (.str "Type" (tt + 1 + 1 + 1 + 1 + 1 + 1), .ref xN)]) := Heap.dictOf_iff.mpr ⟨oA, hh, hdd⟩
  have hE0 : Entry prog w h1 tkk hA (strPairs [(.str "N" tt, .int qs.length (tt + 1 + 1)), (.str "First" (tt + 1 + 1 + 1), .int (leadT (qs.map prOf)).length (tt + 1 + 1 + 1 + 1 + 1)), (.str "Type" (tt + 1 + 1 + 1 + 1 + 1 + 1), .ref xN)]) "Type" (.name xN dxN kN (Str.ofString "ObjStm") (tt + 1 + 1 + 1 + 1 + 1 + 1 + 1)) (.name xN dxN kN (Str.ofString "ObjStm") (tt + 1 + 1 + 1 + 1 + 1 + 1 + 1)) := ⟨hd0, lod, rfl, ⟨hn1, hn2⟩, .inl ⟨rfl, rfl⟩⟩
  have hE1 : Entry prog w h1 tkk hA (strPairs [(.str "N" tt, .int qs.length (tt + 1 + 1)), (.str "First" (tt + 1 + 1 + 1), .int (leadT (qs.map prOf)).length (tt + 1 + 1 + 1 + 1 + 1)), (.str "Type" (tt + 1 + 1 + 1 + 1 + 1 + 1), .ref xN)]) "N" (.int qs.length (tt + 1 + 1)) (.int qs.length (tt + 1 + 1)) := ⟨hd0, lod, rfl, trivial, .inl ⟨rfl, rfl⟩⟩
  have hE2 : Entry prog w h1 tkk hA (strPairs [(.str "N" tt, .int qs.length (tt + 1 + 1)), (.str "First" (tt + 1 + 1 + 1), .int (leadT (qs.map prOf)).length (tt + 1 + 1 + 1 + 1 + 1)), (.str "Type" (tt + 1 + 1 + 1 + 1 + 1 + 1), .ref xN)]) "First" (.int (leadT (qs.map prOf)).length (tt + 1 + 1 + 1 + 1 + 1)) (.int (leadT (qs.map prOf)).length (tt + 1 + 1 + 1 + 1 + 1)) := ⟨hd0, lod, rfl, trivial, .inl ⟨rfl, rfl⟩⟩
  have C := heard_gen (read_packed_ct (prog := prog) (w := w) (n := n + 7) (S := S) (dS := dS) (T := Tb) (T2 := Tr) (x := x) (dx := dx) (hd := hA) (sk1 := k1) (sk2 := k2) (k1 := s1) (k2 := s2) (tk := tkk) (kvs := (strPairs [(.str "N" tt, .int qs.length (tt + 1 + 1)), (.str "First" (tt + 1 + 1 + 1), .int (leadT (qs.map prOf)).length (tt + 1 + 1 + 1 + 1 + 1)), (.str "Type" (tt + 1 + 1 + 1 + 1 + 1 + 1), .ref xN)])) (tb := tb2) (u0 := .name xN dxN kN (Str.ofString "ObjStm") (tt + 1 + 1 + 1 + 1 + 1 + 1 + 1)) (v0 := .name xN dxN kN (Str.ofString "ObjStm") (tt + 1 + 1 + 1 + 1 + 1 + 1 + 1)) (v1 := .int qs.length (tt + 1 + 1)) (v2 := .int (leadT (qs.map prOf)).length (tt + 1 + 1 + 1 + 1 + 1)) hb2 hbb hz hF (.inr ⟨_, _, _, _, _, rfl⟩) (.inr (.inl ⟨_, _, rfl⟩)) (.inr (.inl ⟨_, _, rfl⟩)))
    (fun h h' k hp => ⟨hp.1.keeps k, VD.keeps hp.2.1 k, hp.2.2.1.keeps k, hp.2.2.2.1.keeps k, hp.2.2.2.2.keeps k⟩)
  have M' : Rm w A base [] h₀ (n + 7 + 11 + 1 + 1) := M
  have hP := And.intro (hSh _ hld) (And.intro (And.intro hx hdx) (And.intro hE0 (And.intro hE1 hE2)))
  refine useH (n := n + 7 + 11 + 1) C M' B F N' hP ?_ rfl rfl
  intro v h2 tk2 nw F2 N2 hq
  clear F N' hld hx hdx C hP M' hE0 hE1 hE2 hd0 hh hn1 hn2
  have hu : (A.deeper (lawE w.params L fa cd)).units + 64 < cLine := by
    have := M.units
    show A.units + 3 + 64 < cLine
    omega
  rcases hq with ⟨_, D', qs2, rfl, hn, ho, rfl⟩ | ⟨hG', rfl, rfl⟩
  · rw [offPairs_fst] at hn
    have N3 : News g L h2 led := fun q hq => N2 _ (List.mem_append_right _ (.tail _ (.tail _ (.tail _ (.tail _ (.tail _ (.tail _ hq)))))))
    have l1 : h2.IsList D' (pRefs qs2).toArray := ⟨_, (N2 _ (.head _)).1, rfl, _, rfl⟩
    have l2 : h2.IsList pD (pRefs qs).toArray := ⟨_, (N3 _ hD).1, rfl, _, rfl⟩
    have t1 : ∀ q ∈ qs2, IsTup h2 q.a (pItems q).toArray := fun q hq => News.isTup N2 (List.mem_append_left _ (.tail _ (List.mem_map_of_mem (f := pObj) hq)))
    have t2 : ∀ q ∈ qs, IsTup h2 q.a (pItems q).toArray := fun q hq => News.isTup N3 (hqm q hq)
    clear N2
    k_dflt walk_at "law stepsD"
    refine ne_pairs l1 l2 t1 t2 (prOf_of hn ho) hu ?_
    k_dflt walk_at "law stepsD"
    exact ⟨rfl, _, _, rfl, Fb _ F2, N3⟩
  · exact absurd hG hG'
theorem segD3 (M : Rm w A base [] h₀ (n + 20)) (B : Below A base [] g) (X₀ : (hd.heap_39 w.params).In g) (T : Top pp loose mean mg mb g) (F : Fr g L h m) (N : News g L h led)
    (e1 : m "shelf" = some (.ref S)) :
    wpAny (model prog w) (A.deeper (lawE w.params L fa cd)) (execs (lawP w.params 18 1) (lawE w.params L fa cd))
      (After fun f s' => f = .next ∧ ∃ h' tk, s' = ⟨h', gg, dd, tk, oo⟩ ∧ Fr g L h' m ∧ News g L h' led)
      (fun _ _ => False) ⟨h, gg, dd, tt, oo⟩ := by
  have F₀ := Fr.put F "shelf" e1
  clear F
  walk_at "law open"
  k_dflt walk_at "law stepsD"
  rename_i xN dxN h0 tk0 F0 la lb kN N0 h1 oA F N' hdd
  have hD := IsD.mk ⟨_, (N' _ (.tail _ (.tail _ (.head _)))).1, dict_cls hdd⟩
  have M' : Rm w A base [] h₀ (n + 7 + 11 + 1 + 1) := M
  refine useH (n := n + 7 + 11 + 1) (heard_gen (read_packed_dict (prog := prog) (w := w) (S := S) (n := n + 7)) (fun h h' k hp => hp.keeps k)) M' B F N' hD ?_ rfl rfl
  intro v h2 tk2 nw F2 N2 hq
  clear F N' hD M' F0 N0
  rcases hq with hq | ⟨_, rfl, rfl⟩
  · exact hq.elim
  · have N3 : News g L h2 led := fun q hq => N2 _ (.tail _ (.tail _ (.tail _ hq)))
    clear N2
    k_dflt walk_at "law stepsD"
    refine ⟨rfl, _, _, rfl, ?_, N3⟩
    have : (fun y : Str => if y = "shelf" then some (.ref S) else m y) = m := by
      funext y
      split
      · rename_i e; rw [e, e1]
      · rfl
    rw [← this]; exact F2
end
theorem rs_Q1 : True := by
  w_top off
  trivial
structure LinkS (prog : Program) (w : World) (T : List (Addr × Obj)) (tk : List (Int × Value)) (r : LinkR) (n : Int) (nxt : Value) : Prop where
  tup : ∃ tp t0, valueAt tk n = some (.ref tp) ∧ (tp, tupO [.int 0 t0, .ref r.sx]) ∈ T
  s1 : (r.sx, instObj 375 r.sdx) ∈ T
  s2 : (r.sdx, strmD w.params r.sk1 r.sk2 r.hd r.b r.tb) ∈ T
  z : (KBw.bInts r.b).length ≤ 100
  hd : ∃ oH, (r.hd, oH) ∈ T ∧ oH.IsDictOf (strKind prog w) r.kvs
  lo : (r.hd == sysModules) = false
  v0 : ∃ x dx k t, r.v0 = .name x dx k "ObjStm" t ∧ (x, instObj 332 dx) ∈ T ∧ (dx, nameD w.params k "ObjStm" t) ∈ T
  ty : (valueAt r.kvs "Type").getD .none = r.v0.val
  nx : (valueAt r.kvs "Extends").getD .none = nxt
structure RefS (w : World) (T : List (Addr × Obj)) (r : LinkR) (n : Int) : Prop where
  r1 : (r.x, instObj 403 r.dx) ∈ T
  r2 : (r.dx, refD w.params r.k1 r.k2 n r.tn 0 r.tg) ∈ T
section
variable {prog : Program} {w : World} {T T' : List (Addr × Obj)} {tk tk' : List (Int × Value)} {r : LinkR} {n : Int} {nxt : Value} {rs : List LinkR}
theorem LinkS.mono (x : LinkS prog w T tk r n nxt) (h : ∀ p ∈ T, p ∈ T') (hv : valueAt tk' n = valueAt tk n) : LinkS prog w T' tk' r n nxt := by
  obtain ⟨⟨tp, t0, a1, a2⟩, b1, b2, z, ⟨oH, c1, c2⟩, lo, ⟨y, dy, k, t, d1, d2, d3⟩, ty, nx⟩ := x
  exact ⟨⟨tp, t0, by rw [hv, a1], h _ a2⟩, h _ b1, h _ b2, z, ⟨oH, h _ c1, c2⟩, lo, ⟨y, dy, k, t, d1, h _ d2, h _ d3⟩, ty, nx⟩
theorem RefS.mono (x : RefS w T r n) (h : ∀ p ∈ T, p ∈ T') : RefS w T' r n := ⟨h _ x.1, h _ x.2⟩
noncomputable def LinkR.at (r : LinkR) (x dx : Addr) (k1 k2 tn tg : Tok) : LinkR := ⟨x, dx, k1, k2, tn, tg, r.sx, r.sdx, r.sk1, r.sk2, r.hd, r.b, r.tb, r.kvs, r.v0⟩
theorem LinkS.at_ {x dx : Addr} {k1 k2 tn tg : Tok} (h : LinkS prog w T tk r n nxt) : LinkS prog w T tk (r.at x dx k1 k2 tn tg) n nxt := ⟨h.1, h.2, h.3, h.4, h.5, h.6, h.7, h.8, h.9⟩
theorem LinkS.link (x : LinkS prog w T tk r n nxt) (y : RefS w T r n) {hh : Heap} (hp : ∀ p ∈ T, hh.get? p.1 = some p.2) : LinkAt prog w hh tk r n nxt := by
  obtain ⟨⟨tp, t0, a1, a2⟩, b1, b2, z, ⟨oH, c1, c2⟩, lo, ⟨yv, dy, k, t, d1, d2, d3⟩, ty, nx⟩ := x
  have hs : (VD.strm r.sx r.sdx r.sk1 r.sk2 r.hd r.b r.tb).at_ w.params hh := ⟨hp _ b1, hp _ b2⟩
  refine ⟨⟨hp _ y.1, hp _ y.2⟩, .inr (iE12 r.x r.dx r.k1 r.k2 n r.tn 0 r.tg tp 0 t0 (.strm r.sx r.sdx r.sk1 r.sk2 r.hd r.b r.tb) (iA6 rfl a1 ⟨_, hp _ a2, rfl, _, rfl⟩ rfl hs (.inl ⟨rfl, rfl⟩))), hs, Nat.le_trans z (by decide), ?_, ?_, .inr ⟨yv, dy, k, _, t, d1⟩, nx⟩
  · refine ⟨Heap.dictOf_iff.mpr ⟨oH, hp _ c1, c2⟩, lo, ty, ?_, .inl ⟨rfl, ?_⟩⟩
    · rw [d1]; exact ⟨hp _ d2, hp _ d3⟩
    · rw [d1]; rfl
  · rw [d1]; show (_ == _) = _; decide
structure ChainS (prog : Program) (w : World) (T : List (Addr × Obj)) (tk : List (Int × Value)) (rs : List LinkR) : Prop where
  l : ∀ (i : Nat) r, rs[i]? = some r → LinkS prog w T tk r ((rs.length : Int) - (i : Int)) (chVal rs (i + 1))
  r : ∀ (i : Nat) r, rs[i + 1]? = some r → RefS w T r ((rs.length : Int) - ((i + 1 : Nat) : Int))
structure ChainF (prog : Program) (w : World) (T : List (Addr × Obj)) (tk : List (Int × Value)) (rs : List LinkR) : Prop where
  l : ∀ (i : Nat) r, rs[i]? = some r → LinkS prog w T tk r ((rs.length : Int) - (i : Int)) (chVal rs (i + 1))
  r : ∀ (i : Nat) r, rs[i]? = some r → RefS w T r ((rs.length : Int) - (i : Int))
theorem ChainF.chain (x : ChainF prog w T tk rs) {hh : Heap} (hp : ∀ p ∈ T, hh.get? p.1 = some p.2) : ChainAt prog w hh tk rs :=
  fun i r hr => (x.l i r hr).link (x.r i r hr) hp
theorem ChainF.nil : ChainF prog w T tk [] := ⟨fun i r h => (by simp at h), fun i r h => (by simp at h)⟩
theorem ChainS.nil : ChainS prog w T tk [] := ⟨fun i r h => (by simp at h), fun i r h => (by simp at h)⟩
theorem ChainS.full {x dx : Addr} {k1 k2 tn tg : Tok} (c : ChainS prog w T tk (r :: rs)) (h : ∀ p ∈ T, p ∈ T') (hr1 : (x, instObj 403 dx) ∈ T') (hr2 : (dx, refD w.params k1 k2 ((rs.length : Int) + 1) tn 0 tg) ∈ T') :
    ChainF prog w T' tk (r.at x dx k1 k2 tn tg :: rs) := by
  have hv : ∀ i, chVal (r.at x dx k1 k2 tn tg :: rs) (i + 1) = chVal (r :: rs) (i + 1) := fun i => rfl
  refine ⟨fun i r' hr => ?_, fun i r' hr => ?_⟩
  · cases i with
    | zero =>
      cases hr
      exact (LinkS.mono (c.l 0 r rfl) h rfl).at_
    | succ i => exact LinkS.mono (c.l (i + 1) r' hr) h rfl
  · cases i with
    | zero =>
      cases hr
      refine ⟨hr1, ?_⟩
      rw [List.length_cons]
      have : (((rs.length + 1 : Nat) : Int) - ((0 : Nat) : Int)) = (rs.length : Int) + 1 := by omega
      rw [this]; exact hr2
    | succ i => exact RefS.mono (c.r i r' hr) h
theorem ChainF.snoc (c : ChainF prog w T tk rs) (h : ∀ p ∈ T, p ∈ T') (hl : LinkS prog w T' tk' r ((rs.length : Int) + 1) (chVal rs 0)) (hv : ∀ n : Int, n ≤ rs.length → valueAt tk' n = valueAt tk n) :
    ChainS prog w T' tk' (r :: rs) := by
  refine ⟨fun i r' hr => ?_, fun i r' hr => ?_⟩
  · cases i with
    | zero =>
      obtain rfl : r = r' := Option.some.inj hr
      have : (((r :: rs).length : Int) - ((0 : Nat) : Int)) = (rs.length : Int) + 1 := by rw [List.length_cons]; omega
      rw [this]; exact hl
    | succ i =>
      have e : (((r :: rs).length : Int) - ((i + 1 : Nat) : Int)) = (rs.length : Int) - (i : Int) := by rw [List.length_cons]; omega
      rw [e]
      exact LinkS.mono (c.l i r' hr) h (hv _ (by omega))
  · have e : (((r :: rs).length : Int) - ((i + 1 : Nat) : Int)) = (rs.length : Int) - (i : Int) := by rw [List.length_cons]; omega
    rw [e]
    exact RefS.mono (c.r i r' hr) h
theorem ChainF.mono (c : ChainF prog w T tk rs) (h : ∀ p ∈ T, p ∈ T') : ChainF prog w T' tk rs := ⟨fun i r hr => (c.l i r hr).mono h rfl, fun i r hr => (c.r i r hr).mono h⟩
theorem ChainS.mono (c : ChainS prog w T tk rs) (h : ∀ p ∈ T, p ∈ T') : ChainS prog w T' tk rs := ⟨fun i r hr => (c.l i r hr).mono h rfl, fun i r hr => (c.r i r hr).mono h⟩
theorem ChainF.short (c : ChainF prog w T tk rs) : ∀ r ∈ rs, (KBw.bInts r.b).length ≤ 100 := fun r hr => by
  obtain ⟨i, hi, e⟩ := List.mem_iff_getElem.mp hr
  exact (c.l i r (by rw [List.getElem?_eq_getElem hi, e])).z
end
theorem rs_GP : True := by
  w_top off
  trivial
noncomputable def putS (P : Params) : List Stmt := match lawP P 20 1 with
  | [.For _ _ b _ _] => b.drop 3
  | _ => []
theorem ln_121 : True := by
  k_with "law stepsC" => (repeat' ((fail_if_success (with_reducible show wpAny _ _ (call (Value.ref 476) _) _ _ _)); walk_at "law go"; (first | (k_unfold; (try dsimp only)) | ((with_reducible show wpAny _ _ (PySem.call (Prod.fst _) _) _ _ _); dsimp only [List.cons_append, List.nil_append]) | walk1 | (dsimp only; walk1))))
  trivial
section
variable {prog : Program} {w : World} {A : Around} {base : Heap} {l : List Env} {n : Nat} {g h₀ h : Heap} {gg : Array GenState} {dd : Drawn} {tt : Nat} {oo : OsState} {L : Addr} {m : Str → Option Value}
  {fa : Addr} {cd : Value} {pp : Program} {loose : List Str} {mean : ExcName → Option Value} {mg mb : Str → Option Value}
  {S dS Tb Tr : Addr} {k1 k2 : Tok} {oT : Obj} {tkk : List (Int × Value)} {i : Nat} {ti : Tok} {hA D' R : Addr} {vsR ys : List Value} {cs : List Int} {kR kD : Nat} {TN : List (Addr × Obj)}
  {Q : Flow → Shared → Prop} {E : Value → Shared → Prop}
theorem segP (M : Rm w A base l h₀ (n + 20)) (B : Below A base l g) (X₀ : (hd.heap_39 w.params).In g) (T : Top pp loose mean mg mb g) (F : Fr g L h m)
    (N : News g L h ((S, instObj 512 dS) :: (dS, shD w.params k1 k2 Tb Tr) :: (Tb, oT) :: (R, listOf vsR.toArray kR) :: (D', listOf ys.toArray kD) :: TN)) (hoff : Offs TN [S, dS, Tb])
    (hne : (@Ne Nat R S) ∧ (@Ne Nat R dS) ∧ (@Ne Nat R Tb) ∧ (@Ne Nat D' S) ∧ (@Ne Nat D' dS) ∧ (@Ne Nat D' Tb)) (n1 : Tb ≠ S) (n2 : Tb ≠ dS) (dT : oT.IsDictOf (intKind prog w) tkk) (hz : tkk.length ≤ 900) (hi : i < 4) (hx : vsR[((i : Int)).toNat]? = some (.ref D'))
    (hys : IntsAre ys cs) (hcr : ∀ n ∈ cs, 0 ≤ n ∧ n < 256) (hcn : cs.length ≤ 16777216)
    (e1 : m "shelf" = some (.ref S)) (e2 : m "head" = some (.ref hA)) (e3 : m "rooms" = some (.ref R)) (e4 : m "place" = some (.int i ti))
    (k : ∀ h' tk' tp x dx s1 s2 b tb t0 oT', Fr g L h' m → News g L h' ((tp, tupO [.int 0 t0, .ref x]) :: (x, instObj 375 dx) :: (dx, strmD w.params s1 s2 hA b tb) :: (S, instObj 512 dS) :: (dS, shD w.params k1 k2 Tb Tr) :: (Tb, oT') :: (R, listOf vsR.toArray kR) :: (D', listOf ys.toArray kD) :: TN) →
      (∀ y ∈ [tp, x, dx], ∀ q ∈ (S, instObj 512 dS) :: (dS, shD w.params k1 k2 Tb Tr) :: (Tb, oT') :: (R, listOf vsR.toArray kR) :: (D', listOf ys.toArray kD) :: TN, q.1 ≠ y) →
      oT'.IsDictOf (intKind prog w) (stored tkk ((i : Int) + 1) (.ref tp)) → KBw.bInts b = cs → Q .next ⟨h', gg, dd, tk', oo⟩) :
    wpAny (model prog w) (A.deeper (lawE w.params L fa cd)) (execs (putS w.params) (lawE w.params L fa cd)) Q E ⟨h, gg, dd, tt, oo⟩ := by
  have Fb : ∀ h', Fr g L h' (fun y => if y = "place" then some (.int i ti) else if y = "rooms" then some (.ref R) else if y = "head" then some (.ref hA) else if y = "shelf" then some (.ref S) else m y) → Fr g L h' m := fun h' f => by
    have : (fun y : Str => if y = "place" then some (.int i ti) else if y = "rooms" then some (.ref R) else if y = "head" then some (.ref hA) else if y = "shelf" then some (.ref S) else m y) = m := by
      funext y
      split
      · rename_i e; rw [e, e4]
      · split
        · rename_i e; rw [e, e3]
        · split
          · rename_i e; rw [e, e2]
          · split
            · rename_i e; rw [e, e1]
            · rfl
    rw [this] at f; exact f
  refine a6 hne ?_
  intro o1 o2 o3 o4 o5 o6
  have F₀ := Fr.put (Fr.put (Fr.put (Fr.put F "shelf" e1) "head" e2) "rooms" e3) "place" e4
  clear F
  unfold putS
  walk_at "law open"
  k_dflt walk_at "law stepsC"
  rename_i _ tb _ _ x dx h1 _ F la lb s1 s2 N1
  refine a6 la ?_
  intro a1 a2 a3 a4 a5 a6
  refine use (rest := (x, instObj 375 dx) :: (dx, strmD w.params s1 s2 hA (byteArr cs) tb) :: (R, listOf vsR.toArray kR) :: (D', listOf ys.toArray kD) :: TN) (put_ct (k1 := k1) (k2 := k2) (T2 := Tr) (g := 0) (n + 19) dT (by omega) n1 n2) M B F N1 (fun q hq => ?_) ?_ trivial (fun v h' tk' news' F' N' ho q => ?_) rfl rfl
  · exact subW (by walk_at "sub") hq
  · walk_at "my pick"
  · refine Mine.a2 q ?_
    clear q
    rintro rfl q
    refine x2_2 q ?_
    clear q
    rintro tp oT' rfl hT'
    have c1 : tp ≠ S := news_neC N' (.head _) (.tail _ (.head _)) (by simp)
    have c2 : tp ≠ dS := news_neC N' (.head _) (.tail _ (.tail _ (.head _))) (by simp)
    have c3 : Tb ≠ tp := news_neD (knd := intKind _ _) N' (.tail _ (.tail _ (.tail _ (.head _)))) hT' (.head _) (by simp)
    have hn : h1.get? tp = none := by
      rcases ho _ (.head _) with h | h
      · simp only [List.map_cons, List.map_nil, List.mem_cons, List.not_mem_nil, or_false] at h
        rcases h with h | h | h
        · exact absurd h c1
        · exact absurd h c2
        · exact absurd h.symm c3
      · exact h
    have N2 : News g L h' ((tp, tupO [.int 0 (tt + 1 + 1), .ref x]) :: (x, instObj 375 dx) :: (dx, strmD w.params s1 s2 hA (byteArr cs) tb) :: (S, instObj 512 dS) :: (dS, shD w.params k1 k2 Tb Tr) :: (Tb, oT') :: (R, listOf vsR.toArray kR) :: (D', listOf ys.toArray kD) :: TN) := fun q hq => N' q (by
      dsimp only [List.cons_append, List.nil_append] at hq ⊢
      exact subW (by walk_at "sub") hq)
    clear N'
    k_dflt walk_at "law steps"
    refine k h' _ tp x dx s1 s2 (byteArr cs) tb _ oT' (Fb _ F') N2 ?_ hT' (bInts_byteArr hcr)
    have hlt : ∀ q ∈ (S, instObj 512 dS) :: (dS, shD w.params k1 k2 Tb Tr) :: (Tb, oT') :: (R, listOf vsR.toArray kR) :: (D', listOf ys.toArray kD) :: TN, @LT.lt Nat _ q.1 dx := by
      simp only [List.forall_mem_cons]
      exact ⟨a1, a2, a3, a4, a5, allLt_mem a6⟩
    have hall : ∀ q ∈ (S, instObj 512 dS) :: (dS, shD w.params k1 k2 Tb Tr) :: (Tb, oT') :: (R, listOf vsR.toArray kR) :: (D', listOf ys.toArray kD) :: TN, q.1 ≠ tp := by
      simp only [List.forall_mem_cons]
      refine ⟨Ne.symm c1, Ne.symm c2, c3, ?_, ?_, fun q hq e => ?_⟩
      · intro e
        have := (N1 _ (.tail _ (.tail _ (.tail _ (.tail _ (.tail _ (.head _))))))).1
        rw [show R = tp from e, hn] at this; cases this
      · intro e
        have := (N1 _ (.tail _ (.tail _ (.tail _ (.tail _ (.tail _ (.tail _ (.head _)))))))).1
        rw [show D' = tp from e, hn] at this; cases this
      · have := (N1 _ (.tail _ (.tail _ (.tail _ (.tail _ (.tail _ (.tail _ (.tail _ hq)))))))).1
        rw [e, hn] at this; cases this
    intro y hy q hq e
    simp only [List.mem_cons, List.not_mem_nil, or_false] at hy
    rcases hy with rfl | rfl | rfl
    · exact hall q hq e
    · have := hlt q hq
      rw [e] at this; exact absurd (Nat.lt_trans this lb) (Nat.lt_irrefl _)
    · have := hlt q hq
      rw [e] at this; exact absurd this (Nat.lt_irrefl _)
end
theorem rs_GE : True := by
  w_top off
  trivial
structure RM where
  (a : Addr)
  (ys : List Value)
  k : Nat
noncomputable abbrev rmO (q : RM) : Obj := listOf q.ys.toArray q.k
noncomputable abbrev rmRefs (rms : List RM) : List Value := rms.map fun q => .ref q.a
inductive RoomsAt (T : List (Addr × Obj)) : List RM → List (List Int) → Prop
  | nil : RoomsAt T [] []
  | cons {q : RM} {c : List Int} {rms : List RM} {cls : List (List Int)} : (q.a, rmO q) ∈ T → IntsAre q.ys c → c.length ≤ 4 → RoomsAt T rms cls → RoomsAt T (q :: rms) (c :: cls)
theorem RoomsAt.mono {T T' : List (Addr × Obj)} {rms : List RM} {cls : List (List Int)} (x : RoomsAt T rms cls) (h : ∀ p ∈ T, p ∈ T') : RoomsAt T' rms cls := by
  induction x with
  | nil => exact .nil
  | cons a b c _ ih => exact .cons (h _ a) b c ih
theorem RoomsAt.snoc {T : List (Addr × Obj)} {rms : List RM} {cls : List (List Int)} {q : RM} {c : List Int} (x : RoomsAt T rms cls) (h1 : (q.a, rmO q) ∈ T) (h2 : IntsAre q.ys c) (h3 : c.length ≤ 4) : RoomsAt T (rms ++ [q]) (cls ++ [c]) := by
  induction x with
  | nil => exact .cons h1 h2 h3 .nil
  | cons a b c _ ih => exact .cons a b c ih
theorem RoomsAt.length {T : List (Addr × Obj)} {rms : List RM} {cls : List (List Int)} (x : RoomsAt T rms cls) : rms.length = cls.length := by
  induction x with
  | nil => rfl
  | cons _ _ _ _ ih => simp [ih]
theorem RoomsAt.get {T : List (Addr × Obj)} {rms : List RM} {cls : List (List Int)} (x : RoomsAt T rms cls) : ∀ {i : Nat} {q : RM}, rms[i]? = some q → ∃ c, cls[i]? = some c ∧ (q.a, rmO q) ∈ T ∧ IntsAre q.ys c ∧ c.length ≤ 4 := by
  induction x with
  | nil => intro i q h; simp at h
  | cons a b c _ ih =>
    intro i q h
    cases i with
    | zero => cases h; exact ⟨_, rfl, a, b, c⟩
    | succ i => exact ih (by simpa using h)
theorem al14 {y a1 a2 a3 a4 a5 a6 a7 a8 a9 a10 a11 a12 a13 a14 : Addr} {o1 o2 o3 o4 o5 o6 o7 o8 o9 o10 o11 o12 o13 o14 : Obj} {T : List (Addr × Obj)} {C : Prop} (h : ∀ q ∈ (a1, o1) :: (a2, o2) :: (a3, o3) :: (a4, o4) :: (a5, o5) :: (a6, o6) :: (a7, o7) :: (a8, o8) :: (a9, o9) :: (a10, o10) :: (a11, o11) :: (a12, o12) :: (a13, o13) :: (a14, o14) :: T, q.1 ≠ y) (k : a1 ≠ y → a2 ≠ y → a3 ≠ y → a4 ≠ y → a5 ≠ y → a6 ≠ y → a7 ≠ y → a8 ≠ y → a9 ≠ y → a10 ≠ y → a11 ≠ y → a12 ≠ y → a13 ≠ y → a14 ≠ y → (∀ q ∈ T, q.1 ≠ y) → C) : C :=
  k (h _ (.head _)) (h _ (.tail _ (.head _))) (h _ (.tail _ (.tail _ (.head _)))) (h _ (.tail _ (.tail _ (.tail _ (.head _))))) (h _ (.tail _ (.tail _ (.tail _ (.tail _ (.head _)))))) (h _ (.tail _ (.tail _ (.tail _ (.tail _ (.tail _ (.head _))))))) (h _ (.tail _ (.tail _ (.tail _ (.tail _ (.tail _ (.tail _ (.head _)))))))) (h _ (.tail _ (.tail _ (.tail _ (.tail _ (.tail _ (.tail _ (.tail _ (.head _))))))))) (h _ (.tail _ (.tail _ (.tail _ (.tail _ (.tail _ (.tail _ (.tail _ (.tail _ (.head _)))))))))) (h _ (.tail _ (.tail _ (.tail _ (.tail _ (.tail _ (.tail _ (.tail _ (.tail _ (.tail _ (.head _))))))))))) (h _ (.tail _ (.tail _ (.tail _ (.tail _ (.tail _ (.tail _ (.tail _ (.tail _ (.tail _ (.tail _ (.head _)))))))))))) (h _ (.tail _ (.tail _ (.tail _ (.tail _ (.tail _ (.tail _ (.tail _ (.tail _ (.tail _ (.tail _ (.tail _ (.head _))))))))))))) (h _ (.tail _ (.tail _ (.tail _ (.tail _ (.tail _ (.tail _ (.tail _ (.tail _ (.tail _ (.tail _ (.tail _ (.tail _ (.head _)))))))))))))) (h _ (.tail _ (.tail _ (.tail _ (.tail _ (.tail _ (.tail _ (.tail _ (.tail _ (.tail _ (.tail _ (.tail _ (.tail _ (.tail _ (.head _))))))))))))))) (fun q hq => h q (.tail _ (.tail _ (.tail _ (.tail _ (.tail _ (.tail _ (.tail _ (.tail _ (.tail _ (.tail _ (.tail _ (.tail _ (.tail _ (.tail _ (hq))))))))))))))))
theorem al12 {y a1 a2 a3 a4 a5 a6 a7 a8 a9 a10 a11 a12 : Addr} {o1 o2 o3 o4 o5 o6 o7 o8 o9 o10 o11 o12 : Obj} {T : List (Addr × Obj)} {C : Prop} (h : ∀ q ∈ (a1, o1) :: (a2, o2) :: (a3, o3) :: (a4, o4) :: (a5, o5) :: (a6, o6) :: (a7, o7) :: (a8, o8) :: (a9, o9) :: (a10, o10) :: (a11, o11) :: (a12, o12) :: T, q.1 ≠ y) (k : a1 ≠ y → a2 ≠ y → a3 ≠ y → a4 ≠ y → a5 ≠ y → a6 ≠ y → a7 ≠ y → a8 ≠ y → a9 ≠ y → a10 ≠ y → a11 ≠ y → a12 ≠ y → (∀ q ∈ T, q.1 ≠ y) → C) : C :=
  k (h _ (.head _)) (h _ (.tail _ (.head _))) (h _ (.tail _ (.tail _ (.head _)))) (h _ (.tail _ (.tail _ (.tail _ (.head _))))) (h _ (.tail _ (.tail _ (.tail _ (.tail _ (.head _)))))) (h _ (.tail _ (.tail _ (.tail _ (.tail _ (.tail _ (.head _))))))) (h _ (.tail _ (.tail _ (.tail _ (.tail _ (.tail _ (.tail _ (.head _)))))))) (h _ (.tail _ (.tail _ (.tail _ (.tail _ (.tail _ (.tail _ (.tail _ (.head _))))))))) (h _ (.tail _ (.tail _ (.tail _ (.tail _ (.tail _ (.tail _ (.tail _ (.tail _ (.head _)))))))))) (h _ (.tail _ (.tail _ (.tail _ (.tail _ (.tail _ (.tail _ (.tail _ (.tail _ (.tail _ (.head _))))))))))) (h _ (.tail _ (.tail _ (.tail _ (.tail _ (.tail _ (.tail _ (.tail _ (.tail _ (.tail _ (.tail _ (.head _)))))))))))) (h _ (.tail _ (.tail _ (.tail _ (.tail _ (.tail _ (.tail _ (.tail _ (.tail _ (.tail _ (.tail _ (.tail _ (.head _))))))))))))) (fun q hq => h q (.tail _ (.tail _ (.tail _ (.tail _ (.tail _ (.tail _ (.tail _ (.tail _ (.tail _ (.tail _ (.tail _ (.tail _ (hq))))))))))))))
structure RoomJ (prog : Program) (w : World) (W : List Addr) (i : Nat) (p : Pen) (jj : Nat) (oT : Obj) (tk : List (Int × Value)) (T : List (Addr × Obj)) (rms : List RM) (rs : List LinkR) : Prop where
  ok : p.ok jj
  jl : jj ≤ 50 + 5 * i
  dT : oT.IsDictOf (intKind prog w) tk
  len : tk.length ≤ 2 + i
  off : Offs T W
  ch : ChainS prog w T tk rs
  rl : rs.length = i
  rm : RoomsAt T rms (codesOf rs).reverse
theorem roomJ_next {prog : Program} {w : World} {W : List Addr} {i : Nat} {p q : Pen} {jj jj' : Nat} {oT oT' : Obj} {tk : List (Int × Value)} {T T' : List (Addr × Obj)} {rms : List RM} {rs rsF : List LinkR} {r : LinkR} {tp D' : Addr} {ys : List Value} {kD : Nat} {cs : List Int}
    (J : RoomJ prog w W i p jj oT tk T rms rs) (hT : ∀ x ∈ T, x ∈ T') (hF : ChainF prog w T' tk rsF) (hc : codesOf rsF = codesOf rs) (hl : LinkS prog w T' (stored tk ((i : Int) + 1) (.ref tp)) r ((i : Int) + 1) (chVal rsF 0)) (hq : q.ok jj') (hj : jj' ≤ jj + 5)
    (dT' : oT'.IsDictOf (intKind prog w) (stored tk ((i : Int) + 1) (.ref tp))) (hoff : Offs T' W) (hD : (D', listOf ys.toArray kD) ∈ T') (hys : IntsAre ys cs) (hcl : cs.length ≤ 4) (hb : KBw.bInts r.b = cs) :
    RoomJ prog w W (i + 1) q jj' oT' (stored tk ((i : Int) + 1) (.ref tp)) T' (rms ++ [⟨D', ys, kD⟩]) (r :: rsF) := by
  have hlF : rsF.length = i := by
    have := congrArg List.length hc
    unfold codesOf at this
    rw [List.length_map, List.length_map, J.rl] at this; exact this
  have hjl := J.jl
  have hlen := J.len
  have hst := stored_length_le tk ((i : Int) + 1) (.ref tp)
  refine ⟨hq, by omega, dT', by omega, hoff, ChainF.snoc hF (fun _ h => h) (by rw [hlF]; exact hl) (fun n hn => valueAt_stored_ne _ _ (by omega)), by rw [List.length_cons, hlF], ?_⟩
  have e : (codesOf (r :: rsF)).reverse = (codesOf rs).reverse ++ [cs] := by
    show (KBw.bInts r.b :: codesOf rsF).reverse = _
    rw [hb, hc, List.reverse_cons]
  rw [e]
  exact (J.rm.mono hT).snoc hD hys hcl
theorem ln_122 : True := by
  k_with "law stepsR" => (repeat' ((fail_if_success (with_reducible show wpAny _ _ (call (Value.type "range") _) _ _ _)); walk_at "law go"; (first | (k_unfold; (try dsimp only)) | ((with_reducible show wpAny _ _ (PySem.call (Prod.fst _) _) _ _ _); dsimp only [List.cons_append, List.nil_append]) | walk1 | (dsimp only; walk1))))
  k_with "law stepsP" => (repeat' ((fail_if_success (with_reducible show wpAny _ _ (execs [Stmt.Expr _ _] _) _ _ _)); walk_at "law go"; (first | (k_unfold; (try dsimp only)) | ((with_reducible show wpAny _ _ (PySem.call (Prod.fst _) _) _ _ _); dsimp only [List.cons_append, List.nil_append]) | walk1 | (dsimp only; walk1))))
  trivial
section
variable {prog : Program} {w : World} {A : Around} {base : Heap} {l : List Env} {n : Nat} {g h₀ h : Heap} {gg : Array GenState} {dd : Drawn} {tt : Nat} {oo : OsState} {L : Addr} {m : Str → Option Value}
  {fa : Addr} {cd : Value} {pp : Program} {loose : List Str} {mean : ExcName → Option Value} {mg mb : Str → Option Value} {a c : Addr} {p : Pen} {j : Nat} {oc : Obj}
  {S dS Tb Tr : Addr} {k1 k2 : Tok} {oT : Obj} {tkk : List (Int × Value)}
theorem segE (M : Rm w A base l h₀ (n + 20)) (B : Below A base l g) (X₀ : (hd.heap_39 w.params).In g) (T : Top pp loose mean mg mb g) (F : Fr g L h m)
    (N : News g L h [(a, penO c p), (c, penC p), (S, instObj 512 dS), (dS, shD w.params k1 k2 Tb Tr), (Tb, oT), (L + 1, oc)]) (hac : @Ne Nat a c) (hcell : oc.data = .cell (some (.ref a))) (hp : p.ok j) (hjl : j ≤ 40)
    (hq : (@Ne Nat a S) ∧ (@Ne Nat c S) ∧ (@Ne Nat a dS) ∧ (@Ne Nat c dS) ∧ (@Ne Nat a Tb) ∧ (@Ne Nat c Tb) ∧ (@Ne Nat a (L + 1)) ∧ (@Ne Nat c (L + 1)) ∧ (@Ne Nat S (L + 1)) ∧ (@Ne Nat dS (L + 1)) ∧ (@Ne Nat Tb (L + 1)))
    (n1 : Tb ≠ S) (n2 : Tb ≠ dS) (dT : oT.IsDictOf (intKind prog w) tkk) (hlen : tkk.length ≤ 2) (e1 : m "shelf" = some (.ref S)) :
    wpAny (model prog w) (A.deeper (lawE w.params L fa cd)) (execs (lawP w.params 19 2) (lawE w.params L fa cd))
      (After fun f s' => f = .next ∧ ∃ h' tk m' R kR oT' tk' T' rms rs, s' = ⟨h', gg, dd, tk, oo⟩ ∧ Fr g L h' m' ∧ News g L h' ((R, listOf (rmRefs rms).toArray kR) :: (S, instObj 512 dS) :: (dS, shD w.params k1 k2 Tb Tr) :: (Tb, oT') :: T') ∧
        oT'.IsDictOf (intKind prog w) tk' ∧ ChainS prog w T' tk' rs ∧ rs ≠ [] ∧ rs.length ≤ 4 ∧ RoomsAt T' rms (codesOf rs).reverse ∧ m' "rooms" = some (.ref R) ∧ m' "shelf" = some (.ref S))
      (fun _ _ => False) ⟨h, gg, dd, tt, oo⟩ := by
  refine a11 hq ?_
  intro q1 q2 q3 q4 q5 q6 q7 q8 q9 q10 q11
  replace n1 := neN n1
  replace n2 := neN n2
  have F₀ := Fr.put F "shelf" e1
  clear F e1
  walk_at "law open"
  k_dflt walk_at "law steps"
  rename Fr _ _ _ _ => F
  k_dflt (refine' For_invVF F ?k1 ?k2 ?_; (case k1 => exact rfl); (case k2 => exact rfl))
  k_dflt walk_at "law stepsR"
  rename_i R _ lR _ _ _ F0' v _ p1 hv0 hv1 hp1 N0'
  obtain ⟨mm, hmm⟩ : ∃ mm : Nat, 1 + v = (mm : Int) := ⟨(1 + v).toNat, (Int.toNat_of_nonneg (Int.add_nonneg (by decide) hv0)).symm⟩
  rw [hmm]
  have hm4 : Hid (mm ≤ 4) := ⟨by omega⟩
  have hm1 : Hid (1 ≤ mm) := ⟨by omega⟩
  clear hmm hv0 hv1
  k_dflt walk_at "law steps"
  rename_i h1 tk1 _ _ _ hr F N hkp
  clear hkp
  refine a6 lR ?_
  intro r1 r2 r3 r4 r5 r6
  have N1 : News g L h1 ((R, listOf (rmRefs []).toArray 0) :: (a, penO c p1) :: (c, penC p1) :: (S, instObj 512 dS) :: (dS, shD w.params k1 k2 Tb Tr) :: (Tb, oT) :: (L + 1, oc) :: []) := fun q hq => N q (by
    exact subW (by walk_at "sub") hq)
  clear N
  refine iter_range_my (n := mm) (fun i m nx => ∃ p jj kR oT tk T rms rs, nx = (R, listOf (rmRefs rms).toArray kR) :: (a, penO c p) :: (c, penC p) :: (S, instObj 512 dS) :: (dS, shD w.params k1 k2 Tb Tr) :: (Tb, oT) :: (L + 1, oc) :: T ∧
      RoomJ prog w [R, a, c, S, dS, Tb, L + 1] i p jj oT tk T rms rs ∧ m "rooms" = some (.ref R) ∧ m "shelf" = some (.ref S)) M.handledD hr (range0_small (n := mm) (by have := hm4.h; omega)) (range0_size (n := mm)) F N1
    (iE8 p1 (j + 1) 0 oT tkk [] [] [] (iA4 rfl ⟨hp1, by omega, dT, hlen, (fun q hq => nomatch hq), .nil, rfl, .nil⟩ rfl rfl)) ?_ ?_
  · clear F N1 hp1 dT hr
    intro i t m₁ nx h₁ tk₁ I oI hi HJ
    refine x8_4 HJ ?_
    clear HJ
    rintro p jj kR oT tk T rms rs enx RJ e1 e2
    intro hne F₁ N₁
    rw [enx] at N₁ hne
    clear enx
    obtain ⟨hp, hjj, dT, hlen, hoff, hch, hrl, hrm⟩ := id RJ
    simp only [List.forall_mem_cons] at hne
    refine a8 hne ?_
    intro m1 m2 m3 m4 m5 m6 m7 m8
    replace m1 := neN m1
    replace m2 := neN m2
    replace m3 := neN m3
    replace m4 := neN m4
    replace m5 := neN m5
    replace m6 := neN m6
    replace m7 := neN m7
    have hi4 : i < 4 := Nat.lt_of_lt_of_le hi hm4.h
    have hrml : rms.length = i := by rw [hrm.length, List.length_reverse]; unfold codesOf; rw [List.length_map, hrl]
    have hzR : (rmRefs rms).length ≤ 100000 := by rw [List.length_map, hrml]; exact Nat.le_trans (Nat.le_of_lt hi4) (by decide)
    obtain ⟨rest, hrest⟩ : ∃ rest : List (Addr × Obj), rest = (I, oI) :: (S, instObj 512 dS) :: (dS, shD w.params k1 k2 Tb Tr) :: (Tb, oT) :: T := ⟨_, rfl⟩
    have N₂ : News g L h₁ ((R, listOf (rmRefs rms).toArray kR) :: (a, penO c p) :: (c, penC p) :: (L + 1, oc) :: rest) := fun q hq => N₁ q (by
      subst hrest
      exact subW (by walk_at "sub") hq)
    have hRest : Offs rest [R, a, c, L + 1] := by
      subst hrest
      refine Offs.cons (Offs.cons (Offs.cons (Offs.cons (fun q hq hm => hoff q hq ?_) ?_) ?_) ?_) ?_
      · exact subW (by walk_at "sub") hm
      all_goals walk_at "alle"
    rw [Int.zero_add] at F₁
    have F₂ := Fr.put (Fr.put F₁ "rooms" e1) "shelf" e2
    clear F₁ N₁
    (try k_fold)
    k_dflt walk_at "law steps"
    rename Fr _ _ _ _ => F
    k_dflt (refine' LCg.ListComp_U (F₀ := F) ?k1 ?k2 ?k3 ?k4 ?k5 ?_; (case k1 => exact rfl); (case k2 => decide); (case k3 => exact rfl); (case k4 => decide); (case k5 => exact rfl))
    k_dflt walk_at "law steps"
    rename_i hB _ F3 v5 _ p5 hv50 hv51 hp5 N3 hC _ _ _ _ hr F4 N4 hkp
    obtain ⟨m5', rfl⟩ := Int.eq_ofNat_of_zero_le hv50
    have hm5 : m5' ≤ 4 := Nat.le_of_lt_succ (Int.ofNat_lt.mp hv51)
    clear F F3 N3 hkp hv50 hv51
    refine LCg.CompSrc.range M.handledD F4 N4 hr (range0_small (Nat.le_trans hm5 (by decide))) range0_size (by rw [sizeLine_eq]; first | exact Nat.le_trans hm5 (by decide) | omega) fun g₁ => ?_
    refine comp_inv (fun k ys nw => ∃ (q : Pen) (cs : List Int), q.ok (jj + 1 + k) ∧ IntsAre ys cs ∧ cs.length = k ∧ (∀ x ∈ cs, 0 ≤ x ∧ x < 100) ∧ nw = (a, penO c q) :: (c, penC q) :: (R, listOf (rmRefs rms).toArray kR) :: (L + 1, oc) :: rest)
      (iE2 p5 [] (iA5 hp5 .nil rfl (fun x hx => nomatch hx) rfl)) ?_ ?_
    · rintro k ys nw u I2 oI2 C oC D m₂ h tk E' hk hlen2 ⟨ti', rfl⟩ HJ
      refine x2_5 HJ ?_
      clear HJ
      rintro q cs hq hys hcl hcb rfl
      intro hoC hmx F₁ N₁ off ne
      rw [Int.zero_add] at hmx
      clear F4 N4 hr hp5 hp
      have off0 := off
      refine a5 off ?_
      intro o1 o2 o3 o4 off4
      refine a3 o1 ?_
      intro x1 x2 x3
      refine a3 o2 ?_
      intro x4 x5 x6
      refine a3 o3 ?_
      intro x7 x8 x9
      refine a3 o4 ?_
      intro x10 x11 x12
      obtain ⟨y1, y2, y3⟩ := ne
      have hj5 : jj + 1 + k ≤ 1000 := by omega
      k_dflt walk_at "law steps"
      rename_i _ h6 _ F6 v6 t6 p6 hv60 hv61 hp6 N6
      refine LCg.CompEnd.intro F6 N6 ((a, penO c p6) :: (c, penC p6) :: (R, listOf (rmRefs rms).toArray kR) :: (L + 1, oc) :: rest) (fun q hq => ?_) off0 trivial (iE2 p6 (cs ++ [v6]) (iA5 hp6 (hys.append (.cons _ _ .nil)) (by simp [hcl]) (fun x hx => ?_) rfl))
      · exact subW (by walk_at "sub") hq
      · rcases List.mem_append.mp hx with hx | hx
        · exact hcb x hx
        · rw [List.mem_singleton.mp hx]; exact ⟨hv60, hv61⟩
    · intro ys nw hlen2 HJ
      refine x2_5 HJ ?_
      clear HJ
      rintro q cs hq hys hcl hcb rfl
      clear F4 N4 hr hp5 hp
      subst hrest
      have hcr : ∀ n ∈ cs, 0 ≤ n ∧ n < 256 := fun n hn => ⟨(hcb n hn).1, Int.lt_trans (hcb n hn).2 (by decide)⟩
      have hcn : cs.length ≤ 16777216 := by rw [hcl]; exact Nat.le_trans hm5 (by decide)
      k_dflt walk_at "law stepsP"
      · rename_i D' _ _ o1 _ _ _ tk0 hA _ _ _ _ lod _ l1 xN dxN _ _ l2 l3 kN _ _ _ _ _ hi0 tkR xR dxR _ _ _ l4 l5 k3 k4 _ h5 oA F5 N5 hdd
        obtain ⟨r0, rs1, rfl⟩ : ∃ r0 rs1, rs = r0 :: rs1 := by
          cases rs with
          | nil => exfalso; rw [List.length_nil] at hrl; omega
          | cons r0 rs1 => exact ⟨_, _, rfl⟩
        have hri : (rs1.length : Int) + 1 = (i : Int) := by rw [← hrl]; exact (Int.natCast_succ _).symm
        have hx0 : (rmRefs rms ++ [Value.ref D'])[((i : Int)).toNat]? = some (.ref D') := by
          rw [show ((i : Int)).toNat = (rmRefs rms).length from by rw [List.length_map, hrml]; exact Int.toNat_natCast i, List.getElem?_append_right (Nat.le_refl _), Nat.sub_self]; rfl
        refine a9 o1 ?_
        intro z1 z2 z3 z4 z5 z6 z7 z8 z9
        refine a10 l1 ?_
        intro u1 u2 u3 u4 u5 u6 u7 u8 u9 u10
        refine a11 l2 ?_
        intro v1 v2 v3 v4 v5 v6 v7 v8 v9 v10 v11
        refine a13 l4 ?_
        intro w1 w2 w3 w4 w5 w6 w7 w8 w9 w10 w11 w12 w13
        have N6 : News g L h5 ((S, instObj 512 dS) :: (dS, shD w.params k1 k2 Tb Tr) :: (Tb, oT) :: (R, listOf (rmRefs rms ++ [Value.ref D']).toArray (kR + 1)) :: (D', LCg.lst ys) :: (xR, instObj 403 dxR) :: (dxR, refD w.params k3 k4 i t 0 tkR) :: (xN, instObj 332 dxN) :: (dxN, nameD w.params kN "ObjStm" (tk0 + 1)) :: (hA, oA) :: (a, penO c q) :: (c, penC q) :: (L + 1, oc) :: (I, oI) :: T) := fun y hy => N5 y (by
          exact subW (by walk_at "sub") hy)
        have hTN : Offs ((xR, instObj 403 dxR) :: (dxR, refD w.params k3 k4 i t 0 tkR) :: (xN, instObj 332 dxN) :: (dxN, nameD w.params kN "ObjStm" (tk0 + 1)) :: (hA, oA) :: (a, penO c q) :: (c, penC q) :: (L + 1, oc) :: (I, oI) :: T) [S, dS, Tb] := by
          refine Offs.cons (Offs.cons (Offs.cons (Offs.cons (Offs.cons (Offs.cons (Offs.cons (Offs.cons (Offs.cons (offs_sub hoff (by simp)) ?_) ?_) ?_) ?_) ?_) ?_) ?_) ?_) ?_
          all_goals walk_at "alle"
        dsimp only
        show wpAny _ _ (execs (putS w.params) (lawE w.params L fa cd)) _ _ _
        refine segP (i := i) (kD := _) M B X₀ (by assumption) F5 N6 hTN ⟨by walk_at "my ne", by walk_at "my ne", by walk_at "my ne", by walk_at "my ne", by walk_at "my ne", by walk_at "my ne"⟩ n1 n2 dT (Nat.le_trans hlen (Nat.le_trans (Nat.add_le_add_left (Nat.le_of_lt hi4) 2) (by decide))) hi4 hx0 hys hcr hcn rfl rfl rfl rfl ?_
        intro h' tk' tp x dx s1 s2 b tb t0 oT' F6 N7 hfr hT' hb
        refine al14 (hfr _ (.head _)) ?_
        intro fa1 fa2 fa3 fa4 fa5 fa6 fa7 fa8 fa9 fa10 fa11 fa12 fa13 fa14 faT
        refine al14 (hfr _ (.tail _ (.head _))) ?_
        intro fb1 fb2 fb3 fb4 fb5 fb6 fb7 fb8 fb9 fb10 fb11 fb12 fb13 fb14 fbT
        refine al14 (hfr _ (.tail _ (.tail _ (.head _)))) ?_
        intro fc1 fc2 fc3 fc4 fc5 fc6 fc7 fc8 fc9 fc10 fc11 fc12 fc13 fc14 fcT
        clear hfr
        have hofT : Offs ((tp, tupO [.int 0 t0, .ref x]) :: (x, instObj 375 dx) :: (dx, strmD w.params s1 s2 hA b tb) :: (D', listOf ys.toArray ys.length) :: (xR, instObj 403 dxR) :: (dxR, refD w.params k3 k4 i t 0 tkR) :: (xN, instObj 332 dxN) :: (dxN, nameD w.params kN "ObjStm" (tk0 + 1)) :: (hA, oA) :: T) [R, a, c, S, dS, Tb, L + 1] := by
          refine Offs.cons (Offs.cons (Offs.cons (Offs.cons (Offs.cons (Offs.cons (Offs.cons (Offs.cons (Offs.cons hoff ?_) ?_) ?_) ?_) ?_) ?_) ?_) ?_) ?_
          all_goals walk_at "alle"
        have hsubT : ∀ y ∈ T, y ∈ (tp, tupO [.int 0 t0, .ref x]) :: (x, instObj 375 dx) :: (dx, strmD w.params s1 s2 hA b tb) :: (D', listOf ys.toArray ys.length) :: (xR, instObj 403 dxR) :: (dxR, refD w.params k3 k4 i t 0 tkR) :: (xN, instObj 332 dxN) :: (dxN, nameD w.params kN "ObjStm" (tk0 + 1)) :: (hA, oA) :: T := fun y hy => .tail _ (.tail _ (.tail _ (.tail _ (.tail _ (.tail _ (.tail _ (.tail _ (.tail _ hy))))))))
        have hF := ChainS.full (x := xR) (dx := dxR) (k1 := k3) (k2 := k4) (tn := t) (tg := tkR) hch hsubT (.tail _ (.tail _ (.tail _ (.tail _ (.head _))))) (by rw [hri]; exact .tail _ (.tail _ (.tail _ (.tail _ (.tail _ (.head _))))))
        have J' := roomJ_next (r := ⟨0, 0, 0, 0, 0, 0, x, dx, s1, s2, hA, b, tb, [(Str.ofString "Type", .ref xN), (Str.ofString "Extends", .ref xR)], .name xN dxN kN (Str.ofString "ObjStm") (tk0 + 1)⟩) RJ hsubT hF rfl
          ⟨⟨tp, t0, valueAt_stored_same _ _ _, .head _⟩, (.tail _ (.head _)), (.tail _ (.tail _ (.head _))), by show (KBw.bInts b).length ≤ 100; rw [hb, hcl]; exact Nat.le_trans hm5 (by decide), ⟨oA, (.tail _ (.tail _ (.tail _ (.tail _ (.tail _ (.tail _ (.tail _ (.tail _ (.head _))))))))), hdd⟩, lod, ⟨xN, dxN, kN, tk0 + 1, rfl, (.tail _ (.tail _ (.tail _ (.tail _ (.tail _ (.tail _ (.head _))))))), (.tail _ (.tail _ (.tail _ (.tail _ (.tail _ (.tail _ (.tail _ (.head _))))))))⟩, rfl, rfl⟩
          hq (Nat.add_le_add_left hm5 (jj + 1)) hT' hofT (.tail _ (.tail _ (.tail _ (.head _)))) hys (by rw [hcl]; exact hm5) hb
        walk_at "TurnStep"
        refine Turn.intro (nx := (R, listOf (rmRefs rms ++ [Value.ref D']).toArray (kR + 1)) :: (a, penO c q) :: (c, penC q) :: (S, instObj 512 dS) :: (dS, shD w.params k1 k2 Tb Tr) :: (Tb, oT') :: (L + 1, oc) :: (tp, tupO [.int 0 t0, .ref x]) :: (x, instObj 375 dx) :: (dx, strmD w.params s1 s2 hA b tb) :: (D', listOf ys.toArray ys.length) :: (xR, instObj 403 dxR) :: (dxR, refD w.params k3 k4 i t 0 tkR) :: (xN, instObj 332 dxN) :: (dxN, nameD w.params kN "ObjStm" (tk0 + 1)) :: (hA, oA) :: T)
          F6 N7 (by k_mem) (fun y hy => ?_) ?_ (iE8 q _ _ _ _ _ (rms ++ [⟨D', ys, ys.length⟩]) _ (iA4 (by rw [show rmRefs (rms ++ [⟨D', ys, ys.length⟩]) = rmRefs rms ++ [Value.ref D'] from List.map_append]) J' rfl rfl))
        · exact subW (by walk_at "sub") hy
        · simp only [List.forall_mem_cons]
          refine ⟨m1, m2, m3, m4, m5, m6, m7, ?_, ?_, ?_, ?_, ?_, ?_, ?_, ?_, ?_, m8⟩ <;> walk_at "my ne"
      · rename_i D' _ _ o1 _ _ _ tk0 hA _ _ _ _ lod _ l1 xN dxN _ _ l2 l3 kN _ oA hdd h5 F5 N5 _ hi0
        have hi00 : i = 0 := by first | exact Nat.le_zero.mp (Int.ofNat_le.mp (Int.not_lt.mp hi0)) | omega
        subst hi00
        have hrs : rs = [] := List.eq_nil_of_length_eq_zero hrl
        have hrms : rms = [] := List.eq_nil_of_length_eq_zero hrml
        subst hrs hrms
        refine a9 o1 ?_
        intro z1 z2 z3 z4 z5 z6 z7 z8 z9
        refine a10 l1 ?_
        intro u1 u2 u3 u4 u5 u6 u7 u8 u9 u10
        refine a11 l2 ?_
        intro v1 v2 v3 v4 v5 v6 v7 v8 v9 v10 v11
        have N6 : News g L h5 ((S, instObj 512 dS) :: (dS, shD w.params k1 k2 Tb Tr) :: (Tb, oT) :: (R, listOf (rmRefs [] ++ [Value.ref D']).toArray (kR + 1)) :: (D', LCg.lst ys) :: (xN, instObj 332 dxN) :: (dxN, nameD w.params kN "ObjStm" (tk0 + 1)) :: (hA, oA) :: (a, penO c q) :: (c, penC q) :: (L + 1, oc) :: (I, oI) :: T) := fun y hy => N5 y (by
          exact subW (by walk_at "sub") hy)
        have hTN : Offs ((xN, instObj 332 dxN) :: (dxN, nameD w.params kN "ObjStm" (tk0 + 1)) :: (hA, oA) :: (a, penO c q) :: (c, penC q) :: (L + 1, oc) :: (I, oI) :: T) [S, dS, Tb] := by
          refine Offs.cons (Offs.cons (Offs.cons (Offs.cons (Offs.cons (Offs.cons (Offs.cons (offs_sub hoff (by simp)) ?_) ?_) ?_) ?_) ?_) ?_) ?_
          all_goals walk_at "alle"
        dsimp only
        show wpAny _ _ (execs (putS w.params) (lawE w.params L fa cd)) _ _ _
        refine segP (i := 0) (kD := _) M B X₀ (by assumption) F5 N6 hTN ⟨by walk_at "my ne", by walk_at "my ne", by walk_at "my ne", by walk_at "my ne", by walk_at "my ne", by walk_at "my ne"⟩ n1 n2 dT (by omega) (by omega) rfl hys hcr hcn rfl rfl rfl rfl ?_
        intro h' tk' tp x dx s1 s2 b tb t0 oT' F6 N7 hfr hT' hb
        refine al12 (hfr _ (.head _)) ?_
        intro fa1 fa2 fa3 fa4 fa5 fa6 fa7 fa8 fa9 fa10 fa11 fa12 faT
        refine al12 (hfr _ (.tail _ (.head _))) ?_
        intro fb1 fb2 fb3 fb4 fb5 fb6 fb7 fb8 fb9 fb10 fb11 fb12 fbT
        refine al12 (hfr _ (.tail _ (.tail _ (.head _)))) ?_
        intro fc1 fc2 fc3 fc4 fc5 fc6 fc7 fc8 fc9 fc10 fc11 fc12 fcT
        clear hfr
        have hofT : Offs ((tp, tupO [.int 0 t0, .ref x]) :: (x, instObj 375 dx) :: (dx, strmD w.params s1 s2 hA b tb) :: (D', listOf ys.toArray ys.length) :: (xN, instObj 332 dxN) :: (dxN, nameD w.params kN "ObjStm" (tk0 + 1)) :: (hA, oA) :: T) [R, a, c, S, dS, Tb, L + 1] := by
          refine Offs.cons (Offs.cons (Offs.cons (Offs.cons (Offs.cons (Offs.cons (Offs.cons hoff ?_) ?_) ?_) ?_) ?_) ?_) ?_
          all_goals walk_at "alle"
        have J' := roomJ_next (r := ⟨0, 0, 0, 0, 0, 0, x, dx, s1, s2, hA, b, tb, strPairs [(.str (Str.ofString "Type") tk0, .ref xN)], .name xN dxN kN (Str.ofString "ObjStm") (tk0 + 1)⟩) RJ (fun y hy => .tail _ (.tail _ (.tail _ (.tail _ (.tail _ (.tail _ (.tail _ hy))))))) (ChainF.nil) rfl
          ⟨⟨tp, t0, valueAt_stored_same _ _ _, .head _⟩, .tail _ (.head _), .tail _ (.tail _ (.head _)), by show (KBw.bInts b).length ≤ 100; rw [hb, hcl]; exact Nat.le_trans hm5 (by decide), ⟨oA, .tail _ (.tail _ (.tail _ (.tail _ (.tail _ (.tail _ (.head _)))))), hdd⟩, lod, ⟨xN, dxN, kN, tk0 + 1, rfl, .tail _ (.tail _ (.tail _ (.tail _ (.head _)))), .tail _ (.tail _ (.tail _ (.tail _ (.tail _ (.head _)))))⟩, rfl, rfl⟩
          hq (Nat.add_le_add_left hm5 (jj + 1)) hT' hofT (.tail _ (.tail _ (.tail _ (.head _)))) hys (by rw [hcl]; exact hm5) hb
        walk_at "TurnStep"
        refine Turn.intro (nx := (R, listOf (rmRefs [] ++ [Value.ref D']).toArray (kR + 1)) :: (a, penO c q) :: (c, penC q) :: (S, instObj 512 dS) :: (dS, shD w.params k1 k2 Tb Tr) :: (Tb, oT') :: (L + 1, oc) :: (tp, tupO [.int 0 t0, .ref x]) :: (x, instObj 375 dx) :: (dx, strmD w.params s1 s2 hA b tb) :: (D', listOf ys.toArray ys.length) :: (xN, instObj 332 dxN) :: (dxN, nameD w.params kN "ObjStm" (tk0 + 1)) :: (hA, oA) :: T)
          F6 N7 (by k_mem) (fun y hy => ?_) ?_ (iE8 q _ _ _ _ _ ([] ++ [⟨D', ys, ys.length⟩]) _ (iA4 rfl J' rfl rfl))
        · exact subW (by walk_at "sub") hy
        · simp only [List.forall_mem_cons]
          refine ⟨m1, m2, m3, m4, m5, m6, m7, ?_, ?_, ?_, ?_, ?_, ?_, ?_, m8⟩ <;> walk_at "my ne"
  · intro m₁ nx h₁ tk₁ HJ
    refine x8_4 HJ ?_
    clear HJ
    rintro p jj kR oT tk T rms rs enx RJ e1 e2
    intro F₁ N₁
    rw [enx] at N₁
    clear enx
    have hmm1 := hm1.h
    have hmm4 := hm4.h
    have hrl := RJ.rl
    clear F N1 hp1 dT hr
    k_dflt walk_at "law steps"
    refine ⟨rfl, iE10 _ _ _ R kR oT tk T rms rs (iA10 rfl F₁ (fun q hq => N₁ q ?_) RJ.dT RJ.ch (fun e => ?_) (by omega) RJ.rm e1 e2)⟩
    · exact subW (by walk_at "sub") hq
    · rw [e, List.length_nil] at hrl; omega
end
theorem rs_GF : True := by
  w_top off
  trivial
theorem keptD_snoc (d : List (Int × Int)) (l : List (List Int)) (r : List Int) : keptD d (l ++ [r]) = rowS (keptD d l) r.reverse := by
  unfold keptD; rw [List.foldl_append]; rfl
theorem rowS_snoc (d : List (Int × Int)) (l : List Int) (c : Int) : rowS d (l ++ [c]) = setD (rowS d l) (c.fdiv 10) c := by
  unfold rowS; rw [List.foldl_append]; rfl
theorem ln_124 : True := by
  k_with "law stepsK" => (repeat' ((fail_if_success (with_reducible show wpAny _ _ (call (Value.ref 768) _) _ _ _)); (fail_if_success (with_reducible show wpAny _ _ (compareOp _ (Value.ref _) (Value.ref _)) _ _ _)); walk_at "law go"; (first | (k_unfold; (try dsimp only)) | ((with_reducible show wpAny _ _ (PySem.call (Prod.fst _) _) _ _ _); dsimp only [List.cons_append, List.nil_append]) | walk1 | (dsimp only; walk1))))
  trivial
section
variable {prog : Program} {w : World} {A : Around} {base : Heap} {l : List Env} {n : Nat} {g h₀ h : Heap} {gg : Array GenState} {dd : Drawn} {tt : Nat} {oo : OsState} {L : Addr} {m : Str → Option Value}
  {fa : Addr} {cd : Value} {pp : Program} {loose : List Str} {mean : ExcName → Option Value} {mg mb : Str → Option Value}
  {S dS Tb Tr R : Addr} {kR : Nat} {k1 k2 : Tok} {oT : Obj} {tkk : List (Int × Value)} {T' : List (Addr × Obj)} {rms : List RM} {rs : List LinkR}
theorem segF (M : Rm w A base l h₀ (n + 20)) (B : Below A base l g) (X₀ : (hd.heap_39 w.params).In g) (T : Top pp loose mean mg mb g) (F : Fr g L h m)
    (N : News g L h ((R, listOf (rmRefs rms).toArray kR) :: (S, instObj 512 dS) :: (dS, shD w.params k1 k2 Tb Tr) :: (Tb, oT) :: T'))
    (dT : oT.IsDictOf (intKind prog w) tkk) (lo : (Tb == sysModules) = false) (hC : ChainS prog w T' tkk rs) (hne : rs ≠ []) (hl : rs.length ≤ 4) (hR : RoomsAt T' rms (codesOf rs).reverse) (e1 : m "rooms" = some (.ref R)) (e2 : m "shelf" = some (.ref S)) :
    wpAny (model prog w) (A.deeper (lawE w.params L fa cd)) (execs (lawP w.params 21 3) (lawE w.params L fa cd))
      (After fun f s' => f = .ret (.bool true) ∧ ∃ h' tk m', s' = ⟨h', gg, dd, tk, oo⟩ ∧ Fr g L h' m')
      (fun _ _ => False) ⟨h, gg, dd, tt, oo⟩ := by
  have hrl : rms.length = rs.length := by rw [hR.length, List.length_reverse]; unfold codesOf; rw [List.length_map]
  have F₀ := Fr.put (Fr.put F "rooms" e1) "shelf" e2
  clear F
  obtain ⟨rest, hrest⟩ : ∃ rest : List (Addr × Obj), rest = (S, instObj 512 dS) :: (dS, shD w.params k1 k2 Tb Tr) :: (Tb, oT) :: T' := ⟨_, rfl⟩
  rw [← hrest] at N
  have hsub : ∀ p ∈ T', p ∈ rest := fun p hp => by rw [hrest]; exact .tail _ (.tail _ (.tail _ hp))
  walk_at "law open"
  k_dflt walk_at "law steps"
  rename Fr _ _ _ _ => F
  k_dflt (refine' For_invVF F ?k1 ?k2 ?_; (case k1 => exact rfl); (case k2 => exact rfl))
  k_dflt walk_at "law steps"
  rename Fr _ _ _ _ => F
  rename News _ _ _ _ => N
  rename_i K _ oK0 loK _ _ hK0 _ lK h1
  obtain ⟨lR, lrest⟩ := lK
  have hRK : @Ne Nat R K := Nat.ne_of_lt lR
  have hTo : Offs rest [K] := fun q hq hm => Nat.ne_of_lt (allLt_mem lrest q hq) (List.mem_singleton.mp hm)
  obtain ⟨cls, hcls⟩ : ∃ cls, cls = (codesOf rs).reverse := ⟨_, rfl⟩
  rw [← hcls] at hR
  have N1 : News g L h1 ((R, listOf (rmRefs rms).toArray kR) :: (K, oK0) :: rest) := fun q hq => N q (by
    exact subW (by walk_at "sub") hq)
  clear N
  refine iter_list_my (vs := rmRefs rms) (k := kR) (fun i m nx => ∃ oK kvs, nx = (R, listOf (rmRefs rms).toArray kR) :: (K, oK) :: rest ∧ oK.IsDictOf (intKind prog w) kvs ∧ IVals kvs (keptD [] (cls.take i)) ∧ kvs.length ≤ 4 * i ∧ m "kept" = some (.ref K) ∧ m "rooms" = some (.ref R) ∧ m "shelf" = some (.ref S))
    M.handledD ?_ F N1 (iE2 _ _ (iA7 rfl hK0 .nil (Nat.zero_le _) rfl rfl rfl)) ?_ ?_
  · rintro i m nx ⟨_, _, rfl, _⟩; exact .head _
  · intro i v' m₁ nx h₁ tk' I oI hv' HJ
    refine x2_7 HJ ?_
    clear HJ
    rintro oK kvs enx hD hI hkl e1 e2 e3
    intro hne F₁ N₁
    rw [enx] at N₁ hne
    clear enx
    clear F N1 hK0
    obtain ⟨q, hq, rfl⟩ : ∃ q, rms[i]? = some q ∧ v' = .ref q.a := by
      rw [List.getElem?_map] at hv'
      obtain ⟨q, hq, rfl⟩ := Option.map_eq_some_iff.mp hv'
      exact ⟨q, hq, rfl⟩
    refine x1_4 (hR.get hq) ?_
    intro c hc hqm hys hcl
    have hil : i < 4 := by have := (List.getElem?_eq_some_iff.mp hq).1; omega
    have hqK : @Ne Nat q.a K := Nat.ne_of_lt (allLt_mem lrest _ (hsub _ hqm))
    obtain ⟨qa, ys, qk⟩ := q
    dsimp only at hqm hys hqK F₁
    have F₂ := Fr.put (Fr.put (Fr.put F₁ "kept" e1) "rooms" e2) "shelf" e3
    simp only [List.forall_mem_cons] at hne
    refine a3 hne ?_
    intro m1 m2 m3
    replace m1 := neN m1
    replace m2 := neN m2
    have N₂ : News g L h₁ ((qa, listOf ys.toArray qk) :: (I, oI) :: (R, listOf (rmRefs rms).toArray kR) :: (K, oK) :: rest) := fun y hy => by
      rcases List.mem_cons.mp hy with rfl | hy
      · exact N₁ _ (.tail _ (.tail _ (.tail _ (hsub _ hqm))))
      · exact N₁ _ hy
    have hcl2 : ys.length = c.length := hys.length
    clear F₁ N₁ hv' e1 e2 e3
    (try k_fold)
    k_dflt walk_at "law steps"
    rename Fr _ _ _ _ => F
    k_dflt (refine' For_invVF F ?k1 ?k2 ?_; (case k1 => exact rfl); (case k2 => exact rfl))
    k_dflt walk_at "law steps"
    rename_i D' ws h2 F N hws hCl l1
    refine a5 l1 ?_
    intro p1 p2 p3 p4 p5
    have hDK : @Ne Nat K D' := Nat.ne_of_lt p4
    have N3 : News g L h2 ((D', listOf ws.toArray 0) :: (I, oI) :: (R, listOf (rmRefs rms).toArray kR) :: (K, oK) :: rest) := fun y hy => N y (by
      exact subW (by walk_at "sub") hy)
    have hwl : ws.length = c.reverse.length := hws.length
    clear N N₂
    refine iter_list_my (vs := ws) (k := 0) (fun j m nx => ∃ oK kvs, nx = (D', listOf ws.toArray 0) :: (I, oI) :: (R, listOf (rmRefs rms).toArray kR) :: (K, oK) :: rest ∧ oK.IsDictOf (intKind prog w) kvs ∧ IVals kvs (rowS (keptD [] (cls.take i)) (c.reverse.take j)) ∧ kvs.length ≤ 4 * i + j ∧ m "kept" = some (.ref K) ∧ m "rooms" = some (.ref R) ∧ m "shelf" = some (.ref S))
      M.handledD ?_ F N3 (iE2 _ _ (iA7 rfl hD hI (by omega) rfl rfl rfl)) ?_ ?_
    · rintro j m nx ⟨_, _, rfl, _⟩; exact .head _
    · intro j u m₂ nx h₂ tk₂ I2 oI2 hu HJ
      refine x2_7 HJ ?_
      clear HJ
      rintro oK' kvs' enx hD' hI' hkl' e1 e2 e3
      intro hne2 F₁ N₁
      rw [enx] at N₁ hne2
      clear enx
      clear F N3 hD hI hkl
      obtain ⟨v, tv, rfl, hcv⟩ := hws.at j u hu
      have hjl : j < 4 := by have := (List.getElem?_eq_some_iff.mp hcv).1; omega
      have F₂ := Fr.put (Fr.put (Fr.put F₁ "kept" e1) "rooms" e2) "shelf" e3
      simp only [List.forall_mem_cons] at hne2
      refine a5 hne2 ?_
      intro k1' k2' k3' k4' k5'
      replace k4' := neN k4'
      clear F₁ hu
      (try k_fold)
      k_dflt walk_at "law steps"
      rename Fr _ _ _ _ => F'
      rename News _ _ _ _ => N'
      rename Obj.IsDictOf (intKind prog w) _ (stored _ _ _) => hD2
      have hsl := stored_length_le kvs' (v.fdiv 10) (.int v tv)
      refine Turn.intro F' N' (.head _) (fun p hp => .tail _ hp) (by simp only [List.forall_mem_cons]; exact ⟨k1', k2', k3', k4', k5'⟩) (iE2 _ _ (iA7 rfl hD2 ?_ (by omega) rfl rfl rfl))
      have e : c.reverse.take (j + 1) = c.reverse.take j ++ [v] := by rw [List.take_add_one, hcv]; rfl
      rw [e, rowS_snoc]
      exact hI'.set _ _ _
    · intro m₂ nx h₂ tk₂ HJ
      refine x2_7 HJ ?_
      clear HJ
      rintro oK' kvs' enx hD' hI' hkl' e1 e2 e3
      intro F₁ N₁
      rw [enx] at N₁
      clear enx
      clear F N3 hD hI
      have F₂ := Fr.put (Fr.put (Fr.put F₁ "kept" e1) "rooms" e2) "shelf" e3
      clear F₁
      (try k_fold)
      k_dflt walk_at "law steps"
      rename Fr _ _ _ _ => F'
      rename News _ _ _ _ => N'
      rw [hwl, List.take_length] at hI'
      rw [hwl, List.length_reverse] at hkl'
      refine Turn.intro (nx := (R, listOf (rmRefs rms).toArray kR) :: (K, oK') :: rest) F' N' (.tail _ (.head _)) (fun p hp => .tail _ (.tail _ hp)) (by simp only [List.forall_mem_cons]; exact ⟨m1, m2, m3⟩) (iE2 _ _ (iA7 rfl hD' ?_ (by omega) rfl rfl rfl))
      have e : cls.take (i + 1) = cls.take i ++ [c] := by rw [List.take_add_one, hc]; rfl
      rw [e, keptD_snoc]
      exact hI'
  · intro m₁ nx h₁ tk₁ HJ
    refine x2_7 HJ ?_
    clear HJ
    rintro oK kvs enx hD hI hkl e1 e2 e3
    intro F₁ N₁
    rw [enx] at N₁
    clear enx
    clear F N1 hK0
    have F₂ := Fr.put (Fr.put (Fr.put F₁ "kept" e1) "rooms" e2) "shelf" e3
    have hlen : (rmRefs rms).length = cls.length := by rw [List.length_map, hR.length]
    rw [hlen, List.take_length] at hI
    have hz : (rmRefs rms).length ≤ 100000 := by rw [List.length_map]; omega
    subst hrest
    clear F₁ e1 e2 e3
    (try k_fold)
    k_dflt walk_at "law stepsK"
    rename_i x dx h5 _ F5 la lb k3 k4 N5
    obtain ⟨r0, rs1, rfl⟩ : ∃ r0 rs1, rs = r0 :: rs1 := by
      cases rs with
      | nil => exact absurd rfl hne
      | cons a b => exact ⟨a, b, rfl⟩
    have hri : ((rms.length : Nat) : Int) = (rs1.length : Int) + 1 := by rw [hrl, List.length_cons]; omega
    have hFull := ChainS.full (T' := (x, instObj 403 dx) :: (dx, refD w.params k3 k4 rms.length (tk₁ + 1) 0 (tk₁ + 1 + 1)) :: T') (x := x) (dx := dx) (k1 := k3) (k2 := k4) (tn := tk₁ + 1) (tg := tk₁ + 1 + 1) hC (fun y hy => .tail _ (.tail _ hy)) (.head _) (by rw [← hri]; exact .tail _ (.head _))
    have hCA := hFull.chain (hh := h5) (fun q hq => (N5 q (by
      exact subW (by walk_at "sub") hq)).1)
    have hSh : ShAt prog w h5 S dS Tb Tr k1 k2 tkk := ⟨(N5 _ (.tail _ (.tail _ (.tail _ (.tail _ (.head _)))))).1, (N5 _ (.tail _ (.tail _ (.tail _ (.tail _ (.tail _ (.head _))))))).1, Heap.dictOf_iff.mpr ⟨oT, (N5 _ (.tail _ (.tail _ (.tail _ (.tail _ (.tail _ (.tail _ (.head _)))))))).1, dT⟩, lo⟩
    have hcd : codesOf (r0.at x dx k3 k4 (tk₁ + 1) (tk₁ + 1 + 1) :: rs1) = cls.reverse := by rw [hcls, List.reverse_reverse]; rfl
    have hck := chain_kept cls
    rw [← hcd] at hck
    have hM : Rm w A base l h₀ (n + 13 + 6 + 1) := M
    refine use (read_chain_ct (rs := r0.at x dx k3 k4 (tk₁ + 1) (tk₁ + 1 + 1) :: rs1) (n + 13) (v := .ref x) rfl (by rw [List.length_cons] at hl ⊢; omega) hFull.short) hM B F5 N5 (List.forall_mem_nil _) Pick.all ⟨hSh, hCA⟩ (fun v h' tk' news' F' N' ho q => ?_) rfl rfl
    refine x3_5 q ?_
    clear q
    rintro D oD kvs2 rfl rfl loD hD2 hI2
    have dX : h'.DictOf (intKind prog w) D kvs2 := Heap.dictOf_iff.mpr ⟨oD, (N' _ (.head _)).1, hD2⟩
    have dY : h'.DictOf (intKind prog w) K kvs := Heap.dictOf_iff.mpr ⟨oK, (N' _ (.tail _ (.tail _ (.tail _ (.tail _ (.head _)))))).1, hD⟩
    have hu : (A.deeper (lawE w.params L fa cd)).units < cLine := by
      have := M.units
      show A.units + 3 < cLine
      omega
    clear N5 F5 hM hSh hCA hFull ho N₁ F₂
    k_dflt walk_at "law stepsK"
    refine eq_kept loD loK dX dY hI2 hI hck.1 hck.2 hu ?_
    k_dflt walk_at "law stepsK"
    exact ⟨rfl, _, _, _, rfl, F'⟩
end
theorem rs_GG : True := by
  w_top off
  trivial
theorem lawP_cut (P : Params) : (lawT P).body = lawP P 0 2 ++ (lawP P 2 4 ++ (lawP P 6 3 ++ (lawP P 9 4 ++ (lawP P 13 3 ++ (lawP P 16 1 ++ (lawP P 17 1 ++ (lawP P 18 1 ++ (lawP P 19 2 ++ lawP P 21 3)))))))) := by
  rw [law_all, ← lawP_split P 19 2 3, ← lawP_split P 18 1 5, ← lawP_split P 17 1 6, ← lawP_split P 16 1 7, ← lawP_split P 13 3 8, ← lawP_split P 9 4 11, ← lawP_split P 6 3 15, ← lawP_split P 2 4 18, ← lawP_split P 0 2 22]
theorem news_neO {g h : Heap} {L : Addr} {led : List (Addr × Obj)} (N : News g L h led) {a b : Addr} {o o' : Obj} (h1 : (a, o) ∈ led) (h2 : (b, o') ∈ led) (hd : o.data ≠ o'.data) : @Ne Nat a b := by
  rintro rfl
  exact hd (congrArg Obj.data (Option.some.inj ((N _ h1).1.symm.trans (N _ h2).1)))
section
variable {prog : Program} {w : World}
theorem law_ct (n : Nat) {sc : Addr} {cs : List (Int × Tok)} (hcs : cs.length ≤ 63) {A : Around} {base : Heap} {s : Shared} {R : Result → Shared → Prop} (M : Rm w A base [] s.heap (n + 20)) (hP : s.heap.IsList sc (cs.map cellV).toArray)
    (ret : Rt [] (fun v' _ _ => v' = .bool true) s R) : codeAny (model prog w) A (.call (.ref 809) ⟨[.ref sc], []⟩) R s := by
  have O : Own base [] s.heap [] := fun p hp => nomatch hp
  have bd : Bd [("script", .ref sc)] := ⟨⟩
  k_dflt walk_at "my enterC"
  rename Kg _ _ _ => kg
  have hl := Heap.IsList.at hP (fun _ e => kg.keeps _ _ e)
  rename_i g L h1 tk1 pp loose mean mg mb F B X₀ T lt o0 hd0 N
  replace hd0 : o0.data = .cell none := hd0
  show wpAny (model prog w) (A.deeper (lawE w.params L 809 _)) (execs (lawT w.params).body (lawE w.params L 809 _)) _ _ _
  rw [lawP_cut]
  refine execs_app (wpAny_mono (segA M B X₀ T F N hd0 hcs hl rfl) ?_ (fun _ _ e => e.elim))
  intro f s' HJ
  refine a2 HJ ?_
  clear HJ
  rintro rfl HJ
  refine x11_6 HJ ?_
  clear HJ
  rintro h2 tk2 m2 a c oc p j qs pD T1 rfl F2 PS PA hj e1
  refine execs_app (wpAny_mono (segB1 M B X₀ T F2 PS.N (.tail _ (.tail _ PA.D)) (fun q hq => .tail _ (.tail _ (PA.t q hq))) e1 PA.l PA.b) ?_ (fun _ _ e => e.elim))
  intro f s' HJ
  refine a2 HJ ?_
  clear HJ
  rintro rfl HJ
  refine x9_8 HJ ?_
  clear HJ
  rintro h3 tk3 m3 rw' pt rl pl kr kp rfl F3 N3 hrl hpl e2 e3 e4
  have hps : Okp (qs.map prOf) := fun q hq => by
    obtain ⟨r, hr, rfl⟩ := List.mem_map.mp hq
    exact PA.b r hr
  have hl4 : (qs.map prOf).length ≤ 4 := by rw [List.length_map]; exact PA.l
  have tx := text_ok hps hl4
  have sl : Short (leadT (qs.map prOf)) := ⟨by have := tx.lead; have := tx.len; omega⟩
  refine execs_app (wpAny_mono (segB2 M B X₀ T F3 N3 hrl hpl e2 e3 e4 hps hl4) ?_ (fun _ _ e => e.elim))
  intro f s' HJ
  refine a2 HJ ?_
  clear HJ
  rintro rfl HJ
  refine x8_9 HJ ?_
  clear HJ
  rintro h4 tk4 m4 b tb b2 tb2 tl rfl F4 N4 eb eb2 f1 f2 f3 f4
  have PS4 : PenSt g L h4 a c p j oc T1 := ⟨N4, PS.off, PS.ac, PS.pc, PS.cell, PS.ok, PS.jl⟩
  refine execs_app (wpAny_mono (segC1 M B X₀ T F4 PS4 hj PA f4 f3 sl) ?_ (fun _ _ e => e.elim))
  intro f s' HJ
  refine a2 HJ ?_
  clear HJ
  rintro rfl HJ
  refine x8_1 HJ ?_
  clear HJ
  intro h5 tk5 m5 p5 j5 S dS Tb HJ
  refine x8_1 HJ ?_
  clear HJ
  intro Tr k1 k2 oT tkk T2 V1 u1 HJ
  refine x8_18 HJ ?_
  clear HJ
  rintro c1 t1 V2 u2 c2 t2 kd tkd rfl F5 PS5 hj5 hsub SH offT hlen hC hk0 hk1 g1 g2 g3 g4 g5 g6 gm
  have PA5 : PairsAt T2 pD qs := ⟨hsub _ PA.D, fun q hq => hsub _ (PA.t q hq), PA.l, PA.b⟩
  have q1 : m5 "pairs" = some (.ref pD) := (gm _ (by decide)).trans f4
  have q2 : m5 "lead" = some (.str (leadT (qs.map prOf)) tl) := (gm _ (by decide)).trans f3
  have q3 : m5 "octets" = some (.bytes b tb) := (gm _ (by decide)).trans f1
  have q4 : m5 "turned_octets" = some (.bytes b2 tb2) := (gm _ (by decide)).trans f2
  refine execs_app (wpAny_mono (segC2 M B X₀ T F5 PS5 PA5 SH offT hC hk0 hk1 eb q1 q2 q3 g2 g3 g4 g5 g6) ?_ (fun _ _ e => e.elim))
  intro f s' HJ
  refine a2 HJ ?_
  clear HJ
  rintro rfl HJ
  refine x3_2 HJ ?_
  clear HJ
  rintro h6 tk6 m6 rfl HJ
  refine x5_13 HJ ?_
  clear HJ
  rintro hdA kvs dv T3 V0 F6 PS6 hs3 off3 hE hV0 i1 i2 hdue i3 i4 i5 i6
  obtain ⟨tk1', oT1, C1, C2⟩ := hC
  have N6 := PS6.N
  have up : ∀ q ∈ T3, q ∈ (a, penO c p5) :: (c, penC p5) :: (Tb, oT) :: T3 := fun q hq => .tail _ (.tail _ (.tail _ hq))
  have hSh : ∀ hh : Heap, (∀ q ∈ (a, penO c p5) :: (c, penC p5) :: (Tb, oT) :: T3, hh.get? q.1 = some q.2) → ShAt prog w hh S dS Tb Tr k1 k2 tkk := fun hh hq =>
    ⟨hq _ (up _ (hs3 _ SH.hS)), hq _ (up _ (hs3 _ SH.hd)), Heap.dictOf_iff.mpr ⟨oT, hq _ (.tail _ (.tail _ (.head _))), SH.dT⟩, SH.lo⟩
  have hF := fine_of tx hl4 C1.cE (by have := C1.cs; rw [List.length_map]; exact this) C2.cE C2.cs
  have hz : (codesS (textT (qs.map prOf))).length ≤ 16777216 := Nat.le_trans tx.len (by decide)
  have hdue' : (Good (codesS (textT (qs.map prOf))) (offPairs 0 (qs.map prOf)) V0 u1 u2 ∧ ∃ D qs', dv = .ref D ∧ (∃ k, (D, listOf (pRefs qs').toArray k) ∈ (a, penO c p5) :: (c, penC p5) :: (Tb, oT) :: T3) ∧ (∀ q ∈ qs', pObj q ∈ (a, penO c p5) :: (c, penC p5) :: (Tb, oT) :: T3) ∧ qs'.map prOf = qs.map prOf) ∨ (¬ Good (codesS (textT (qs.map prOf))) (offPairs 0 (qs.map prOf)) V0 u1 u2 ∧ dv = .none) := by
    rcases hdue with ⟨x1, D, qs', x2, ⟨k, x3⟩, x4, x5⟩ | x
    · exact .inl ⟨x1, D, qs', x2, ⟨k, up _ x3⟩, fun q hq => up _ (x4 q hq), x5⟩
    · exact .inr x
  refine execs_app (wpAny_mono (segD1 M B X₀ T F6 N6 hSh (fun hh hq => hE hh fun q h => hq q (up q h)) hV0 C1.hu C2.hu eb2 (x1_back eb) hz hF hdue' (i3.trans g1) i1 (i4.trans q4) i2) ?_ (fun _ _ e => e.elim))
  rintro f s' ⟨rfl, h7, tk7, rfl, F7, N7⟩
  refine execs_app (wpAny_mono (segD2 M B X₀ T F7 N7 hSh (up _ (hs3 _ PA5.D)) (fun q hq => up _ (hs3 _ (PA5.t q hq))) PA.l tx eb2 (x1_back eb) (i3.trans g1) (i5.trans q1) (i4.trans q4) (i6.trans q2)) ?_ (fun _ _ e => e.elim))
  rintro f s' ⟨rfl, h8, tk8, rfl, F8, N8⟩
  refine execs_app (wpAny_mono (segD3 (S := S) M B X₀ T F8 N8 (i3.trans g1)) ?_ (fun _ _ e => e.elim))
  rintro f s' ⟨rfl, h9, tk9, rfl, F9, N9⟩
  have mS := hs3 _ SH.hS
  have md := hs3 _ SH.hd
  have mL : (L + 1, oc) ∈ T3 := by
    rcases List.mem_cons.mp PS6.pc with e | h
    · exfalso
      have hx := PS6.cell
      rw [(Prod.mk.inj e).2] at hx
      obtain ⟨es, ep, _, h3, _⟩ := SH.dT
      rw [h3] at hx; cases hx
    · exact h
  have off := PS6.off
  have dTd : oT.data ≠ oc.data := by
    rw [PS6.cell]
    obtain ⟨es, ep, _, h3, _⟩ := SH.dT
    rw [h3]; simp
  have N9' : News g L h9 [(a, penO c p5), (c, penC p5), (S, instObj 512 dS), (dS, shD w.params k1 k2 Tb Tr), (Tb, oT), (L + 1, oc)] := fun q hq => N9 q (by
    exact subW (by walk_at "sub") hq)
  refine execs_app (wpAny_mono (segE M B X₀ T F9 N9' PS6.ac PS6.cell PS6.ok (by omega)
    ⟨Ne.symm (off.ne (List.mem_cons_self ..) _ (.tail _ mS)), Ne.symm (off.ne (List.mem_cons_of_mem _ (List.mem_cons_self ..)) _ (.tail _ mS)), Ne.symm (off.ne (List.mem_cons_self ..) _ (.tail _ md)), Ne.symm (off.ne (List.mem_cons_of_mem _ (List.mem_cons_self ..)) _ (.tail _ md)),
      Ne.symm (off.ne (List.mem_cons_self ..) _ (.head _)), Ne.symm (off.ne (List.mem_cons_of_mem _ (List.mem_cons_self ..)) _ (.head _)), Ne.symm (off.ne (List.mem_cons_self ..) _ (.tail _ mL)), Ne.symm (off.ne (List.mem_cons_of_mem _ (List.mem_cons_self ..)) _ (.tail _ mL)),
      news_neO N9' (.tail _ (.tail _ (.head _))) (.tail _ (.tail _ (.tail _ (.tail _ (.tail _ (.head _)))))) (by rw [PS6.cell]; simp), news_neO N9' (.tail _ (.tail _ (.tail _ (.head _)))) (.tail _ (.tail _ (.tail _ (.tail _ (.tail _ (.head _)))))) (by rw [PS6.cell]; simp), news_neO N9' (.tail _ (.tail _ (.tail _ (.tail _ (.head _))))) (.tail _ (.tail _ (.tail _ (.tail _ (.tail _ (.head _)))))) dTd⟩
    SH.n1 SH.n2 SH.dT hlen (i3.trans g1)) ?_ (fun _ _ e => e.elim))
  intro f s' HJ
  refine a2 HJ ?_
  clear HJ
  rintro rfl HJ
  refine x10_10 HJ ?_
  clear HJ
  rintro h10 tk10 m10 R' kR oT' tk' T4 rms rs rfl F10 N10 dT' hCh hne hl4' hRm k1' k2'
  refine wpAny_mono (segF M B X₀ T F10 N10 dT' SH.lo hCh hne hl4' hRm k1' k2') ?_ (fun _ _ e => e.elim)
  rintro f s' ⟨rfl, h11, tk11, m11, rfl, F11⟩
  exact back (news' := []) ret kg F11 (fun p hp => nomatch hp) rfl
end
end Mine
end
theorem Mine.rs_Fin : True := by
  w_top off
  trivial
theorem PySem.Challenge.cw_nn0161_01_holds : PySem.Challenge.rw_nn0161_01.Holds :=
  Mine.hd (by
    k_fill
    intro w s₀ s₁ mg mb G Y fa o pm cd doc dV kV ho hd hcd hD hmg hg args vals as hpre hlay hrd hwl hlo
    have KX := kIn_of Y
    have X := (Ground.X G).1
    have V := (Ground.X G).2
    try w_nolog (first | (have GL := glob_more (Ground.glob G (by first | k_qdec | decide +kernel) (by first | k_qdec | decide +kernel)) V) | (have GL := glob_more (Ground.glob G (by decide +kernel)) V))
    refine Ground.open G ?_
    intro T B D TE TW
    try (refine guard_noD D (by decide +kernel) ?_; clear D)
    obtain ⟨_, _, M⟩ := bmod_of_top T
    have TA := at_of_top T
    try (obtain ⟨_, _, he, B0⟩ := based_of_top T rfl hmg ho hd; have he' : cd = _ := he; subst he'; clear he)
    wrow_args hpre hlay hrd hwl hlo
    (first | refine callC_kw (enter_call ?_) | refine enter_call ?_ | refine callC_kw (enter_callW ?_) | refine enter_callW ?_ | w_how)
    w_top on
    try refine codeAny_mono ?_ (fun _ _ g => GoodW.toG g)
    have K0 := below_caller (Top.heap T)
    have K1 : Below callerA s₁.heap [] s₁.heap := K0
    clear K0
    rename_i xs _ _ _ _ _ _ _ sc vs _ hL _ _ _ hI _ hc _
    have hfa : fa = 809 := by
      have h1 : mg (Str.ofString "law") = some (.ref 809) := mg_of KX T.g (by k_is)
      have h2 : mg (Str.ofString "law") = some (.ref fa) := hmg
      rw [h1] at h2
      cases h2; rfl
    subst hfa
    obtain ⟨cs, hvs, hlen⟩ := Mine.cells_of_ints hI
    subst hvs
    refine Mine.law_ct 0 (cs := cs) (by omega) (base := s₁.heap) ⟨rfl, by decide, by decide, K1, ⟨KX, _, _, _, _, _, T⟩⟩ hL ⟨fun v h' tk nw kp _ q => ?_⟩
    subst q
    refine ⟨.inl ⟨_, .bool true, [], rfl, ?_, ?_, ?_, ?_⟩, fun b o hb => kp b o (fun hm => nomatch hm) hb, rfl, hg⟩
    · intro cls
      rfl
    · first | exact ReadsW.bool _ | exact .bool _ | constructor
    · wrow_post
    · exact fun _ => ⟨.nil, fun _ h => nomatch h⟩)

