import PyProof.Rows.All
import Wide.All
import OpenK.AllK
import Wide.FinOn
import Lean
import PySem.Challenge.RW_pb0245_01
open PySem PySem.W PyProof.Rows
set_option Elab.async false
set_option compiler.extract_closed false
namespace Mine
theorem same_find : Manifest.find? = Manifest.find? := rfl
name_quick tw8642067239939848140 for Manifest.find? by same_find
name_quick tw13145125596335152023 for Manifest.find? by same_find
name_quick tw15560500314895047343 for Manifest.find? by same_find
name_quick tw17057272898397164401 for Manifest.find? by same_find
name_quick tw3424931102881643321 for Manifest.find? by same_find
name_quick tw6434138532213402376 for Manifest.find? by same_find
name_quick tw8424611434330503625 for Manifest.find? by same_find
name_quick tw15900120412870309639 for Manifest.find? by same_find
name_quick tw9467589175468403638 for Manifest.find? by same_find
name_quick tw7250012664060256230 for Manifest.find? by same_find
name_quick tw11939915149646268982 for Manifest.find? by same_find
name_quick tw16697116713213952808 for Manifest.find? by same_find
name_quick tw1218959903707654005 for Manifest.find? by same_find
name_quick tw16846860572762119324 for Manifest.find? by same_find
name_quick tw11994158751524154303 for Manifest.find? by same_find
name_quick tw13759679279233594173 for Manifest.find? by same_find
name_quick tw14834023430324568649 for Manifest.find? by same_find
name_quick tw4067349750366427359 for Manifest.find? by same_find
name_quick tw6380047634161181297 for Manifest.find? by same_find
name_quick tw10996506086634736982 for Manifest.find? by same_find
name_quick tw14714103240675001986 for Manifest.find? by same_find
name_quick tw6448080314894763839 for Manifest.find? by same_find
name_quick tw13180171748994924942 for Manifest.find? by same_find
name_quick tw8703263022893421829 for Manifest.find? by same_find
name_quick tw392140993173905013 for Manifest.find? by same_find
name_quick tw16350708796919097252 for Manifest.find? by same_find
name_quick tw17863021456227041891 for Manifest.find? by same_find
name_quick tw17476080006546285661 for Manifest.find? by same_find
name_quick tw13678640442995254988 for Manifest.find? by same_find
name_quick tw18260038339965228139 for Manifest.find? by same_find
name_quick tw13607416678640721797 for Manifest.find? by same_find
name_quick tw4797165386629745026 for Manifest.find? by same_find
name_quick tw1537898542681612871 for Manifest.find? by same_find
name_quick tw9759809726879904816 for Manifest.find? by same_find
name_quick tw4224760802259116069 for Manifest.find? by same_find
name_quick tw17730428716208468724 for Manifest.find? by same_find
name_quick tw10887116778572429059 for Manifest.find? by same_find
name_quick tw14386061602966655976 for Manifest.find? by same_find
name_quick tw15894407043143930727 for Manifest.find? by same_find
name_quick tw3131671291697673992 for Manifest.find? by same_find
name_quick tw4549333791460862111 for Manifest.find? by same_find
name_quick tw17988542015724977305 for Manifest.find? by same_find
name_quick tw4407734736301137906 for Manifest.find? by same_find
name_quick tw15323854079317868165 for Manifest.find? by same_find
name_quick tw1291980286583624508 for Manifest.find? by same_find
name_quick tw10424941004445345732 for Manifest.find? by same_find
name_quick tw8119918657739134586 for Manifest.find? by same_find
name_quick tw4090926877573551719 for Manifest.find? by same_find
name_quick tw219737044198020058 for Manifest.find? by same_find
name_quick tw16049961110935095269 for Manifest.find? by same_find
name_quick tw1414301608579184545 for Manifest.find? by same_find
name_quick tw16916688483869632129 for Manifest.find? by same_find
name_quick tw3766158894648301139 for Manifest.find? by same_find
name_quick tw5721027456603625697 for Manifest.find? by same_find
name_quick tw11270796479367742343 for Manifest.find? by same_find
name_quick tw7392212959928792091 for Manifest.find? by same_find
name_quick tw11317593695737139937 for Manifest.find? by same_find
name_quick tw15755039735206942576 for Manifest.find? by same_find
name_quick tw3880421473898291048 for Manifest.find? by same_find
name_quick tw18101931140130867144 for Manifest.find? by same_find
name_quick tw2611137233208623240 for Manifest.find? by same_find
name_quick tw13512673800721320934 for Manifest.find? by same_find
name_quick tw9529234661008812162 for Manifest.find? by same_find
name_quick tw16817318245366136608 for Manifest.find? by same_find
name_quick tw9948023125614773506 for Manifest.find? by same_find
name_quick tw16349804527192203551 for Manifest.find? by same_find
name_quick tw1309107185065388718 for Manifest.find? by same_find
name_quick tw16241802466949684156 for Manifest.find? by same_find
name_quick tw3577408171920636059 for Manifest.find? by same_find
name_quick tw11866942994157044788 for Manifest.find? by same_find
name_quick tw12329403913580668285 for Manifest.find? by same_find
name_quick tw2408619945344806742 for Manifest.find? by same_find
name_quick tw1584590905676588474 for Manifest.find? by same_find
name_quick tw1962928258387122110 for Manifest.find? by same_find
name_quick tw16439824349840649037 for Manifest.find? by same_find
name_quick tw470574548607681690 for Manifest.find? by same_find
name_quick tw4978915544186085027 for Manifest.find? by same_find
name_quick tw8719427161674164953 for Manifest.find? by same_find
name_quick tw8603108125212654177 for Manifest.find? by same_find
name_quick tw12734952128020822468 for Manifest.find? by same_find
name_quick tw17532718790514356516 for Manifest.find? by same_find
name_quick tw17069979004554194336 for Manifest.find? by same_find
name_quick tw3764465048917985505 for Manifest.find? by same_find
name_quick tw11462045893675790159 for Manifest.find? by same_find
name_quick tw1702518465993881591 for Manifest.find? by same_find
name_quick tw5032809538720368765 for Manifest.find? by same_find
name_quick tw5357591511691535388 for Manifest.find? by same_find
name_quick tw5345256250457102556 for Manifest.find? by same_find
name_quick tw10227693086864044499 for Manifest.find? by same_find
name_quick tw6817277305950994716 for Manifest.find? by same_find
name_quick tw13335737130258781183 for Manifest.find? by same_find
name_quick tw17517737089405305841 for Manifest.find? by same_find
name_quick tw15980859228951719591 for Manifest.find? by same_find
name_quick tw11625766737575182897 for Manifest.find? by same_find
name_quick tw6550987210724342151 for Manifest.find? by same_find
name_quick tw13615603153576403970 for Manifest.find? by same_find
name_quick tw8693227569615203950 for Manifest.find? by same_find
name_quick tw976971711843200656 for Manifest.find? by same_find
name_quick tw8579058602437062094 for Manifest.find? by same_find
name_quick tw3362959441861295915 for Manifest.find? by same_find
name_quick tw14896874001708588922 for Manifest.find? by same_find
name_quick tw3972328310683599613 for Manifest.find? by same_find
name_quick tw667198328695590252 for Manifest.find? by same_find
name_quick tw6019396324639902685 for Manifest.find? by same_find
name_quick tw4775785305629353868 for Manifest.find? by same_find
name_quick tw14537914154153760125 for Manifest.find? by same_find
name_quick tw14108194823987119177 for Manifest.find? by same_find
name_quick tw14311459727803291754 for Manifest.find? by same_find
name_quick tw136631920214876835 for Manifest.find? by same_find
name_quick tw912392155897948271 for Manifest.find? by same_find
name_quick tw15112985482279097393 for Manifest.find? by same_find
name_quick tw7299303143086499733 for Manifest.find? by same_find
name_quick tw7581352650102555174 for Manifest.find? by same_find
name_quick tw13981391230805400906 for Manifest.find? by same_find
name_quick tw8017206721242287953 for Manifest.find? by same_find
name_quick tw14433975572909055671 for Manifest.find? by same_find
name_quick tw5701610774189311196 for Manifest.find? by same_find
name_quick tw3891137856419664920 for Manifest.find? by same_find
name_quick tw7496433998918960881 for Manifest.find? by same_find
name_quick tw2283851925072248500 for Manifest.find? by same_find
name_quick tw13254397897704925713 for Manifest.find? by same_find
name_quick tw6363645014702824404 for Manifest.find? by same_find
name_quick tw3442601649717412197 for Manifest.find? by same_find
name_quick tw1156252341971683116 for Manifest.find? by same_find
name_quick tw4075660801711882420 for Manifest.find? by same_find
name_quick tw13381251411439493676 for Manifest.find? by same_find
name_quick tw10073347824450446311 for Manifest.find? by same_find
name_quick tw1258299570235058372 for Manifest.find? by same_find
name_quick tw13912434898499826684 for Manifest.find? by same_find
name_quick tw7788680626742099145 for Manifest.find? by same_find
name_quick tw17274371674624000324 for Manifest.find? by same_find
name_quick tw1503297043503765363 for Manifest.find? by same_find
name_quick tw43969757491396457 for Manifest.find? by same_find
name_quick tw15236012663528867214 for Manifest.find? by same_find
name_quick tw5268983451555188008 for Manifest.find? by same_find
name_quick tw11445135464325071761 for Manifest.find? by same_find
name_quick tw12880600461018141596 for Manifest.find? by same_find
name_quick tw16176465441171805009 for Manifest.find? by same_find
name_quick tw14821650378409806113 for Manifest.find? by same_find
name_quick tw3152983702415266003 for Manifest.find? by same_find
name_quick tw2422670821966735624 for Manifest.find? by same_find
name_quick tw282004115355043989 for Manifest.find? by same_find
name_quick tw2862820112641550484 for Manifest.find? by same_find
name_quick tw932993149863042379 for Manifest.find? by same_find
name_quick tw16531745337717519161 for Manifest.find? by same_find
name_quick tw7232422423428716515 for Manifest.find? by same_find
name_quick tw1047373329244895134 for Manifest.find? by same_find
name_quick tw1829445100760108279 for Manifest.find? by same_find
name_quick tw12268644228514654432 for Manifest.find? by same_find
name_quick tw16593013826814733010 for Manifest.find? by same_find
name_quick tw4071324889030633612 for Manifest.find? by same_find
name_quick tw10528696920762540405 for Manifest.find? by same_find
name_quick tw12635297910168745909 for Manifest.find? by same_find
name_quick tw900395245841561262 for Manifest.find? by same_find
name_quick tw16752143609539240740 for Manifest.find? by same_find
name_quick tw9979284746773624096 for Manifest.find? by same_find
name_quick tw18350330562280901221 for Manifest.find? by same_find
name_quick tw682011567655089306 for Manifest.find? by same_find
name_quick tw14126943448341045398 for Manifest.find? by same_find
name_quick tw16741492637210864865 for Manifest.find? by same_find
name_quick tw14224011070414065920 for Manifest.find? by same_find
name_quick tw9763268239775435451 for Manifest.find? by same_find
name_quick tw15480198773659482676 for Manifest.find? by same_find
name_quick tw13317431791736044220 for Manifest.find? by same_find
name_quick tw13900631225919944168 for Manifest.find? by same_find
name_quick tw2460228577881660442 for Manifest.find? by same_find
name_quick tw3820604794100220378 for Manifest.find? by same_find
name_quick tw9862997608875712007 for Manifest.find? by same_find
name_quick tw5882768191206486792 for Manifest.find? by same_find
name_quick tw9407582987413476825 for Manifest.find? by same_find
name_quick tw6654550962395885724 for Manifest.find? by same_find
name_quick tw18416463498863911781 for Manifest.find? by same_find
name_quick tw8860024209350480642 for Manifest.find? by same_find
name_quick tw662354867322794072 for Manifest.find? by same_find
name_quick tw8727135674562949291 for Manifest.find? by same_find
name_quick tw16643706677886111943 for Manifest.find? by same_find
name_quick tw17164873540382356111 for Manifest.find? by same_find
name_quick tw5200128776193632040 for Manifest.find? by same_find
name_quick tw13618601795979515405 for Manifest.find? by same_find
name_quick tw3560238982266916124 for Manifest.find? by same_find
name_quick tw18056578402003937789 for Manifest.find? by same_find
name_quick tw6792406925840432001 for Manifest.find? by same_find
name_quick tw387338674003428930 for Manifest.find? by same_find
name_quick tw16374537267813192141 for Manifest.find? by same_find
name_quick tw9787463984185863102 for Manifest.find? by same_find
name_quick tw5076957145309523181 for Manifest.find? by same_find
name_quick tw11186114360453789277 for Manifest.find? by same_find
name_quick tw1574873078441994576 for Manifest.find? by same_find
name_quick tw951843321253372498 for Manifest.find? by same_find
name_quick tw11310463157757771331 for Manifest.find? by same_find
name_quick tw17828083071136270317 for Manifest.find? by same_find
name_quick tw1620339239838986703 for Manifest.find? by same_find
name_quick tw11452132507678324671 for Manifest.find? by same_find
name_quick tw12635813782599140982 for Manifest.find? by same_find
name_quick tw6662432510661729299 for Manifest.find? by same_find
name_quick tw4748654258956052638 for Manifest.find? by same_find
name_quick tw16296994325663420285 for Manifest.find? by same_find
name_quick tw12945451867199242903 for Manifest.find? by same_find
name_quick tw4039474712603431140 for Manifest.find? by same_find
name_quick tw16018607276475445134 for Manifest.find? by same_find
name_quick tw5706481520468235054 for Manifest.find? by same_find
name_quick tw15490439104401381959 for Manifest.find? by same_find
name_quick tw11964429278604863157 for Manifest.find? by same_find
name_quick tw7892128664451923741 for Manifest.find? by same_find
name_quick tw9315938663221665524 for Manifest.find? by same_find
name_quick tw7276740287692124622 for Manifest.find? by same_find
name_quick tw17888162413812561239 for Manifest.find? by same_find
name_quick tw3094477031063562474 for Manifest.find? by same_find
name_quick tw3976722010076183465 for Manifest.find? by same_find
name_quick tw11130039905162102590 for Manifest.find? by same_find
name_quick tw16643379632663270332 for Manifest.find? by same_find
name_quick tw13789449189825218787 for Manifest.find? by same_find
name_quick tw9136488742655976645 for Manifest.find? by same_find
name_quick tw8796240567053077481 for Manifest.find? by same_find
name_quick tw15450981722951097364 for Manifest.find? by same_find
name_quick tw17804436615005485693 for Manifest.find? by same_find
name_quick tw1092655722715705105 for Manifest.find? by same_find
name_quick tw13141144453892091621 for Manifest.find? by same_find
name_quick tw4552823106982906706 for Manifest.find? by same_find
name_quick tw15168306246750427876 for Manifest.find? by same_find
name_quick tw14979626087600564940 for Manifest.find? by same_find
name_quick tw18220123701641295943 for Manifest.find? by same_find
name_quick tw7323676302269181137 for Manifest.find? by same_find
name_quick tw15278061642289888581 for Manifest.find? by same_find
name_quick tw7397068168572129948 for Manifest.find? by same_find
name_quick tw11161088081135249708 for Manifest.find? by same_find
name_quick tw8032284361305108907 for Manifest.find? by same_find
name_quick tw16966814322356759819 for Manifest.find? by same_find
name_quick tw11729385059970357855 for Manifest.find? by same_find
name_quick tw6711915476519705758 for Manifest.find? by same_find
name_quick tw2039238271031011813 for Manifest.find? by same_find
name_quick tw3636048126100218174 for Manifest.find? by same_find
name_quick tw17975652961387846372 for Manifest.find? by same_find
name_quick tw7269565832213808900 for Manifest.find? by same_find
name_quick tw4558998842232669794 for Manifest.find? by same_find
name_quick tw12832477231654346042 for Manifest.find? by same_find
name_quick tw12172078356533094185 for Manifest.find? by same_find
name_quick tw7275051467321613617 for Manifest.find? by same_find
name_quick tw13559156169165276386 for Manifest.find? by same_find
name_quick tw10029231156530900338 for Manifest.find? by same_find
name_quick tw8075568018651887793 for Manifest.find? by same_find
name_quick tw17672482021469178181 for Manifest.find? by same_find
name_quick tw13236226663087606529 for Manifest.find? by same_find
name_quick tw7035115661146626270 for Manifest.find? by same_find
name_quick tw12659028871203227004 for Manifest.find? by same_find
name_quick tw505943868828395459 for Manifest.find? by same_find
name_quick tw5111356299099525756 for Manifest.find? by same_find
name_quick tw8753696776887207221 for Manifest.find? by same_find
name_quick tw11788150170368784547 for Manifest.find? by same_find
name_quick tw9501820088010722379 for Manifest.find? by same_find
name_quick tw3658093133387280835 for Manifest.find? by same_find
name_quick tw1706496860858754268 for Manifest.find? by same_find
name_quick tw4527066259768149269 for Manifest.find? by same_find
name_quick tw14023627001141898710 for Manifest.find? by same_find
name_quick tw10010936943081839664 for Manifest.find? by same_find
name_quick tw14073706353221006472 for Manifest.find? by same_find
name_quick tw15742981410569661332 for Manifest.find? by same_find
name_quick tw4636218855388986860 for Manifest.find? by same_find
name_quick tw18312937565365389666 for Manifest.find? by same_find
name_quick tw11636919720809706868 for Manifest.find? by same_find
name_quick tw10833955939284561965 for Manifest.find? by same_find
name_quick tw704327219915372674 for Manifest.find? by same_find
name_quick tw6122645084068987007 for Manifest.find? by same_find
name_quick tw721709456127091705 for Manifest.find? by same_find
name_quick tw17964007177503468958 for Manifest.find? by same_find
name_quick tw13215998728584607739 for Manifest.find? by same_find
name_quick tw183835017167291270 for Manifest.find? by same_find
name_quick tw313226197891681235 for Manifest.find? by same_find
name_quick tw9564595351457756722 for Manifest.find? by same_find
name_quick tw14891183629231038608 for Manifest.find? by same_find
name_quick tw11420187438672877268 for Manifest.find? by same_find
name_quick tw15263041282635125899 for Manifest.find? by same_find
name_quick tw14884601019740666482 for Manifest.find? by same_find
name_quick tw9011979029575296479 for Manifest.find? by same_find
name_quick tw1617757218408452269 for Manifest.find? by same_find
name_quick tw12290603225136948437 for Manifest.find? by same_find
name_quick tw7198390536060210744 for Manifest.find? by same_find
name_quick tw14223099787259518943 for Manifest.find? by same_find
name_quick tw11543547407058413889 for Manifest.find? by same_find
name_quick tw3698559305507148144 for Manifest.find? by same_find
name_quick tw10948738476641704880 for Manifest.find? by same_find
name_quick tw2719445374943340272 for Manifest.find? by same_find
name_quick tw9908251947323293946 for Manifest.find? by same_find
name_quick tw14333388528381170442 for Manifest.find? by same_find
name_quick tw3105397867545767578 for Manifest.find? by same_find
name_quick tw11333186260410459676 for Manifest.find? by same_find
name_quick tw10881846856767400648 for Manifest.find? by same_find
name_quick tw12392613427281201732 for Manifest.find? by same_find
name_quick tw9458956999447867950 for Manifest.find? by same_find
name_quick tw12233582284571471492 for Manifest.find? by same_find
name_quick tw5978237884098788730 for Manifest.find? by same_find
name_quick tw16414604833108395602 for Manifest.find? by same_find
name_quick tw8098380416015320538 for Manifest.find? by same_find
name_quick tw15066959818950650227 for Manifest.find? by same_find
name_quick tw7650934615059315214 for Manifest.find? by same_find
name_quick tw1258717718454355964 for Manifest.find? by same_find
name_quick tw7401281599722004195 for Manifest.find? by same_find
name_quick tw3129706707597842070 for Manifest.find? by same_find
name_quick tw17018628822417861297 for Manifest.find? by same_find
name_quick tw17846936440860909165 for Manifest.find? by same_find
name_quick tw2478078296215019888 for Manifest.find? by same_find
name_quick tw15475462885187679331 for Manifest.find? by same_find
name_quick tw18211773271919218964 for Manifest.find? by same_find
name_quick tw11277716924127702174 for Manifest.find? by same_find
name_quick tw4292500188555128830 for Manifest.find? by same_find
name_quick tw8206430501311747189 for Manifest.find? by same_find
name_quick tw6245536207120538393 for Manifest.find? by same_find
name_quick tw15919542637913265678 for Manifest.find? by same_find
name_quick tw3282434896037501709 for Manifest.find? by same_find
name_quick tw16145008321745377990 for Manifest.find? by same_find
name_quick tw5770868932273138760 for Manifest.find? by same_find
name_quick tw1377046205977697930 for Manifest.find? by same_find
name_quick tw17279654841073493023 for Manifest.find? by same_find
name_quick tw9931943479562821362 for Manifest.find? by same_find
name_quick tw10317580896714288900 for Manifest.find? by same_find
name_quick tw16548257151911338427 for Manifest.find? by same_find
name_quick tw10205541121877940668 for Manifest.find? by same_find
name_quick tw2509020472811716534 for Manifest.find? by same_find
name_quick tw6004533443673955352 for Manifest.find? by same_find
name_quick tw2664551874359636763 for Manifest.find? by same_find
name_quick tw17111948838632640456 for Manifest.find? by same_find
name_quick tw10007627690174824804 for Manifest.find? by same_find
name_quick tw9285146279643344392 for Manifest.find? by same_find
name_quick tw460243522976405022 for Manifest.find? by same_find
name_quick tw2670528217467546775 for Manifest.find? by same_find
name_quick tw3039592710220408265 for Manifest.find? by same_find
name_quick tw12237943961548833269 for Manifest.find? by same_find
name_quick tw10942035263794033107 for Manifest.find? by same_find
name_quick tw12150249912526168084 for Manifest.find? by same_find
name_quick tw11588390666370768167 for Manifest.find? by same_find
name_quick tw11853533878840232495 for Manifest.find? by same_find
name_quick tw6193413162297111351 for Manifest.find? by same_find
name_quick tw6683783046931543321 for Manifest.find? by same_find
name_quick tw15766043655864335149 for Manifest.find? by same_find
name_quick tw14168537005229113720 for Manifest.find? by same_find
name_quick tw15007238320947547705 for Manifest.find? by same_find
name_quick tw18345786424863182364 for Manifest.find? by same_find
name_quick tw4302124980754421698 for Manifest.find? by same_find
name_quick tw11013792430000457035 for Manifest.find? by same_find
name_quick tw10314498396905981064 for Manifest.find? by same_find
name_quick tw14326252917377295143 for Manifest.find? by same_find
name_quick tw10323183001455561277 for Manifest.find? by same_find
name_quick tw17100903815162463580 for Manifest.find? by same_find
name_quick tw4933834842325187142 for Manifest.find? by same_find
name_quick tw4980102563643897964 for Manifest.find? by same_find
name_quick tw9594665118957945026 for Manifest.find? by same_find
name_quick tw7299951869573292228 for Manifest.find? by same_find
name_quick tw4679858250743294509 for Manifest.find? by same_find
name_quick tw10364871936736126669 for Manifest.find? by same_find
name_quick tw12850107946570832962 for Manifest.find? by same_find
name_quick tw15663404670287596823 for Manifest.find? by same_find
name_quick tw7745614565497352828 for Manifest.find? by same_find
name_quick tw117213463901210413 for Manifest.find? by same_find
name_quick tw5135500740108067664 for Manifest.find? by same_find
set_option maxRecDepth 100000 in
set_option maxHeartbeats 8000000 in
open_top hd for PySem.Challenge.rw_pb0245_01
theorem fill_once : (hd.heap_39, Challenge.rw_pb0245_01) = (hd.heap_39, Challenge.rw_pb0245_01) := by k_fill; rfl
section T_B0
open PySem PySem.W PyProof.Rows PySem.Calls PySem.Spec
noncomputable abbrev lso : List Str := looseW hd.view_39 [Str.ofString "LedgerError", Str.ofString "Occurs", Str.ofString "ref_faults"]
noncomputable abbrev PR : Program := Challenge.rw_pb0245_01.row.prog

/-- what stands at every call of the text's own -/
structure Amb (w : World) (A : Around) (base : Heap) (outer : List Env) (mean : ExcName → Option Value) (mg mb : Str → Option Value) (h : Heap) (n : Nat) : Prop where
  X : (hd.heap_39 w.params).In h
  T : Top hd.view_39 lso mean mg mb h
  B : Below A base outer h
  depth : A.depth + n < recursionLimit
  units : A.units + 8 * n < cLine

section
variable {w : World} {A : Around} {base : Heap} {outer : List Env} {mean : ExcName → Option Value} {mg mb : Str → Option Value} {s : Shared} {n : Nat} {R : Result → Shared → Prop}

theorem Amb.down {h : Heap} {k : Nat} (M : Amb w A base outer mean mg mb h n) (hk : k ≤ n) : Amb w A base outer mean mg mb h k :=
  ⟨M.X, M.T, M.B, by have := M.depth; omega, by have := M.units; omega⟩

theorem Amb.inn {h₀ h : Heap} {L f : Addr} {m : Str → Option Value} {qual : Str} {scope : Scope} {cdv : Value} (M : Amb w A base outer mean mg mb h₀ (n + 1)) (F : Fr h₀ L h m) (hk : scope.kind = .function := by rfl) :
    Amb w (A.deeper (envOf qual scope L f cdv)) base (envOf qual scope L f cdv :: outer) mean mg mb h n :=
  ⟨M.X.keeps F.keep, M.T.keeps F.keep, M.B.push F hk, by have := M.depth; show A.depth + 1 + n < _; omega, by have := M.units; show A.units + 3 + 8 * n < _; omega⟩

theorem enter {name qual : Str} {params : Arguments} {body : List Stmt} {scope : Scope} {dV kV doc pm cdv ct oc : Value} {an od : Option Addr} {osl : Array (Option Value)} {f : Addr} {args : Args} {rb : List (Str × Value)}
    (M : Amb w A base outer mean mg mb s.heap (n + 1))
    (ho : (hd.heap_39 w.params).lookup f = some ⟨oc, od, .func (fnOf name qual params body scope dV kV doc pm an cdv ct), osl⟩) (hcd : codeIn (hd.heap_39 w.params) cdv qual = true)
    (hbind : BindsTo s (fnOf name qual params body scope dV kV doc pm an cdv ct) args rb.reverse) (hloc : ∀ y ∈ rb.reverse, scope.names.lookup y.1 = some .local)
    (hcell : ∀ x ∈ scope.names, x.2 ≠ .cell)
    (h : ∀ L h₁ tk, L = s.heap.objs.size → Fr s.heap L h₁ (fun y => rb.lookup y) → News s.heap L h₁ [] →
      wpAny (model PR w) (A.deeper (envOf qual scope L f cdv)) (execs body (envOf qual scope L f cdv))
        (fun fl s' => R (.ok (.ret (match fl with | .ret v => v | _ => .none))) s')
        (fun e s' => wpAny (model PR w) (A.deeper (envOf qual scope L f cdv)) (leaving (envOf qual scope L f cdv) e) (fun _ s'' => R (.error e) s'') (fun e' s'' => R (.error e') s'') s')
        { s with heap := h₁, toks := tk })
    (hco : scope.isCoroutine = false := by rfl) (hgen : scope.isGenerator = false := by rfl) (hk : scope.kind = .function := by rfl) :
    codeAny (model PR w) A (.call (.ref f) args) R s := by
  refine codeAny_call_def (fd := fnOf name qual params body scope dV kV doc pm an cdv ct) (body := body) (binds := rb.reverse) (by have := M.depth; omega) (M.X _ _ ho) rfl M.T.nolimit (codeRec_of M.X hcd) rfl hbind hcell hloc (fun h₁ hns hk₁ => ?_) hco hgen hk
  exact h _ h₁ _ rfl ⟨by rw [List.reverse_reverse] at hns; exact hns, fun b o e => hk₁ b o e, Nat.le_refl _⟩ News.nil
end
end T_B0
section T_H0
open PySem PySem.W PyProof.Rows PySem.Calls PySem.Spec

/-- e's context is e' -/
noncomputable def Lnk (g : Heap) (e : Addr) (c : Value) : Prop := ∃ oe vs, g.get? e = some oe ∧ oe.data = .fields vs ∧ vs[2]? = some c
inductive Chain (g : Heap) : Addr → Prop
  | last {e : Addr} : Lnk g e .none → Chain g e
  | next {e e' : Addr} : Lnk g e (.ref e') → Chain g e' → Chain g e
inductive Rch (g : Heap) : Addr → Addr → Prop
  | refl {e : Addr} : Rch g e e
  | head {a b c : Addr} : Lnk g a (.ref b) → Rch g b c → Rch g a c
theorem Rch.snoc {g : Heap} {a b c : Addr} (h : Rch g a b) (l : Lnk g b (.ref c)) : Rch g a c := by
  induction h with
  | refl => exact .head l .refl
  | head l' _ ih => exact .head l' (ih l)
theorem Lnk.keeps {g h : Heap} {e : Addr} {c : Value} (l : Lnk g e c) (k : ∀ b o, g.get? b = some o → h.get? b = some o) : Lnk h e c := by
  obtain ⟨oe, vs, h1, h2, h3⟩ := l; exact ⟨oe, vs, k _ _ h1, h2, h3⟩
theorem Chain.keeps {g h : Heap} {e : Addr} (c : Chain g e) (k : ∀ b o, g.get? b = some o → h.get? b = some o) : Chain h e := by
  induction c with
  | last l => exact .last (l.keeps k)
  | next l _ ih => exact .next (l.keeps k) ih
theorem Lnk.alive {g : Heap} {e : Addr} {c : Value} (l : Lnk g e c) : ∃ o, g.get? e = some o := by
  obtain ⟨oe, vs, h1, _⟩ := l; exact ⟨oe, h1⟩
theorem Chain.alive {g : Heap} {e : Addr} (c : Chain g e) : ∃ o, g.get? e = some o := by
  cases c with
  | last l => exact l.alive
  | next l _ => exact l.alive

/-- the exception that is being handled (if one is) ends a sound chain of contexts -/
noncomputable def HOK (A : Around) (g : Heap) : Prop := ∀ v, A.handled = some v → ∃ e, v = .ref e ∧ Chain g e
theorem HOK.keeps {A : Around} {g h : Heap} (c : HOK A g) (k : ∀ b o, g.get? b = some o → h.get? b = some o) : HOK A h := fun v hv => by
  obtain ⟨e, r, c⟩ := c v hv; exact ⟨e, r, c.keeps k⟩
theorem HOK.none {A : Around} {g : Heap} (h : A.handled = none) : HOK A g := fun v hv => by rw [h] at hv; cases hv

theorem entry_unchain : entryFor table "proto.unchain" = some Builtin.«proto.unchain» := entryFor_of_fast (by kernel_rfl)

section
variable {w : World} {prog : Program} {A : Around} {E : Value → Shared → Prop} {s : Shared}
theorem plain_unchain : plainId "proto.unchain" = true := by decide +kernel
theorem wpAny_fieldL {e : Addr} {c : Value} {Q : Value → Shared → Prop} (l : Lnk s.heap e c) (h : Q c s) : wpAny (model prog w) A (field (.ref e) 2) Q E s := by
  obtain ⟨oe, vs, h1, h2, h3⟩ := l
  exact wpAny_field h1 h2 h3 h
theorem code_unchain {g : Heap} {a : Addr} {R : Result → Shared → Prop} {o : Addr} (hk : ∀ b o, g.get? b = some o → s.heap.get? b = some o) (hg : g.get? a = none) (c : Chain g o) (hR : R (.ok (.ret .none)) s) : ∀ {slow : Addr} {tg : Bool} {A : Around}, Rch g slow o →
    codeAny (model prog w) A (.builtin "proto.unchain" ⟨[.ref a, .ref o, .ref slow, .bool tg], []⟩) R s := by
  induction c with
  | last l =>
    intro slow tg A hr
    refine codeAny_builtin entry_unchain ?_
    show wpAny _ _ (field (.ref _) 2 >>= _) _ _ s
    refine wpAny_bind (wpAny_fieldL (l.keeps hk) ?_)

    exact wpAny_pure hR
  | @next e e' l c ih =>
    intro slow tg A hr
    refine codeAny_builtin entry_unchain ?_
    show wpAny _ _ (field (.ref _) 2 >>= _) _ _ s
    refine wpAny_bind (wpAny_fieldL (l.keeps hk) ?_)
    have hne : e' ≠ a := by
      rintro rfl
      obtain ⟨o, q⟩ := c.alive
      rw [hg] at q; cases q
    have h1 : (Value.ref e' == Value.none) = false := by simp
    have h2 : (Value.ref e' == Value.ref a) = false := by simp [hne]
    simp only [h1, h2, Bool.false_eq_true, if_false]
    by_cases h3 : e' = slow
    · subst h3
      rw [if_pos (BEq.rfl)]
      refine wpAny_bind (wpAny_rule ?_)
      exact wpAny_pure hR
    · have h4 : (Value.ref e' == Value.ref slow) = false := by simp [h3]
      rw [if_neg (by rw [h4]; exact Bool.false_ne_true)]
      cases tg with
      | false =>

        refine wpAny_bind ?_
        refine wpAny_pure ?_
        exact wpAny_pure ⟨plainId_quiet plain_unchain _, ih (hr.snoc l)⟩
      | true =>

        cases hr with
        | refl =>
          refine wpAny_bind (wpAny_fieldL (l.keeps hk) ?_)
          exact wpAny_pure ⟨plainId_quiet plain_unchain _, ih .refl⟩
        | head l' hr' =>
          refine wpAny_bind (wpAny_fieldL (l'.keeps hk) ?_)
          exact wpAny_pure ⟨plainId_quiet plain_unchain _, ih (hr'.snoc l)⟩

/-- a new exception is raised, whatever is being handled: its context is laid -/
theorem wpAny_raiseNewH {α : Type} {a : Addr} {oa : Obj} {vs : Array Value} {Q : α → Shared → Prop} {g : Heap} (H : HOK A g) (hk : ∀ b o, g.get? b = some o → s.heap.get? b = some o) (hg : g.get? a = none)
    (ho : s.heap.get? a = some oa) (hd : oa.data = .fields vs) (hsz : 2 < vs.size)
    (hE : ∀ h', (∀ b, b ≠ a → h'.get? b = s.heap.get? b) → (h'.get? a = some oa ∨ ∃ c, A.handled = some c ∧ h'.get? a = some (Obj.mapFields (·.setIfInBounds 2 c) oa)) → h'.objs.size = s.heap.objs.size → E (.ref a) { s with heap := h' }) :
    wpAny (model prog w) A (raiseNew (.ref a) : Sem α) Q E s := by
  dsimp only [raiseNew]
  refine wpAny_bind (wpAny_handled ?_)
  cases hA : A.handled with
  | none =>
    refine wpAny_bind (wpAny_pure (wpAny_throw ?_))
    exact hE _ (fun _ _ => rfl) (.inl ho) rfl
  | some v =>
    obtain ⟨e, rfl, c⟩ := H v hA
    have hne : e ≠ a := by
      rintro rfl
      obtain ⟨o, q⟩ := c.alive
      rw [hg] at q; cases q
    have h1 : (Value.ref e != Value.ref a) = true := by simp [hne]
    simp only [h1, if_true]
    refine wpAny_bind (wpAny_holding (wpAny_runValue (code_unchain hk hg c ?_ .refl)))

    refine wpAny_bind ?_
    refine wpAny_bind (wpAny_load ho ?_)
    rw [hd]
    dsimp only
    rw [if_pos hsz]
    refine wpAny_update ho (wpAny_throw ?_)
    exact hE _ (fun b hb => Heap.get?_update_other _ _ (Ne.symm hb)) (.inr ⟨_, hA, Heap.get?_update_self _ ho (Obj.isFreed_of_fields (Obj.data_mapFields hd _))⟩) (Heap.size_update ..)
end
end T_H0
section T_H1
open PySem PySem.W PyProof.Rows PySem.Calls PySem.Spec
section
variable {w : World} {prog : Program} {A : Around} {E : Value → Shared → Prop} {s : Shared}

theorem none_past {h : Heap} {a : Addr} (ha : h.objs.size ≤ a) : h.get? a = none := by
  cases e : h.get? a with
  | none => rfl
  | some o => exact absurd (Heap.lt_size e) (Nat.not_lt.mpr ha)

/-- the end of an iterator, whatever is being handled -/
theorem wpAny_stopH {α : Type} {Q : α → Shared → Prop} {g : Heap} (H : HOK A g) (hk : ∀ b o, g.get? b = some o → s.heap.get? b = some o)
    (hE : ∀ e h', (∀ b o, s.heap.get? b = some o → h'.get? b = some o) → (∃ o, h'.get? e = some o ∧ o.cls = .type "StopIteration") → E (.ref e) { s with heap := h' }) :
    wpAny (model prog w) A (newExc (.type "StopIteration") [] >>= fun e => (raiseNew e : Sem α)) Q E s := by
  refine wpAny_bind ?_

  refine wpAny_bind (wpAny_newObj_type ?_ (by size_fits))
  refine wpAny_bind (m := firstArgMember _ _) (wpAny_of_eq (a := Value.none) (by first | rfl | (simp only [firstArgMember]; rfl)) ?_)
  refine wpAny_newObj_type ?_ (by size_fits)
  have hfresh : ∀ o₁ o₂, ∀ b o, s.heap.get? b = some o → ((s.heap.push o₁).push o₂).get? b = some o := fun _ _ b o e => Heap.get?_push_of_some _ (Heap.get?_push_of_some _ e)
  refine wpAny_raiseNewH (g := g) H (fun b o e => hfresh _ _ b o (hk b o e)) ?_ (Heap.get?_push_size _ rfl) rfl (by simp; omega) ?_
  · cases e : g.get? (s.heap.push { cls := Value.type "tuple", dict := none, data := Data.seq [].toArray }).objs.size with
    | none => rfl
    | some o => have := hk _ _ e; rw [none_past (by rw [Heap.size_push]; exact Nat.le_succ _)] at this; cases this
  · intro h' h1 h2 _
    refine hE _ h' (fun b o e => ?_) ?_
    · have hb : b ≠ (s.heap.push { cls := Value.type "tuple", dict := none, data := Data.seq [].toArray }).objs.size := by
        rw [Heap.size_push]; exact Nat.ne_of_lt (Nat.lt_succ_of_lt (Heap.lt_size e))
      rw [h1 b hb]; exact hfresh _ _ b o e
    · rcases h2 with h2 | ⟨c, _, h2⟩
      · exact ⟨_, h2, rfl⟩
      · exact ⟨_, h2, rfl⟩

theorem wpAny_next_list_endH {it l : Addr} {i : Nat} {items} {Q : Option Value → Shared → Prop} {g : Heap} (H : HOK A g) (hgi : g.get? it = none) (hk : ∀ b o, g.get? b = some o → s.heap.get? b = some o)
    (hit : s.heap.IsListIter it l i) (hl : s.heap.IsList l items) (hx : items[i]? = none)
    (hQ : ∀ h', Heap.ExtBut it s.heap h' → Q none { s with heap := h' }) : wpAny (model prog w) A (pyNext (.ref it)) Q E s := by
  obtain ⟨o, ho, hc, hd⟩ := id hit
  obtain ⟨ol, hol, _, nl, hdl⟩ := hl
  unfold pyNext
  refine wpAny_bind (wpAny_attempt (wpAny_callSpecial?_slot (name := Str.ofString "__next__") hit.typeIs slot_listiter_next
    (wpAny_call_entry slot_listiter_next hit.typeIs entry_listiter_next ?_ (args_listiter_next _))))
  show wpAny _ _ (field (.ref it) 0 >>= _) _ _ s
  refine wpAny_bind (wpAny_field ho hd (x := .ref l) rfl ?_)
  show wpAny _ _ (if (Value.ref l == Value.none) = true then _ else _) _ _ s
  rw [if_neg (show ¬ ((Value.ref l == Value.none) = true) from Bool.false_ne_true)]
  show wpAny _ _ (field (.ref it) 1 >>= _) _ _ s
  refine wpAny_bind (wpAny_field ho hd (x := .int i 0) rfl ?_)
  show wpAny _ _ (seqItems? (.ref l) >>= _) _ _ s
  refine wpAny_bind (wpAny_seqItems hol hdl ?_)
  simp only [Int.toNat_natCast, hx]
  refine wpAny_bind (wpAny_rule (wpAny_bind (wpAny_setField ho hd (by simp) ?_)))
  refine wpAny_stopH (g := g) (A := A.in1) H (fun b o e => ?_) ?_
  · exact (Heap.get?_update_other _ _ (fun q => by rw [← q, hgi] at e; cases e)).trans (hk b o e)
  · intro e h' hk' ⟨oe, he, hce⟩
    refine wpAny_bind (wpAny_isInstance (T := "StopIteration") (b := true) ⟨oe, he, hce⟩ isSubtype_stop ?_)
    exact wpAny_pure (hQ _ fun b o hb e => hk' b o ((Heap.get?_update_other _ _ (Ne.symm hb)).trans e))

theorem wpAny_next_tuple_endH {it l : Addr} {i : Nat} {items} {Q : Option Value → Shared → Prop} {g : Heap} (H : HOK A g) (hgi : g.get? it = none) (hk : ∀ b o, g.get? b = some o → s.heap.get? b = some o)
    (hit : s.heap.IsTupleIter it l i) (hl : s.heap.IsTuple l items) (hx : items[i]? = none)
    (hQ : ∀ h', Heap.ExtBut it s.heap h' → Q none { s with heap := h' }) : wpAny (model prog w) A (pyNext (.ref it)) Q E s := by
  obtain ⟨o, ho, hc, hd⟩ := id hit
  obtain ⟨ol, hol, _, nl, hdl⟩ := hl
  unfold pyNext
  refine wpAny_bind (wpAny_attempt (wpAny_callSpecial?_slot (name := Str.ofString "__next__") hit.typeIs F.slot_tuple_iterator_next
    (wpAny_call_entry F.slot_tuple_iterator_next hit.typeIs F.entry_tuple_iterator_next ?_ (F.args_tuple_iterator_next_1 _))))
  show wpAny _ _ (field (.ref it) 0 >>= _) _ _ s
  refine wpAny_bind (wpAny_field ho hd (x := .ref l) rfl ?_)
  show wpAny _ _ (if (Value.ref l == Value.none) = true then _ else _) _ _ s
  rw [if_neg (show ¬ ((Value.ref l == Value.none) = true) from Bool.false_ne_true)]
  show wpAny _ _ (field (.ref it) 1 >>= _) _ _ s
  refine wpAny_bind (wpAny_field ho hd (x := .int i 0) rfl ?_)
  show wpAny _ _ (seqItems? (.ref l) >>= _) _ _ s
  refine wpAny_bind (wpAny_seqItems hol hdl ?_)
  simp only [Int.toNat_natCast, hx]
  refine wpAny_bind (wpAny_rule (wpAny_bind (wpAny_setField ho hd (by simp) ?_)))
  refine wpAny_stopH (g := g) (A := A.in1) H (fun b o e => ?_) ?_
  · exact (Heap.get?_update_other _ _ (fun q => by rw [← q, hgi] at e; cases e)).trans (hk b o e)
  · intro e h' hk' ⟨oe, he, hce⟩
    refine wpAny_bind (wpAny_isInstance (T := "StopIteration") (b := true) ⟨oe, he, hce⟩ isSubtype_stop ?_)
    exact wpAny_pure (hQ _ fun b o hb e => hk' b o ((Heap.get?_update_other _ _ (Ne.symm hb)).trans e))
end
end T_H1
section T_H2
open PySem PySem.W PyProof.Rows PySem.Calls PySem.Spec

inductive ChainL (h : Heap) : Addr → List Addr → Prop
  | last {e : Addr} : Lnk h e .none → ChainL h e [e]
  | next {e e' : Addr} {l : List Addr} : Lnk h e (.ref e') → ChainL h e' l → ChainL h e (e :: l)
theorem Lnk.at {g h : Heap} {e : Addr} {c : Value} (l : Lnk g e c) (k : ∀ o, g.get? e = some o → h.get? e = some o) : Lnk h e c := by
  obtain ⟨oe, vs, h1, h2, h3⟩ := l; exact ⟨oe, vs, k _ h1, h2, h3⟩
theorem ChainL.at {g h : Heap} {e : Addr} {cl : List Addr} (c : ChainL g e cl) (k : ∀ b ∈ cl, ∀ o, g.get? b = some o → h.get? b = some o) : ChainL h e cl := by
  induction c with
  | last l => exact .last (l.at (k _ (.head _)))
  | next l _ ih => exact .next (l.at (k _ (.head _))) (ih fun b hb => k b (.tail _ hb))
theorem ChainL.chain {g : Heap} {e : Addr} {cl : List Addr} (c : ChainL g e cl) : Chain g e := by
  induction c with
  | last l => exact .last l
  | next l _ ih => exact .next l ih
theorem Chain.list {g : Heap} {e : Addr} (c : Chain g e) : ∃ cl, ChainL g e cl := by
  induction c with
  | last l => exact ⟨_, .last l⟩
  | next l _ ih => obtain ⟨cl, h⟩ := ih; exact ⟨_, .next l h⟩
theorem ChainL.alive {g : Heap} {e : Addr} {cl : List Addr} (c : ChainL g e cl) : ∀ b ∈ cl, ∃ o, g.get? b = some o := by
  induction c with
  | last l => intro b hb; rw [List.mem_singleton.mp hb]; exact l.alive
  | next l _ ih => intro b hb; cases hb with | head => exact l.alive | tail _ hb => exact ih b hb

noncomputable def HOKL (A : Around) (h : Heap) (cl : List Addr) : Prop := (∀ b ∈ cl, ∃ o, h.get? b = some o) ∧ ∀ v, A.handled = some v → ∃ e, v = .ref e ∧ ChainL h e cl
theorem HOK.list {A : Around} {g : Heap} (H : HOK A g) : ∃ cl, HOKL A g cl := by
  cases e : A.handled with
  | none => exact ⟨[], ⟨fun b hb => (by cases hb), fun v hv => by rw [e] at hv; cases hv⟩⟩
  | some v =>
    obtain ⟨a, rfl, c⟩ := H v e
    obtain ⟨cl, c⟩ := c.list
    exact ⟨cl, ⟨c.alive, fun v hv => by rw [e] at hv; cases hv; exact ⟨a, rfl, c⟩⟩⟩
theorem HOKL.at {A : Around} {g h : Heap} {cl : List Addr} (H : HOKL A g cl) (k : ∀ b ∈ cl, ∀ o, g.get? b = some o → h.get? b = some o) : HOKL A h cl := by
  refine ⟨fun b hb => ?_, fun v hv => ?_⟩
  · obtain ⟨o, e⟩ := H.1 b hb; exact ⟨o, k b hb o e⟩
  · obtain ⟨e, r, c⟩ := H.2 v hv; exact ⟨e, r, c.at k⟩
theorem HOKL.hok {A : Around} {g : Heap} {cl : List Addr} (H : HOKL A g cl) : HOK A g := fun v hv => by
  obtain ⟨e, r, c⟩ := H.2 v hv; exact ⟨e, r, c.chain⟩
/-- the chain lies off the iterator -/
theorem HOKL.hide {A : Around} {g : Heap} {cl : List Addr} {it : Addr} (H : HOKL A g cl) (hn : ∀ b ∈ cl, b ≠ it) : HOK A (g.hide it) :=
  (H.at fun b hb o e => (Heap.hide_ne g (hn b hb)).trans e).hok

section
variable {w : World} {prog : Program} {A : Around} {E : Value → Shared → Prop} {s : Shared}
theorem Walks.listH {cl : List Addr} (I ax : Addr) (hne : ax ≠ I) (hcl : ∀ b ∈ cl, b ≠ I) (items : Array Value) :
    Walks prog w A I (I :: ax :: cl) [I] items.size (fun i v => items[i]? = some v) (fun i h => (h.IsListIter I ax i ∧ h.IsList ax items) ∧ HOKL A h cl) where
  sub := fun b hb => by simp at hb; simp [hb]
  frame := fun _ _ _ st hk => ⟨⟨st.1.1.at fun o e => hk I (by simp) o e, st.1.2.at fun o e => hk ax (by simp) o e⟩, st.2.at fun b hb o e => hk b (by simp [hb]) o e⟩
  item := fun i s Q E hi st hQ => by
    refine wpAny_pyNext_list_item st.1.1 st.1.2 (x := items[i]) (by simp [hi]) fun h' hit' hs' => ?_
    exact hQ _ h' s.toks (by simp [hi]) ⟨⟨hit', st.1.2.extBut hs'.extBut hne⟩, st.2.at fun b hb o e => hs'.extBut b o (hcl b hb) e⟩ fun b o hb e => hs'.extBut b o (fun h => hb (by simp [h])) e
  done := fun s Q E st hQ => wpAny_next_list_endH (st.2.hide hcl) (Heap.hide_self ..) (fun b o e => Heap.of_hide e) st.1.1 st.1.2 (by simp) fun h' he' => hQ h' s.toks fun b o hb e => he' b o (fun h => hb (by simp [h])) e
  self := fun _ _ _ _ st hQ => wpAny_pyIter_listiter st.1.1 hQ
theorem Walks.tupleH {cl : List Addr} (I ax : Addr) (hne : ax ≠ I) (hcl : ∀ b ∈ cl, b ≠ I) (items : Array Value) :
    Walks prog w A I (I :: ax :: cl) [I] items.size (fun i v => items[i]? = some v) (fun i h => (h.IsTupleIter I ax i ∧ h.IsTuple ax items) ∧ HOKL A h cl) where
  sub := fun b hb => by simp at hb; simp [hb]
  frame := fun _ _ _ st hk => ⟨⟨st.1.1.at fun o e => hk I (by simp) o e, st.1.2.at fun o e => hk ax (by simp) o e⟩, st.2.at fun b hb o e => hk b (by simp [hb]) o e⟩
  item := fun i s Q E hi st hQ => by
    refine wpAny_pyNext_tuple_item st.1.1 st.1.2 (x := items[i]) (by simp [hi]) fun h' hit' hs' => ?_
    exact hQ _ h' s.toks (by simp [hi]) ⟨⟨hit', st.1.2.extBut hs'.extBut hne⟩, st.2.at fun b hb o e => hs'.extBut b o (hcl b hb) e⟩ fun b o hb e => hs'.extBut b o (fun h => hb (by simp [h])) e
  done := fun s Q E st hQ => wpAny_next_tuple_endH (st.2.hide hcl) (Heap.hide_self ..) (fun b o e => Heap.of_hide e) st.1.1 st.1.2 (by simp) fun h' he' => hQ h' s.toks fun b o hb e => he' b o (fun h => hb (by simp [h])) e
  self := fun _ _ _ _ st hQ => wpAny_pyIter_tupleiter st.1.1 hQ

theorem wpAny_next_dict_endH {K : Type} [DecidableEq K] {knd : KeyKind prog w K} {it d : Addr} {i ep : Nat} {kvs : List (K × Value)} {Q : Option Value → Shared → Prop} {g : Heap} (H : HOK A g) (hgi : g.get? it = none) (hk : ∀ b o, g.get? b = some o → s.heap.get? b = some o)
    (hit : s.heap.IsKeyIter it d i kvs.length ep) (hm : s.heap.DictAt knd d kvs ep) (hx : kvs[i]? = none)
    (hQ : ∀ h', Heap.ExtBut it s.heap h' → Q none { s with heap := h' }) : wpAny (model prog w) A (pyNext (.ref it)) Q E s := by
  obtain ⟨o, ho, hc, hd⟩ := id hit
  obtain ⟨od, es, hod, hcd, hdd, hk', hp, hn⟩ := id hm
  unfold pyNext
  refine wpAny_bind (wpAny_attempt (wpAny_callSpecial?_slot (name := Str.ofString "__next__") hit.typeIs F.slot_dict_keyiterator_next
    (wpAny_call_entry F.slot_dict_keyiterator_next hit.typeIs F.entry_dict_keyiterator_next ?_ (F.args_dict_keyiterator_next_1 _))))
  refine wpAny_bind (wpAny_pure ?_)
  refine wpAny_bind ?_
  refine wpAny_bind ?_
  first | refine wpAny_bind (wpAny_typeNameOfWhole_keyiter hit.typeIs (wpAny_pure ?_)) | refine wpAny_bind (wpAny_typeNameOf_keyiter hit.typeIs (wpAny_pure ?_))
  refine wpAny_bind (wpAny_fieldsOf ho hd ?_)
  have hown : Builtin.Dict_items.ownsTuple "dict_keyiterator" = false := by decide
  rw [if_neg (show ¬ (Builtin.Dict_items.ownsTuple "dict_keyiterator" = true) from by rw [hown]; exact Bool.false_ne_true)]
  show wpAny _ _ (if (Value.ref d == Value.none) = true then _ else _) _ _ s
  rw [if_neg (show ¬ ((Value.ref d == Value.none) = true) from Bool.false_ne_true)]
  refine wpAny_bind (wpAny_pure ?_)
  refine wpAny_bind (wpAny_dictEntries hod hdd ?_)
  have hsz : es.size = kvs.length := by rw [← hp.length]; simp
  rw [if_neg (by rw [hsz]; simp)]
  refine wpAny_bind (wpAny_pure ?_)
  refine wpAny_bind (wpAny_dictEpoch hod hdd ?_)
  rw [if_neg (by simp)]
  refine wpAny_pure ?_
  have hge : es.size ≤ i := by rw [hsz]; simpa using hx
  simp only [show ¬ ((i : Int) < 0) from by omega, if_false, Int.toNat_natCast, Array.getElem?_eq_none hge]
  refine wpAny_bind ?_
  first | refine wpAny_bind (wpAny_typeNameOfWhole_keyiter hit.typeIs (wpAny_pure ?_)) | refine wpAny_bind (wpAny_typeNameOf_keyiter hit.typeIs (wpAny_pure ?_))
  show wpAny _ _ (setField (.ref it) 0 .none >>= _) _ _ s
  refine wpAny_bind (wpAny_setField ho hd (by simp) ?_)
  refine wpAny_stopH (g := g) (A := A.in1) H (fun b o e => ?_) ?_
  · exact (Heap.get?_update_other _ _ (fun q => by rw [← q, hgi] at e; cases e)).trans (hk b o e)
  · intro e h' hk' ⟨oe, he, hce⟩
    refine wpAny_bind (wpAny_isInstance (T := "StopIteration") (b := true) ⟨oe, he, hce⟩ isSubtype_stop ?_)
    exact wpAny_pure (hQ _ fun b o hb e => hk' b o ((Heap.get?_update_other _ _ (Ne.symm hb)).trans e))
theorem Walks.dictKeysH {K : Type} [DecidableEq K] {knd : KeyKind prog w K} {cl : List Addr} (I d : Addr) (hne : d ≠ I) (hcl : ∀ b ∈ cl, b ≠ I) (kvs : List (K × Value)) (ep : Nat) :
    Walks prog w A I (I :: d :: cl) [I] kvs.length (fun i v => ∃ k x, kvs[i]? = some (k, x) ∧ knd.is k v = true) (fun i h => (h.IsKeyIter I d i kvs.length ep ∧ h.DictAt knd d kvs ep) ∧ HOKL A h cl) where
  sub := fun b hb => by simp at hb; simp [hb]
  frame := fun _ _ _ st hk => ⟨⟨st.1.1.at fun o e => hk I (by simp) o e, st.1.2.at' fun o e => hk d (by simp) o e⟩, st.2.at fun b hb o e => hk b (by simp [hb]) o e⟩
  item := fun i s Q E hi st hQ => by
    obtain ⟨⟨k, x⟩, hx⟩ : ∃ p, kvs[i]? = some p := ⟨kvs[i], by simp [hi]⟩
    refine wpAny_pyNext_dict_item st.1.1 st.1.2 hx fun key h' hkey hit' hs' => ?_
    exact hQ key h' s.toks ⟨k, x, hx, hkey⟩ ⟨⟨hit', st.1.2.extBut hs'.extBut hne⟩, st.2.at fun b hb o e => hs'.extBut b o (hcl b hb) e⟩ fun b o hb e => hs'.extBut b o (fun h => hb (by simp [h])) e
  done := fun s Q E st hQ => wpAny_next_dict_endH (st.2.hide hcl) (Heap.hide_self ..) (fun b o e => Heap.of_hide e) st.1.1 st.1.2 (by simp) fun h' he' => hQ h' s.toks fun b o hb e => he' b o (fun h => hb (by simp [h])) e
  self := fun _ _ _ _ st hQ => wpAny_pyIter_keyiter st.1.1 hQ
end
end T_H2
section T_H3
open PySem PySem.W PyProof.Rows PySem.Calls PySem.Spec
section
variable {w : World} {prog : Program} {A : Around} {E : Value → Shared → Prop} {s : Shared} {env : Env} {h₀ : Heap} {x : Str} {body : List Stmt} {Q : Flow → Shared → Prop}

/-- the loop over any iterator whose state lies in I, ax and the chain (which stands in the frame's ground) -/
theorem loopH {I ax : Addr} {cl : List Addr} {n : Nat} {P : Nat → Value → Prop} {St : Nat → Heap → Prop} {m₀ : Str → Option Value} {news : List (Addr × Obj)} (J : Nat → (Str → Option Value) → List (Addr × Obj) → Prop)
    (W : Walks prog w A I (I :: ax :: cl) [I] n P St) (hob : ∀ i h, St i h → (∃ o, h.get? ax = some o) ∧ ∃ o, h.get? I = some o) (hI : h₀.get? I = none) (hLI : env.locals ≠ I) (hLa : env.locals ≠ ax) (hLc : ∀ b ∈ cl, b ≠ env.locals) (hcl : ∀ b ∈ cl, ∃ o, h₀.get? b = some o)
    (hnI : ∀ p ∈ news, p.1 ≠ I) (hna : ∀ p ∈ news, p.1 ≠ ax) (hst : St 0 s.heap) (F : Fr h₀ env.locals s.heap m₀) (N : News h₀ env.locals s.heap news) (hj : J 0 m₀ news)
    (turn : ∀ i v m₁ nx h tk own, i < n → P i v → OwnOff own (nx.map (·.1)) → J i m₁ nx → Fr h₀ env.locals h (fun y => if y = x then some v else m₁ y) → News h₀ env.locals h (nx ++ own) →
      wpAny (model prog w) A (execs body env) (InvPostG h₀ env.locals (J (i + 1)) own { s with heap := h, toks := tk } Q) E { s with heap := h, toks := tk })
    (done : ∀ m₁ nx h tk, J n m₁ nx → Fr h₀ env.locals h m₁ → News h₀ env.locals h nx → Q .next { s with heap := h, toks := tk }) :
    LoopAtV prog w A h₀ env x body Q E (.ref I) s := by
  refine ⟨I, I :: ax :: cl, [I], n, P, St, m₀, news, fun i m nx => (∀ p ∈ nx, p.1 ≠ ax) ∧ J i m nx, rfl, W, ?_, ?_, ?_, hst, F, N, ⟨hna, hj⟩, ?_, ?_⟩
  · intro hm
    rcases List.mem_cons.mp hm with e | hm
    · exact hLI e
    · rcases List.mem_cons.mp hm with e | hm
      · exact hLa e
      · exact hLc _ hm rfl
  · intro b hb; rw [List.mem_singleton.mp hb]; exact hI
  · intro p hp hq; exact hnI p hp (List.mem_singleton.mp hq)
  · rintro i v m₁ news₁ s₁ own ⟨hh', tk', rfl⟩ hin hP ⟨hax, hJ⟩ hoff hown _ hmem hst' F₁ N₁
    have hsep : OwnOff own (news₁.map (·.1)) := by
      intro p hp b hb e
      obtain ⟨q, hq, rfl⟩ := List.mem_map.mp hb
      rcases List.mem_cons.mp (hown p hp) with h1 | h1
      · exact hoff q hq (List.mem_singleton.mpr (e ▸ h1))
      · rcases List.mem_cons.mp h1 with h1 | h1
        · exact hax q hq (e ▸ h1)
        · obtain ⟨o, ho⟩ := hcl _ h1
          have h3 := (N₁ q (List.mem_append.mpr (.inr hq))).2.2
          rw [← e, ho] at h3; cases h3
    have N₂ : News h₀ env.locals hh' (news₁ ++ own) := fun p hp => N₁ p ((List.mem_append.mp hp).elim (fun h => List.mem_append.mpr (.inr h)) fun h => List.mem_append.mpr (.inl h))
    refine wpAny_mono (turn i v m₁ news₁ hh' tk' own hin hP hsep hJ F₁ N₂) (fun f s₂ p => ?_) fun _ _ e => e
    have fin : InvEndG h₀ env.locals (J (i + 1)) own { s with heap := hh', toks := tk' } s₂ → LoopStepU h₀ env.locals [I] own (fun m nx => (∀ p ∈ nx, p.1 ≠ ax) ∧ J (i + 1) m nx) { s with heap := hh', toks := tk' } .next s₂ := by
      rintro ⟨h', tk, m', news', nx, e, F', N', hn, ho, ha, hm⟩
      have hI' : ∃ o, (I, o) ∈ own := by
        obtain ⟨_, o, h0⟩ := hob _ _ hst'
        exact ⟨o, hmem I (.head _) hI o h0⟩
      refine ⟨rfl, h', tk, m', nx, e, F', fun p hp => N' p ((List.mem_append.mp hp).elim (ho p) (hn p)), fun p hp hq => ?_, fun p hp hq => ?_, hm⟩
      · obtain ⟨o, hI'⟩ := hI'
        exact ha _ hI' p.1 (List.mem_map.mpr ⟨p, hp, rfl⟩) (List.mem_singleton.mp hq).symm
      · cases h1 : h₀.get? ax with
        | some o => have := (N' p (hn p hp)).2.2; rw [hq, h1] at this; cases this
        | none =>
          obtain ⟨⟨o, h2⟩, _⟩ := hob _ _ hst'
          exact ha _ (hmem ax (.tail _ (.head _)) h1 o h2) p.1 (List.mem_map.mpr ⟨p, hp, rfl⟩) hq.symm
    cases f with
    | ret v => exact .ret p
    | brk => exact .brk p
    | next => exact .next (fin p)
    | cont => exact .cont (fin p)
  · rintro h' tk m' news' F' N' _ ⟨_, hJ⟩
    exact done m' news' h' tk hJ F' N'

theorem ne_frame_list {g h₀ : Heap} {L l : Addr} {vs : Array Value} {m : Str → Option Value} (hl : g.IsList l vs) (F : Fr h₀ L g m) : L ≠ l := by
  rintro rfl
  obtain ⟨oe, h1, _, n, h2⟩ := hl
  obtain ⟨o, es, ep, h3, h4, _⟩ := F.ns
  rw [h1] at h3; cases h3; rw [h2] at h4; cases h4
theorem ne_frame_tuple {g h₀ : Heap} {L l : Addr} {vs : Array Value} {m : Str → Option Value} (hl : g.IsTuple l vs) (F : Fr h₀ L g m) : L ≠ l := by
  rintro rfl
  obtain ⟨oe, h1, _, n, h2⟩ := hl
  obtain ⟨o, es, ep, h3, h4, _⟩ := F.ns
  rw [h1] at h3; cases h3; rw [h2] at h4; cases h4

theorem iterH_list {l : Addr} {vs : List Value} {m₀ : Str → Option Value} {news nx₀ : List (Addr × Obj)} (J : Nat → (Str → Option Value) → List (Addr × Obj) → Prop)
    (H : HOK A h₀) (hl : s.heap.IsList l vs.toArray) (F : Fr h₀ env.locals s.heap m₀) (N : News h₀ env.locals s.heap news) (hs : ∀ p ∈ nx₀, p ∈ news) (hna : ∀ p ∈ nx₀, p.1 ≠ l) (hj : J 0 m₀ nx₀)
    (turn : ∀ i v m₁ nx h tk own, vs[i]? = some v → OwnOff own (nx.map (·.1)) → J i m₁ nx → Fr h₀ env.locals h (fun y => if y = x then some v else m₁ y) → News h₀ env.locals h (nx ++ own) →
      wpAny (model prog w) A (execs body env) (InvPostG h₀ env.locals (J (i + 1)) own { s with heap := h, toks := tk } Q) E { s with heap := h, toks := tk })
    (done : ∀ m₁ nx h tk, J vs.length m₁ nx → Fr h₀ env.locals h m₁ → News h₀ env.locals h nx → Q .next { s with heap := h, toks := tk }) :
    wpAny (model prog w) A (pyIter (.ref l)) (fun it s₂ => LoopAtV prog w A h₀ env x body Q E it s₂) E s := by
  obtain ⟨cl0, HL0⟩ := H.list
  have hlt : l < s.heap.objs.size := by obtain ⟨o, ho, _⟩ := hl; exact Heap.lt_size ho
  refine wpAny_pyIter_list hl ?_
  have HL0' : HOKL A s.heap cl0 := HL0.at fun b _ o e => F.keep b o e
  have W := Walks.listH (prog := prog) (w := w) (A := A) (cl := cl0) s.heap.objs.size l (Nat.ne_of_lt hlt) (fun b hb => by
    obtain ⟨o, e⟩ := HL0'.1 b hb; exact Nat.ne_of_lt (Heap.lt_size e)) vs.toArray
  refine loopH (ax := l) J W (fun i h st => ⟨?_, ?_⟩) (next_is_new F) (Nat.ne_of_lt F.ns.lt) (ne_frame_list hl F) ?_ HL0.1 ?_ hna
    ⟨⟨⟨_, Heap.get?_push_size _ rfl, rfl, rfl⟩, hl.at fun o e => Heap.get?_push_of_some _ e⟩, HL0'.at fun b _ o e => Heap.get?_push_of_some _ e⟩ (F.push _) (fun p hp => ⟨Heap.get?_push_of_some _ (N p (hs p hp)).1, (N p (hs p hp)).2⟩) hj ?_ ?_
  · obtain ⟨⟨_, o, ho, _⟩, _⟩ := st; exact ⟨o, ho⟩
  · obtain ⟨⟨⟨o, ho, _⟩, _⟩, _⟩ := st; exact ⟨o, ho⟩
  · intro b hb q
    obtain ⟨o, e⟩ := HL0.1 b hb
    exact absurd (Nat.lt_of_lt_of_le (Heap.lt_size e) F.above) (q ▸ Nat.lt_irrefl _)
  · intro p hp; exact Nat.ne_of_lt (Heap.lt_size (N p (hs p hp)).1)
  · intro i v m₁ nx h tk own _ hP ho hJ F₁ N₁
    exact turn i v m₁ nx h tk own (by simpa using hP) ho hJ F₁ N₁
  · intro m₁ nx h tk hJ F₁ N₁
    exact done m₁ nx h tk (by simpa using hJ) F₁ N₁
theorem iterH_tuple {l : Addr} {vs : List Value} {m₀ : Str → Option Value} {news nx₀ : List (Addr × Obj)} (J : Nat → (Str → Option Value) → List (Addr × Obj) → Prop)
    (H : HOK A h₀) (hl : s.heap.IsTuple l vs.toArray) (F : Fr h₀ env.locals s.heap m₀) (N : News h₀ env.locals s.heap news) (hs : ∀ p ∈ nx₀, p ∈ news) (hna : ∀ p ∈ nx₀, p.1 ≠ l) (hj : J 0 m₀ nx₀)
    (turn : ∀ i v m₁ nx h tk own, vs[i]? = some v → OwnOff own (nx.map (·.1)) → J i m₁ nx → Fr h₀ env.locals h (fun y => if y = x then some v else m₁ y) → News h₀ env.locals h (nx ++ own) →
      wpAny (model prog w) A (execs body env) (InvPostG h₀ env.locals (J (i + 1)) own { s with heap := h, toks := tk } Q) E { s with heap := h, toks := tk })
    (done : ∀ m₁ nx h tk, J vs.length m₁ nx → Fr h₀ env.locals h m₁ → News h₀ env.locals h nx → Q .next { s with heap := h, toks := tk }) :
    wpAny (model prog w) A (pyIter (.ref l)) (fun it s₂ => LoopAtV prog w A h₀ env x body Q E it s₂) E s := by
  obtain ⟨cl0, HL0⟩ := H.list
  have hlt : l < s.heap.objs.size := by obtain ⟨o, ho, _⟩ := hl; exact Heap.lt_size ho
  refine wpAny_pyIter_tuple hl ?_
  have HL0' : HOKL A s.heap cl0 := HL0.at fun b _ o e => F.keep b o e
  have W := Walks.tupleH (prog := prog) (w := w) (A := A) (cl := cl0) s.heap.objs.size l (Nat.ne_of_lt hlt) (fun b hb => by
    obtain ⟨o, e⟩ := HL0'.1 b hb; exact Nat.ne_of_lt (Heap.lt_size e)) vs.toArray
  refine loopH (ax := l) J W (fun i h st => ⟨?_, ?_⟩) (next_is_new F) (Nat.ne_of_lt F.ns.lt) (ne_frame_tuple hl F) ?_ HL0.1 ?_ hna
    ⟨⟨⟨_, Heap.get?_push_size _ rfl, rfl, rfl⟩, hl.at fun o e => Heap.get?_push_of_some _ e⟩, HL0'.at fun b _ o e => Heap.get?_push_of_some _ e⟩ (F.push _) (fun p hp => ⟨Heap.get?_push_of_some _ (N p (hs p hp)).1, (N p (hs p hp)).2⟩) hj ?_ ?_
  · obtain ⟨⟨_, o, ho, _⟩, _⟩ := st; exact ⟨o, ho⟩
  · obtain ⟨⟨⟨o, ho, _⟩, _⟩, _⟩ := st; exact ⟨o, ho⟩
  · intro b hb q
    obtain ⟨o, e⟩ := HL0.1 b hb
    exact absurd (Nat.lt_of_lt_of_le (Heap.lt_size e) F.above) (q ▸ Nat.lt_irrefl _)
  · intro p hp; exact Nat.ne_of_lt (Heap.lt_size (N p (hs p hp)).1)
  · intro i v m₁ nx h tk own _ hP ho hJ F₁ N₁
    exact turn i v m₁ nx h tk own (by simpa using hP) ho hJ F₁ N₁
  · intro m₁ nx h tk hJ F₁ N₁
    exact done m₁ nx h tk (by simpa using hJ) F₁ N₁
end
end T_H3
section T_H4
open PySem PySem.W PyProof.Rows PySem.Calls PySem.Spec

/-- what is known of a frame's names, written ahead -/
noncomputable def upd (l : List (Str × Value)) (m : Str → Option Value) : Str → Option Value := fun y => match l.lookup y with | some v => some v | none => m y
theorem upd_eq {l : List (Str × Value)} {m : Str → Option Value} (h : ∀ p ∈ l, m p.1 = some p.2) : upd l m = m := by
  funext y
  unfold upd
  induction l with
  | nil => rfl
  | cons p r ih =>
    obtain ⟨a, v⟩ := p
    rw [List.lookup_cons]
    cases e : y == a with
    | true => have := h (a, v) (.head _); rw [eq_of_beq e]; exact this.symm
    | false => exact ih fun q hq => h q (.tail _ hq)
theorem Fr.upd {h₀ h : Heap} {L : Addr} {x : Str} {v : Value} {m : Str → Option Value} (l : List (Str × Value)) (F : Fr h₀ L h (fun y => if y = x then some v else m y)) (hm : ∀ p ∈ l, m p.1 = some p.2) :
    Fr h₀ L h (fun y => if y = x then some v else Mine.upd l m y) := by rw [upd_eq hm]; exact F
theorem Fr.upd0 {h₀ h : Heap} {L : Addr} {m : Str → Option Value} (l : List (Str × Value)) (F : Fr h₀ L h m) (hm : ∀ p ∈ l, m p.1 = some p.2) :
    Fr h₀ L h (Mine.upd l m) := by rw [upd_eq hm]; exact F


theorem strs_get {vs : List Value} {ns : List Str} (h : StrsAre vs ns) : ∀ {i : Nat} {v : Value}, vs[i]? = some v → ∃ (n : Str) (t : Tok), ns[i]? = some n ∧ v = Value.str n t := by
  induction h with
  | nil => intro i v hv; simp at hv
  | cons y t _ ih =>
    intro i v hv
    cases i with
    | zero => simp at hv; exact ⟨y, t, rfl, hv.symm⟩
    | succ i => simp at hv; obtain ⟨n, t', h1, h2⟩ := ih hv; exact ⟨n, t', by simpa using h1, h2⟩
theorem strs_at {vs : List Value} {ns : List Str} (h : StrsAre vs ns) : ∀ {i : Nat} {n : Str}, ns[i]? = some n → ∃ t : Tok, vs[i]? = some (Value.str n t) := by
  induction h with
  | nil => intro i v hv; simp at hv
  | cons y t _ ih =>
    intro i v hv
    cases i with
    | zero => simp at hv; exact ⟨t, by simp [hv]⟩
    | succ i => simp at hv; obtain ⟨t', h1⟩ := ih hv; exact ⟨t', by simpa using h1⟩

section
variable {prog : Program} {w : World} {A : Around} {E : Value → Shared → Prop} {s : Shared} {Q : Value → Shared → Prop}
theorem len_listM {l : Addr} {vs : List Value} {n : Nat} (hl : s.heap.IsList l vs.toArray) (hn : vs.length = n) (hb : n < 2 ^ 62) (h : ∀ t tk, Q (.int (n : Int) t) { s with toks := tk }) :
    wpAny (model prog w) A (call (.builtin "len") [.ref l]) Q E s :=
  len_list hl (by simp only [List.size_toArray]; omega) (by simp only [List.size_toArray, hn]; exact h _ _)
theorem len_tupleM {l : Addr} {vs : List Value} {n : Nat} (hl : IsTup s.heap l vs.toArray) (hn : vs.length = n) (hb : n < 2 ^ 62) (h : ∀ t tk, Q (.int (n : Int) t) { s with toks := tk }) :
    wpAny (model prog w) A (call (.builtin "len") [.ref l]) Q E s :=
  len_tuple hl (by simp only [List.size_toArray]; omega) (by simp only [List.size_toArray, hn]; exact h _ _)
theorem seqIndex_nat {k n : Nat} (h : k < n) : seqIndex? (k : Int) n = some k := by
  unfold seqIndex?
  have h1 : ¬ ((k : Int) < 0) := by omega
  have h2 : (k : Int) < n := by omega
  simp [h1, h2]
theorem item_tupleM {value slice : Expr} {t : Addr} {vs : List Value} {k : Nat} {u : Tok} {x : Value} (ht : IsTup s.heap t vs.toArray) (hb : k < 2 ^ 62) (hx : vs[k]? = some x) (h : Q x s)
    (hs : subscripted slice false (.ref t) (.int (k : Int) u) = operate [.ref t, .int (k : Int) u] (getItem (.ref t) (.int (k : Int) u)) := by with_unfolding_all rfl) :
    wpAny (model prog w) A (subscriptTail value slice (.ref t) (.int (k : Int) u)) Q E s :=
  item_tupleT ht (by omega) (by omega) (seqIndex_nat (by obtain ⟨h, _⟩ := List.getElem?_eq_some_iff.mp hx; exact h)) hx h hs
end
end T_H4
section T_D0
open PySem PySem.W PyProof.Rows PySem.Calls PySem.Spec

theorem inst_keeps {g h : Heap} {x C : Addr} {ox : Obj} {od : Option Obj} (I : InstAt g x ox C od) (k : ∀ b o, g.get? b = some o → h.get? b = some o) : InstAt h x ox C od := by
  obtain ⟨a, b, c, d⟩ := I
  refine ⟨k _ _ a, b, c, ?_⟩
  revert d
  cases ox.dict <;> cases od <;> intro d <;> first | exact d | exact d.elim | exact k _ _ d

/-- a plain list with these items -/
noncomputable def Lst (h : Heap) (a : Addr) (vs : List Value) : Prop := ∃ n, h.get? a = some (listOf vs.toArray n)
theorem Lst.keeps {g h : Heap} {a : Addr} {vs : List Value} (l : Lst g a vs) (k : ∀ b o, g.get? b = some o → h.get? b = some o) : Lst h a vs := let ⟨n, e⟩ := l; ⟨n, k _ _ e⟩
theorem Lst.isList {h : Heap} {a : Addr} {vs : List Value} (l : Lst h a vs) : h.IsList a vs.toArray := let ⟨n, e⟩ := l; ⟨_, e, rfl, n, rfl⟩
theorem Lst.news {h₀ h : Heap} {L a : Addr} {news : List (Addr × Obj)} {vs : List Value} {n : Nat} (N : News h₀ L h news) (hm : (a, listOf vs.toArray n) ∈ news) : Lst h a vs := ⟨n, N.get hm⟩
/-- a plain tuple with these items -/
noncomputable def Tpl (h : Heap) (a : Addr) (vs : List Value) : Prop := ∃ n, h.get? a = some { cls := .type "tuple", data := .seq vs.toArray n }
theorem Tpl.keeps {g h : Heap} {a : Addr} {vs : List Value} (l : Tpl g a vs) (k : ∀ b o, g.get? b = some o → h.get? b = some o) : Tpl h a vs := let ⟨n, e⟩ := l; ⟨n, k _ _ e⟩
theorem Tpl.isTup {h : Heap} {a : Addr} {vs : List Value} (l : Tpl h a vs) : IsTup h a vs.toArray := let ⟨n, e⟩ := l; ⟨_, e, rfl, n, rfl⟩
theorem Tpl.news {h₀ h : Heap} {L a : Addr} {news : List (Addr × Obj)} {vs : List Value} {n : Nat} (N : News h₀ L h news) (hm : (a, ({ cls := .type "tuple", data := .seq vs.toArray n } : Obj)) ∈ news) : Tpl h a vs := ⟨n, N.get hm⟩

/-- an item of the record, as the text reads it -/
structure ItemIs (h : Heap) (x : Addr) (nm : Str) (par occ : Value) (kids : Addr) (shp : Value) (ox : Obj) (es : List DictEntry) (n : Nat) (t : Tok) : Prop where
  inst : InstAt h x ox 136 (some (dictOf es n))
  name : getL (Str.ofString "name") es = some (some (.str nm t))
  parent : getL (Str.ofString "parent") es = some (some par)
  occurs : getL (Str.ofString "occurs") es = some (some occ)
  kids : getL (Str.ofString "kids") es = some (some (.ref kids))
  shape : getL (Str.ofString "shape") es = some (some shp)
noncomputable def ItemAt (h : Heap) (x : Addr) (nm : Str) (par occ : Value) (kids : Addr) (shp : Value) : Prop := ∃ ox es n t, ItemIs h x nm par occ kids shp ox es n t
theorem ItemAt.keeps {g h : Heap} {x : Addr} {nm : Str} {par occ shp : Value} {kids : Addr} (I : ItemAt g x nm par occ kids shp) (k : ∀ b o, g.get? b = some o → h.get? b = some o) : ItemAt h x nm par occ kids shp := by
  obtain ⟨ox, es, n, t, ⟨a, b, c, d, e, f⟩⟩ := I
  exact ⟨ox, es, n, t, ⟨inst_keeps a k, b, c, d, e, f⟩⟩

theorem inst_inj {h : Heap} {x C C' : Addr} {ox ox' : Obj} {es es' : List DictEntry} {n n' : Nat} (I : InstAt h x ox C (some (dictOf es n))) (J : InstAt h x ox' C' (some (dictOf es' n'))) : es = es' := by
  obtain ⟨a, _, _, d⟩ := I
  obtain ⟨a', _, _, d'⟩ := J
  rw [a] at a'
  cases a'
  revert d d'
  cases ox.dict with
  | none => intro d; exact d.elim
  | some dx =>
    intro d d'
    have e : some (dictOf es n) = some (dictOf es' n') := d.symm.trans d'
    injection e with e
    injection e with _ _ e
    injection e with e
    have := congrArg Array.toList e
    simpa using this
theorem ItemAt.inj {h : Heap} {x : Addr} {nm nm' : Str} {par occ shp par' occ' shp' : Value} {kids kids' : Addr} (I : ItemAt h x nm par occ kids shp) (J : ItemAt h x nm' par' occ' kids' shp') :
    nm = nm' ∧ par = par' ∧ occ = occ' ∧ kids = kids' ∧ shp = shp' := by
  obtain ⟨ox, es, n, t, ⟨a, b, c, d, e, f⟩⟩ := I
  obtain ⟨ox', es', n', t', ⟨a', b', c', d', e', f'⟩⟩ := J
  obtain rfl := inst_inj a a'
  rw [b] at b'; rw [c] at c'; rw [d] at d'; rw [e] at e'; rw [f] at f'
  cases b'; cases c'; cases d'; cases e'; cases f'
  exact ⟨rfl, rfl, rfl, rfl, rfl⟩

/-- what is asked of an item that another stands in -/
structure Up where
  a : Addr
  nm : Str
  tab : Bool
noncomputable def ups (us : List Up) : List Addr := us.map Up.a
/-- the line of the items around, from a parent on -/
inductive Line (h : Heap) : Value → List Up → Prop
  | nil : Line h .none []
  | cons {p : Addr} {nm : Str} {par occ : Value} {kids : Addr} {shp : Value} {r : List Up} {b : Bool} : ItemAt h p nm par occ kids shp → b = (occ != .none) → (occ = .none ∨ ∃ o, occ = .ref o) → Line h par r → Line h (.ref p) (⟨p, nm, b⟩ :: r)
theorem Line.keeps {g h : Heap} {v : Value} {ps : List Up} (l : Line g v ps) (k : ∀ b o, g.get? b = some o → h.get? b = some o) : Line h v ps := by
  induction l with
  | nil => exact .nil
  | cons I e f _ ih => exact .cons (I.keeps k) e f ih
theorem Line.item {h : Heap} {v : Value} {ps : List Up} (l : Line h v ps) : ∀ u ∈ ps, ∃ par occ kids shp, ItemAt h u.a u.nm par occ kids shp ∧ u.tab = (occ != .none) ∧ (occ = .none ∨ ∃ o, occ = .ref o) := by
  induction l with
  | nil => intro u hu; cases hu
  | cons I e f _ ih =>
    intro u hu
    cases hu with
    | head => exact ⟨_, _, _, _, I, e, f⟩
    | tail _ hu => exact ih u hu

noncomputable def refs (xs : List Addr) : List Value := xs.map Value.ref
theorem refs_append (xs ys : List Addr) : refs xs ++ refs ys = refs (xs ++ ys) := by simp [refs]
theorem refs_reverse (xs : List Addr) : (refs xs).reverse = refs xs.reverse := by simp [refs]
theorem news_sub {h₀ h : Heap} {L : Addr} {l l' : List (Addr × Obj)} (N : News h₀ L h l) (hs : ∀ p ∈ l', p ∈ l) : News h₀ L h l' := fun p hp => N p (hs p hp)
theorem news_tl {h₀ h : Heap} {L : Addr} {p : Addr × Obj} {l : List (Addr × Obj)} (N : News h₀ L h (p :: l)) : News h₀ L h l := fun q hq => N q (.tail _ hq)
theorem refs_push (xs : List Addr) (x : Addr) : (refs xs).toArray.push (Value.ref x) = (refs (xs ++ [x])).toArray := by simp [refs]
theorem refs_length (xs : List Addr) : (refs xs).length = xs.length := by simp [refs]
/-- the data division, as the text reads it: no files, one record in working storage, none in linkage -/
structure DataIs (h : Heap) (data : Addr) (root : Addr) (fd wl ll xd : Addr) (ox : Obj) (es : List DictEntry) (n : Nat) : Prop where
  inst : InstAt h data ox 162 (some (dictOf es n))
  files : getL (Str.ofString "files") es = some (some (.ref fd))
  working : getL (Str.ofString "working") es = some (some (.ref wl))
  linkage : getL (Str.ofString "linkage") es = some (some (.ref ll))
  indexes : getL (Str.ofString "indexes") es = some (some (.ref xd))
  filesD : ∃ k, h.get? fd = some (dictOf [] k)
  filesN : (fd == sysModules) = false
  workingL : Lst h wl (refs [root])
  linkageL : Lst h ll []
noncomputable def DataAt (h : Heap) (data : Addr) (root xd : Addr) : Prop := ∃ fd wl ll ox es n, DataIs h data root fd wl ll xd ox es n
theorem DataAt.keeps {g h : Heap} {data root xd : Addr} (D : DataAt g data root xd) (k : ∀ b o, g.get? b = some o → h.get? b = some o) : DataAt h data root xd := by
  obtain ⟨fd, wl, ll, ox, es, n, ⟨a, b, c, d, e, f, g', i, j⟩⟩ := D
  exact ⟨fd, wl, ll, ox, es, n, ⟨inst_keeps a k, b, c, d, e, (let ⟨k', q⟩ := f; ⟨k', k _ _ q⟩), g', i.keeps k, j.keeps k⟩⟩

section
variable {w : World} {prog : Program} {A : Around} {E : Value → Shared → Prop} {s : Shared} {env : Env} {h₀ : Heap} {x : Str} {body : List Stmt} {Q : Flow → Shared → Prop}
theorem iterH_dict0 {d : Addr} {k : Nat} {m₀ : Str → Option Value} {news : List (Addr × Obj)}
    (H : HOK A h₀) (hd : h₀.get? d = some (dictOf [] k)) (lo : (d == sysModules) = false) (F : Fr h₀ env.locals s.heap m₀) (N : News h₀ env.locals s.heap news)
    (done : ∀ h tk, Fr h₀ env.locals h m₀ → News h₀ env.locals h news → Q .next { s with heap := h, toks := tk }) :
    wpAny (model prog w) A (pyIter (.ref d)) (fun it s₂ => LoopAtV prog w A h₀ env x body Q E it s₂) E s := by
  obtain ⟨cl0, HL0⟩ := H.list
  have hda : h₀.DictAt (strKind prog w) d [] k := ⟨_, _, hd, ⟨rfl, rfl, rfl⟩, rfl, fun e he => by simp at he, .nil, .nil⟩
  have hds : s.heap.DictAt (strKind prog w) d [] k := hda.at' fun o e => F.keep _ o e
  have hlt : d < s.heap.objs.size := Heap.lt_size (F.keep _ _ hd)
  refine wpAny_pyIter_dict lo hds ?_
  have HL0' : HOKL A s.heap cl0 := HL0.at fun b _ o e => F.keep b o e
  have W := Walks.dictKeysH (prog := prog) (w := w) (A := A) (knd := strKind prog w) (cl := cl0) s.heap.objs.size d (Nat.ne_of_lt hlt) (fun b hb => by
    obtain ⟨o, e⟩ := HL0'.1 b hb; exact Nat.ne_of_lt (Heap.lt_size e)) [] k
  refine loopH (ax := d) (fun _ m nx => m = m₀ ∧ nx = news) W (fun i h st => ⟨?_, ?_⟩) (next_is_new F) (Nat.ne_of_lt F.ns.lt) ?_ ?_ HL0.1 ?_ ?_
    ⟨⟨⟨_, Heap.get?_push_size _ rfl, rfl, rfl⟩, hds.at' fun o e => Heap.get?_push_of_some _ e⟩, HL0'.at fun b _ o e => Heap.get?_push_of_some _ e⟩ (F.push _) (fun p hp => ⟨Heap.get?_push_of_some _ (N p hp).1, (N p hp).2⟩) ⟨rfl, rfl⟩ ?_ ?_
  · obtain ⟨⟨_, o, _, ho, _⟩, _⟩ := st; exact ⟨o, ho⟩
  · obtain ⟨⟨⟨o, ho, _⟩, _⟩, _⟩ := st; exact ⟨o, ho⟩
  · intro q
    exact absurd (Nat.lt_of_lt_of_le (Heap.lt_size hd) F.above) (q ▸ Nat.lt_irrefl _)
  · intro b hb q
    obtain ⟨o, e⟩ := HL0.1 b hb
    exact absurd (Nat.lt_of_lt_of_le (Heap.lt_size e) F.above) (q ▸ Nat.lt_irrefl _)
  · intro p hp; exact Nat.ne_of_lt (Heap.lt_size (N p hp).1)
  · intro p hp q; have := (N p hp).2.2; rw [q, hd] at this; cases this
  · intro i v m₁ nx h tk own hi; exact absurd hi (Nat.not_lt_zero _)
  · rintro m₁ nx h tk ⟨rfl, rfl⟩ F₁ N₁
    exact done h tk F₁ N₁
end
end T_D0
section T_D1
open PySem PySem.W PyProof.Rows PySem.Calls PySem.Spec PySem.SeqAt
theorem Amb.un {w : World} {A : Around} {base : Heap} {outer : List Env} {mean : ExcName → Option Value} {mg mb : Str → Option Value} {h : Heap} {n : Nat} {env : Env} (M : Amb w A base outer mean mg mb h (n + 1)) : (A.deeper env).units + 4 < cLine := by
  have := M.units; show A.units + 3 + 4 < _; omega
section
variable {prog : Program} {w : World} {A : Around} {E : Value → Shared → Prop} {s : Shared} {Q : Value → Shared → Prop}
theorem rcEq_nil {a b : Addr} {vs : List Value} (hl : s.heap.IsList a vs.toArray) (hb : s.heap.IsList b #[]) (hu : A.units < cLine) : RcAt A s (.ref a) (.ref b) vs.isEmpty := by
  cases vs with
  | nil => exact RcAt.lists (e := fun _ => true) hl hb rfl hu (fun j h1 => absurd h1 (Nat.not_lt_zero _))
  | cons v r => exact RcAt.lists_lengths hl hb (by simp) hu
theorem rcNe_nil {a b : Addr} {vs : List Value} (hl : s.heap.IsList a vs.toArray) (hb : s.heap.IsList b #[]) (hu : A.units < cLine) : RcNeAt A s (.ref a) (.ref b) (!vs.isEmpty) := by
  cases vs with
  | nil => exact RcNeAt.lists (e := fun _ => true) hl hb rfl hu (fun j h1 => absurd h1 (Nat.not_lt_zero _))
  | cons v r => exact RcNeAt.lists_lengths hl hb (by simp) hu
theorem eq_nilM {a b : Addr} {vs : List Value} {e : Bool} (hl : s.heap.IsList a vs.toArray) (hb : s.heap.IsList b #[]) (hu : A.units < cLine) (he : vs.isEmpty = e) (h : Q (.bool e) s) : wpAny (model prog w) A (compareOp .Eq (.ref a) (.ref b)) Q E s :=
  cmp_ofEq (rcEq_nil hl hb hu prog w E Q (he ▸ h))
theorem ne_nilM {a b : Addr} {vs : List Value} {e : Bool} (hl : s.heap.IsList a vs.toArray) (hb : s.heap.IsList b #[]) (hu : A.units < cLine) (he : vs.isEmpty = e) (h : Q (.bool (!e)) s) : wpAny (model prog w) A (compareOp .NotEq (.ref a) (.ref b)) Q E s :=
  cmp_ofNotEq (rcNe_nil hl hb hu prog w E Q (he ▸ h))
theorem eq_tnilM {a b : Addr} {vs : List Value} {k : Bool} (hl : IsTup s.heap a vs.toArray) (hb : IsTup s.heap b #[]) (hu : A.units < cLine) (he : vs.isEmpty = k) (h : Q (.bool k) s) : wpAny (model prog w) A (compareOp .Eq (.ref a) (.ref b)) Q E s := by
  refine cmp_ofEq (RcAt.tuples (e := fun _ => true) hl hb hu (fun j _ h1 => absurd h1 (Nat.not_lt_zero _)) prog w E Q ?_)
  have e : ((List.range (min vs.toArray.size (#[] : Array Value).size)).all (fun _ => true) && vs.toArray.size == (#[] : Array Value).size) = vs.isEmpty := by cases vs <;> simp
  rw [e, he]; exact h
theorem kl_last_refs (xs : List Addr) (x : Addr) : kl_last (refs (xs ++ [x])).toArray.toList = some (refs xs, .ref x) := by
  have h : ∀ (l : List Value) (v : Value), kl_last (l ++ [v]) = some (l, v) := by
    intro l v
    induction l with
    | nil => rfl
    | cons a r ih => show (match kl_last (r ++ [v]) with | some (p, y) => some (a :: p, y) | none => some ([], a)) = _; rw [ih]
  have e : (refs (xs ++ [x])).toArray.toList = refs xs ++ [Value.ref x] := by simp [refs]
  rw [e, h]
end
section
variable {prog : Program} {w : World} {A : Around} {E : Value → Shared → Prop} {s : Shared} {h₀ : Heap} {L D b : Addr} {m : Str → Option Value} {news : List (Addr × Obj)} {Q : Value → Shared → Prop}
theorem tooLong_no {n : Nat} (h : n < 100000) : Builtin.List.listTooLong n = false := by
  unfold Builtin.List.listTooLong
  rw [sizeLine_eq]
  exact decide_eq_false (by omega)
/-- list.extend by a list of any length -/
theorem extendM {its its2 : List Value} {n : Nat} {news' : Nat → List (Addr × Obj)} (F : Fr h₀ L s.heap m) (N : News h₀ L s.heap news) (hb : Lst s.heap b its2) (U : ∀ k, Upd D (listOf its.toArray n) (listOf (its ++ its2).toArray k) news (news' k))
    (hz : its.length + its2.length < 50000) (h : ∀ k h', Fr h₀ L h' m → News h₀ L h' (news' k) → Q .none { s with heap := h' }) : wpAny (model prog w) A (call (.builtin "list.extend") [.ref D, .ref b]) Q E s := by
  obtain ⟨n2, hb⟩ := hb
  have hd : ¬(!its.toArray.isEmpty && Builtin.List.listTooLong (its.toArray.size + its2.toArray.size)) = true := by
    simp only [List.size_toArray, tooLong_no (show its.length + its2.length < 100000 by omega), Bool.and_false, Bool.false_eq_true, not_false_eq_true]
  have hs1 : its.toArray.size ≤ sizeLine := by rw [sizeLine_eq, List.size_toArray]; omega
  have hs2 : its.toArray.size + its2.toArray.size ≤ sizeLine + 1 := by rw [sizeLine_eq, List.size_toArray, List.size_toArray]; omega
  cases e : its2 with
  | nil =>
    subst e
    obtain ⟨pre, post, rfl, e2, a, c⟩ := (U n).split
    have z := N (D, listOf its.toArray n) (List.mem_append.mpr (.inr (.head _)))
    refine call_meets PySem.F.slot_list_extend ⟨_, z.1, rfl⟩ PySem.F.entry_list_extend (PySem.F.args_list_extend_2 _ _) (PySem.AutoSeq1.list_extend_list_list_0 D _ n b _ n2 hd hs1 hs2) ⟨z.1, hb, h n _ (F.change (Heap.SameBut.update ..) z.2.1 z.2.2) ?_⟩
    rw [e2]
    refine news_set N a c (Heap.SameBut.update ..) ?_
    have q := PySem.IsL.update z.1 (fun x => x ++ ([] : List Value).toArray)
    rw [if_pos (by simp)] at q
    rw [q]
    simp
  | cons v r =>
    subst e
    obtain ⟨pre, post, rfl, e2, a, c⟩ := (U (n + 1)).split
    have z := N (D, listOf its.toArray n) (List.mem_append.mpr (.inr (.head _)))
    refine call_meets PySem.F.slot_list_extend ⟨_, z.1, rfl⟩ PySem.F.entry_list_extend (PySem.F.args_list_extend_2 _ _) (PySem.AutoSeq1.list_extend_list_list_0 D _ n b _ n2 hd hs1 hs2) ⟨z.1, hb, h (n + 1) _ (F.change (Heap.SameBut.update ..) z.2.1 z.2.2) ?_⟩
    rw [e2]
    refine kl_turn _ N a c ?_ ?_
    · simp
    · simp

/-- two lists, whatever they hold, one behind the other -/
theorem addM {l b : Addr} {xs ys : List Value} (F : Fr h₀ L s.heap m) (N : News h₀ L s.heap news) (hl : Lst s.heap l xs) (hb : Lst s.heap b ys) (hz : xs.length + ys.length < 50000)
    (h : ∀ D h', Fr h₀ L h' m → News h₀ L h' ((D, listOf (xs ++ ys).toArray 0) :: news) → (∀ p ∈ news, p.1 < D) → Q (.ref D) { s with heap := h' }) :
    wpAny (model prog w) A (binaryOp .Add (.ref l) (.ref b)) Q E s :=
  kmk_add_lit F N hl.isList hb.isList (zs := xs ++ ys) (by simp) h (by rw [sizeLine_eq]; simp; omega)
/-- a slice of a list, whatever it holds, of whatever base -/
theorem sliceM {value slice : PySem.Expr} {l : Addr} {xs : List Value} {vl vu vk : Value} {lo hi st : Option Int} {ops : List Value} (F : Fr h₀ L s.heap m) (N : News h₀ L s.heap news) (hl : Lst s.heap l xs)
    (pl : IsPart vl lo) (pu : IsPart vu hi) (pk : IsPart vk st) (h0 : st ≠ some 0) (hz : xs.length < 50000)
    (h : ∀ D h', Fr h₀ L h' m → News h₀ L h' ((D, listOf (slicePick xs.toArray lo hi st) 0) :: news) → (∀ p ∈ news, p.1 < D) → Q (.ref D) { s with heap := h' })
    (hs : subscripted slice false (.ref l) (.ref s.heap.objs.size) = operate ops (getItem (.ref l) (.ref s.heap.objs.size))) :
    wpAny (model prog w) A (subscriptTail value slice (.ref l) (.ref s.heap.objs.size)) Q E { s with heap := s.heap.push { cls := .type "slice", data := .fields #[vl, vu, vk] } } := by
  have hl' := hl.isList
  refine tail_any (Heap.IsList.typeIs (s := { s with heap := s.heap.push { cls := .type "slice", data := .fields #[vl, vu, vk] } }) (hl'.push _)) list_getitem_lookup
    (wpAny_getItem_list_slice (hl'.push _) (Heap.IsSliceOf.new ..) pl pu pk h0 ?_ (by rw [sizeLine_eq]; simp; omega)) hs
  have N1 := News.push (F.push { cls := .type "slice", data := .fields #[vl, vu, vk] }) (N.grown fun _ _ e => Heap.get?_push_of_some _ e) { cls := .type "list", data := .seq (slicePick xs.toArray lo hi st) }
  exact h _ _ ((F.push _).push _) N1 fun p hp => by rw [Heap.size_push]; exact Nat.lt_succ_of_lt (Heap.lt_size (N p hp).1)
theorem revM {value slice : PySem.Expr} {l : Addr} {xs : List Value} {u : Tok} {ops : List Value} (F : Fr h₀ L s.heap m) (N : News h₀ L s.heap news) (hl : Lst s.heap l xs) (hz : xs.length < 50000)
    (h : ∀ D h', Fr h₀ L h' m → News h₀ L h' ((D, listOf xs.reverse.toArray 0) :: news) → (∀ p ∈ news, p.1 < D) → Q (.ref D) { s with heap := h' })
    (hs : subscripted slice false (.ref l) (.ref s.heap.objs.size) = operate ops (getItem (.ref l) (.ref s.heap.objs.size))) :
    wpAny (model prog w) A (subscriptTail value slice (.ref l) (.ref s.heap.objs.size)) Q E { s with heap := s.heap.push { cls := .type "slice", data := .fields #[.none, .none, .int (-1) u] } } := by
  refine sliceM F N hl .none .none (.int (-1) u) (by decide) hz ?_ hs
  rw [krv_pick]
  exact h
end
end T_D1
section T_D2
open PySem PySem.W PyProof.Rows PySem.Calls PySem.Spec PySem.SeqAt
theorem HOK.inn {A : Around} {h₀ h : Heap} {L : Addr} {m : Str → Option Value} {env : Env} (H : HOK A h₀) (F : Fr h₀ L h m) : HOK (A.deeper env) h := HOK.keeps (A := A.deeper env) H F.keep
/-- what a callee made and hands back joins the ledger -/
theorem news_made {h₀ h h' : Heap} {L l : Addr} {o : Obj} {m : Str → Option Value} {news : List (Addr × Obj)} (F : Fr h₀ L h m) (N : News h₀ L h news) (st : h.StaysIn h') (fr : h.get? l = none) (gt : h'.get? l = some o) :
    News h₀ L h' ((l, o) :: news) := by
  intro p hp
  rcases List.mem_cons.mp hp with rfl | hp
  · refine ⟨gt, ?_, ?_⟩
    · rintro rfl
      obtain ⟨o', _, _, ho', _⟩ := F.ns
      rw [fr] at ho'; cases ho'
    · cases q : h₀.get? l with
      | none => rfl
      | some o' => have := F.keep _ _ q; rw [fr] at this; cases this
  · exact ⟨st _ _ (N p hp).1, (N p hp).2⟩
noncomputable def AllNe (d : Nat) : List (Addr × Obj) → Prop
  | [] => True
  | p :: r => @Ne Nat p.1 d ∧ AllNe d r
theorem allNe_made {h₀ h : Heap} {L l : Addr} (fr : h.get? l = none) : ∀ {news : List (Addr × Obj)}, News h₀ L h news → AllNe l news
  | [], _ => trivial
  | p :: r, N => ⟨fun q => (by have z := (N p (.head _)).1; rw [q, fr] at z; cases z), allNe_made fr fun q hq => N q (.tail _ hq)⟩
section
variable {prog : Program} {w : World} {A : Around} {E : Value → Shared → Prop} {s : Shared} {Q : Value → Shared → Prop}
theorem item_lastM {value slice : PySem.Expr} {l : Addr} {vs xs : List Value} {x : Value} {u : Tok} (hl : Lst s.heap l vs) (hv : vs = xs ++ [x]) (hz : xs.length < 50000) (h : Q x s)
    (hs : subscripted slice false (.ref l) (.int (-1) u) = operate [.ref l, .int (-1) u] (getItem (.ref l) (.int (-1) u))) :
    wpAny (model prog w) A (subscriptTail value slice (.ref l) (.int (-1) u)) Q E s := by
  subst hv
  exact tail_any hl.isList.typeIs slot_list_getitem.lookup (wpAny_getItem_list_neg (k := -1) hl.isList (by decide) (by simp; omega) (by decide) (by
    have e : ((-1 : Int) + ((xs ++ [x]).toArray.size : Int)).toNat = xs.length := by simp; omega
    rw [e]; simp) h) hs
end
end T_D2
section T_D3
open PySem PySem.W PyProof.Rows PySem.Calls PySem.Spec PySem.SeqAt
section
variable {prog : Program} {w : World} {A : Around} {E : Value → Shared → Prop} {s : Shared} {h₀ : Heap} {L : Addr} {m : Str → Option Value} {env : Env}

theorem tests_none {cenv : Env} {Q : Bool → Shared → Prop} (h : Q true s) :
    wpAny (model prog w) A (forIn ([] : List PySem.Expr) true fun c r => if r = true then do let ok ← isTrue c cenv (eval c cenv); pure (ForInStep.yield ok) else pure (ForInStep.yield r)) Q E s := by

  exact wpAny_pure h
theorem tests_one {cenv : Env} {c : PySem.Expr} {Q : Bool → Shared → Prop} (h : wpAny (model prog w) A (isTrue c cenv (eval c cenv)) Q E s) :
    wpAny (model prog w) A (forIn [c] true fun c r => if r = true then do let ok ← isTrue c cenv (eval c cenv); pure (ForInStep.yield ok) else pure (ForInStep.yield r)) Q E s := by
  rw [List.forIn_cons]
  refine wpAny_bind ?_

  refine wpAny_bind (wpAny_mono h (fun b s' hq => ?_) fun _ _ e => e)
  refine wpAny_pure ?_

  exact wpAny_pure hq

/-- what is asked of the list that a comprehension goes over -/
inductive CompIn (prog : Program) (w : World) (A : Around) (h₀ : Heap) (L : Addr) (env : Env) (scope : Scope) (cl : List (Str × Addr)) (x : Str) (ifs : List PySem.Expr) (elt : PySem.Expr) (p : Value → Bool) (P : Value → Value → Prop) (s₁ : Shared) (Z : (Str → Option Value) → List (Addr × Obj) → List Value → Prop) (xv : Value) : Prop
  | mk (l : Addr) (vs : List Value) (m : Str → Option Value) (news : List (Addr × Obj)) (e : xv = .ref l) (hl : s₁.heap.IsList l vs.toArray) (hz : vs.length < 50000) (F : Fr h₀ L s₁.heap m) (N : News h₀ L s₁.heap news)
    (ht : ∀ (C : Addr) (v : Value) (s₃ : Shared) (m₃ : Str → Option Value) (E' : Value → Shared → Prop), v ∈ vs → s₁.heap.objs.size ≤ C → s₃.heap.Ns C m₃ → m₃ x = some v → (∀ b o, s₁.heap.get? b = some o → s₃.heap.get? b = some o) → Fr h₀ L s₃.heap m → News h₀ L s₃.heap news →
        wpAny (model prog w) A (forIn ifs true fun c r => if r = true then do let ok ← isTrue c (compEnvC scope cl C env) (eval c (compEnvC scope cl C env)); pure (ForInStep.yield ok) else pure (ForInStep.yield r)) (fun ok s₄ => ok = p v ∧ Keeps s₃ s₄) E' s₃)
    (he : ∀ (C : Addr) (v : Value) (s₃ : Shared) (m₃ : Str → Option Value) (E' : Value → Shared → Prop), v ∈ vs → p v = true → s₁.heap.objs.size ≤ C → s₃.heap.Ns C m₃ → m₃ x = some v → (∀ b o, s₁.heap.get? b = some o → s₃.heap.get? b = some o) → Fr h₀ L s₃.heap m → News h₀ L s₃.heap news →
        wpAny (model prog w) A (eval elt (compEnvC scope cl C env)) (fun y s₄ => P v y ∧ Keeps s₃ s₄) E' s₃) (hQ : Z m news vs) : CompIn prog w A h₀ L env scope cl x ifs elt p P s₁ Z xv
/-- a comprehension over a list, whatever is being handled: the test and the element tell by the value alone, and change nothing that stood -/
theorem compM {elt iter : PySem.Expr} {x : Str} {px : Pos} {ifs : List PySem.Expr} {scope : Scope} {cl : List (Str × Addr)} {pos : Pos} {Q : Value → Shared → Prop} (p : Value → Bool) (P : Value → Value → Prop)
    (H : HOK A h₀) (hclos : closureFor scope env = pure cl) (hcell : ∀ y ∈ scope.names, y.2 ≠ .cell) (hkind : scope.kind = .function)
    (hnames : ∀ y ∈ scope.names, y.2 = .local → scope.names.lookup y.1 = some .local) (hx : scope.names.lookup x = some .local)
    (hs : ∀ x, foldedSetIterable iter env x = pure x)
    (h : wpAny (model prog w) A (eval iter env) (fun xv s₁ => CompIn prog w A h₀ L env scope cl x ifs elt p P s₁ (fun m news vs => ∀ D k h' tk (ys : List Value), Fr h₀ L h' m → News h₀ L h' ((D, listOf ys.toArray k) :: news) → AllNe D news → Paired P (vs.filter p) ys → Q (.ref D) { s₁ with heap := h', toks := tk }) xv) E s) :
    wpAny (model prog w) A (eval (.ListComp elt [⟨.Name x px, iter, ifs, 0⟩] scope pos) env) Q E s := by
  refine wpAny_ListComp_free p P hclos hcell hkind hnames hx (wpAny_mono h (fun xv s₁ h₁ => ?_) fun _ _ e => e) hs
  obtain ⟨l, vs, m, news, rfl, hl, hsz, F, N, ht, he, hQ⟩ := h₁
  have hlt : l < s₁.heap.objs.size := by obtain ⟨_, e, _⟩ := hl; exact Heap.lt_size e
  obtain ⟨cl0, HL0⟩ := H.list
  have HL0' : HOKL A s₁.heap cl0 := HL0.at fun b _ o e => F.keep b o e
  have up : ∀ (s₃ : Shared), (∀ b o, b ∉ [s₁.heap.objs.size] → (s₁.heap.push { cls := .type "list_iterator", data := .fields #[.ref l, .int 0 0] }).get? b = some o → s₃.heap.get? b = some o) → ∀ b o, s₁.heap.get? b = some o → s₃.heap.get? b = some o :=
    fun s₃ hk b o e => hk b o (fun hm => by rcases List.mem_cons.mp hm with rfl | hm; exact Nat.lt_irrefl _ (Heap.lt_size e); cases hm) (Heap.get?_push_of_some _ e)
  refine wpAny_pyIter_list hl ⟨s₁.heap.objs.size, s₁.heap.objs.size :: l :: cl0, [s₁.heap.objs.size], vs.toArray.size, _, _, rfl,
    Walks.listH (prog := prog) (w := w) (A := A) (cl := cl0) _ _ (Nat.ne_of_lt hlt) (fun b hb => by obtain ⟨o, e⟩ := HL0'.1 b hb; exact Nat.ne_of_lt (Heap.lt_size e)) vs.toArray,
    (by rw [List.size_toArray, sizeLine_eq]; omega), ⟨⟨⟨_, Heap.get?_push_size _ rfl, rfl, rfl⟩, hl.at fun o e => Heap.get?_push_of_some _ e⟩, HL0'.at fun b _ o e => Heap.get?_push_of_some _ e⟩, ?_, ⟨?_, ?_⟩, ?_⟩
  · intro b hb
    show b < (s₁.heap.push _).objs.size
    rw [Heap.size_push]
    rcases List.mem_cons.mp hb with rfl | hb
    · exact Nat.lt_succ_self _
    · rcases List.mem_cons.mp hb with rfl | hb
      · exact Nat.lt_succ_of_lt hlt
      · obtain ⟨o, e⟩ := HL0'.1 b hb; exact Nat.lt_succ_of_lt (Heap.lt_size e)
  · intro C i v s₃ m₃ E' hC hP hn hm hk _
    have k := up s₃ hk
    exact ht C v s₃ m₃ E' (by simpa using Array.mem_of_getElem? hP) (Nat.le_of_succ_le (by simpa [Heap.size_push] using hC)) hn hm k (F.keeps k) (N.grown k)
  · intro C i v s₃ m₃ E' hC hP hp hn hm hk _
    have k := up s₃ hk
    exact he C v s₃ m₃ E' (by simpa using Array.mem_of_getElem? hP) hp (Nat.le_of_succ_le (by simpa [Heap.size_push] using hC)) hn hm k (F.keeps k) (N.grown k)
  · intro D h' tk ys vs' hnew hlD hplD hlen hP hF hk
    have e : vs' = vs := by simpa using list_of_places hlen hP
    subst e
    have keep : ∀ b o, s₁.heap.get? b = some o → h'.get? b = some o := up { s₁ with heap := h' } hk
    obtain ⟨k, hD⟩ := hplD
    have hnD : s₁.heap.get? D = none := by
      cases q : s₁.heap.get? D with
      | none => rfl
      | some o => rw [Heap.get?_push_of_some _ q] at hnew; cases hnew
    exact hQ D k h' tk ys.toList (F.keeps keep) (by rw [Array.toArray_toList]; exact news_made F N keep hnD hD) (allNe_made hnD N) hF
end
end T_D3
section T_D4
open PySem PySem.W PyProof.Rows PySem.Calls PySem.Spec PySem.SeqAt
section
variable {w : World} {A : Around} {base : Heap} {outer : List Env} {mean : ExcName → Option Value} {mg mb : Str → Option Value} {s : Shared} {n : Nat} {R : Result → Shared → Prop}
theorem Amb.innC {h₀ h : Heap} {L : Addr} {m : Str → Option Value} {env : Env} (M : Amb w A base outer mean mg mb h₀ (n + 1)) (F : Fr h₀ L h m) (hf : env.frame = some L) (hk : env.scope.kind = .function) :
    Amb w (A.deeper env) base (env :: outer) mean mg mb h n :=
  ⟨M.X.keeps F.keep, M.T.keeps F.keep, pushX M.B F hf hk, by have := M.depth; show A.depth + 1 + n < _; omega, by have := M.units; show A.units + 3 + 8 * n < _; omega⟩

theorem enterC {name qual : Str} {params : Arguments} {body : List Stmt} {scope : Scope} {dV kV doc pm cdv ct oc : Value} {an od : Option Addr} {osl : Array (Option Value)} {f : Addr} {args : Args} {binds : List (Str × Value)}
    (M : Amb w A base outer mean mg mb s.heap (n + 1))
    (ho : (hd.heap_39 w.params).lookup f = some ⟨oc, od, .func (fnOf name qual params body scope dV kV doc pm an cdv ct), osl⟩) (hcd : codeIn (hd.heap_39 w.params) cdv qual = true)
    (hbind : BindsTo s (fnOf name qual params body scope dV kV doc pm an cdv ct) args binds) (hkind : (binds.all fun y => scope.names.lookup y.1 == some .local || scope.names.lookup y.1 == some .cell) = true)
    (hnd : ((cellsFrom 0 scope.names []).map (·.1)).Nodup)
    (hco : scope.isCoroutine = false) (hgen : scope.isGenerator = false) (hk : scope.kind = .function)
    (h : ∀ L h₁ tk cells, L = s.heap.objs.size → Fr s.heap L h₁ (bindL (envOfC qual scope L f cdv).kindOf binds fun _ => none) → News s.heap L h₁ cells →
      CellsAre (bindC (envOfC qual scope L f cdv).kindOf binds fun _ => none) (cellsFrom (L + 1) scope.names []) cells →
      wpAny (model PR w) (A.deeper (envOfC qual scope L f cdv)) (execs body (envOfC qual scope L f cdv))
        (fun fl s' => R (.ok (.ret (match fl with | .ret v => v | _ => .none))) s')
        (fun e s' => wpAny (model PR w) (A.deeper (envOfC qual scope L f cdv)) (leaving (envOfC qual scope L f cdv) e) (fun _ s'' => R (.error e) s'') (fun e' s'' => R (.error e') s'') s')
        { s with heap := h₁, toks := tk }) : codeAny (model PR w) A (.call (.ref f) args) R s := by
  have hbind' : BindsTo s (fnX name qual params body scope [] dV kV doc pm an cdv ct) args binds := hbind
  refine codeAny_call_function (fd := fnX name qual params body scope [] dV kV doc pm an cdv ct) (by have := M.depth; omega) (M.X _ _ ho) rfl hco hgen rfl (codeRec_of M.X hcd) (hbind' _ _ _ _ ?_)
  refine wpAny_newFunctionEnv_cells hk (kindsX hkind _) fun env' he s' x => ?_
  subst he
  refine ⟨M.T.nolimit.keeps x.toInCall.keep, codeAny_func ?_⟩
  obtain ⟨h₁, tk, rfl, _⟩ := x.done
  obtain ⟨cells, NC, Y⟩ := Cl.news (h₀ := s.heap) (Nat.le_refl _) fun n c hm => ⟨x.cell n c (lookup_of_mem_nodup (cellsFrom_names scope.names 0 (s.heap.objs.size + 1) [] [] rfl ▸ hnd) hm), x.above n c hm⟩
  exact h _ h₁ tk cells rfl ⟨x.toInCall.ns, x.toInCall.keep, Nat.le_refl _⟩ NC Y
end
end T_D4
section T_B1
open PySem PySem.W PyProof.Rows PySem.Calls PySem.Spec
noncomputable def goneObj : Obj := { cls := .none, data := .freed }
/-- the heap without what lies at these addresses -/
noncomputable def cut (h : Heap) (S : List Addr) : Heap := ⟨h.objs.mapIdx fun i o => if S.contains i then goneObj else o, h.life⟩
theorem get?_cut {h : Heap} {S : List Addr} {a : Addr} : (cut h S).get? a = if S.contains a then none else h.get? a := by
  unfold cut Heap.get?
  rw [Array.getElem?_mapIdx]
  cases h.objs[a]? with
  | none => simp
  | some o =>
    dsimp only [Option.map_some]
    by_cases c : S.contains a = true
    · rw [if_pos c, if_pos c]; rfl
    · rw [if_neg c, if_neg c]
theorem size_cut {h : Heap} {S : List Addr} : (cut h S).objs.size = h.objs.size := by simp [cut]
theorem cut_sub {h : Heap} {S : List Addr} : ∀ b o, (cut h S).get? b = some o → h.get? b = some o := fun b o e => by
  rw [get?_cut] at e
  split at e
  · cases e
  · exact e
theorem cut_none {h : Heap} {S : List Addr} {a : Addr} (m : a ∈ S) : (cut h S).get? a = none := by
  rw [get?_cut, if_pos (by simpa using m)]
theorem cut_of {h : Heap} {S : List Addr} {a : Addr} (m : a ∉ S) : (cut h S).get? a = h.get? a := by
  rw [get?_cut, if_neg (by simpa using m)]
theorem stays_cut {g h : Heap} {S : List Addr} (k : g.StaysIn h) (n : ∀ a ∈ S, g.get? a = none) : g.StaysIn (cut h S) := fun b o e => by
  rw [cut_of (fun m => by rw [n b m] at e; cases e)]
  exact k b o e
theorem Fr.cut {g h : Heap} {L : Addr} {m : Str → Option Value} (F : Fr g L h m) (S : List Addr) : Fr (Mine.cut g S) L h m :=
  ⟨F.ns, fun b o e => F.keep b o (cut_sub b o e), by rw [size_cut]; exact F.above⟩
/-- what was cut stands in the ledger -/
theorem News.ofCut {g h : Heap} {L : Addr} {m : Str → Option Value} {l : List (Addr × Obj)} {S : List Addr} (F : Fr g L h m) (hl : ∀ p ∈ l, g.get? p.1 = some p.2 ∧ p.1 ∈ S) : News (Mine.cut g S) L h l := fun p hp =>
  ⟨F.keep _ _ (hl p hp).1, Nat.ne_of_lt (Nat.lt_of_lt_of_le (Heap.lt_size (hl p hp).1) F.above), cut_none (hl p hp).2⟩
theorem News.app {g h : Heap} {L : Addr} {l l' : List (Addr × Obj)} (N : News g L h l) (N' : News g L h l') : News g L h (l ++ l') := fun p hp => (List.mem_append.mp hp).elim (N p) (N' p)
end T_B1
section T_Z0
open PySem PySem.W PyProof.Rows PySem.Calls PySem.Spec
section
variable {α : Type}
theorem mem1 {a x : α} {y : List α} : x ∈ a :: x :: y := .tail _ (.head _)
theorem mem2 {a b x : α} {y : List α} : x ∈ a :: b :: x :: y := .tail _ mem1
theorem mem3 {a b c x : α} {y : List α} : x ∈ a :: b :: c :: x :: y := .tail _ mem2
theorem mem4 {a b c d x : α} {y : List α} : x ∈ a :: b :: c :: d :: x :: y := .tail _ mem3
theorem mem5 {a b c d e x : α} {y : List α} : x ∈ a :: b :: c :: d :: e :: x :: y := .tail _ mem4
theorem mem6 {a b c d e f x : α} {y : List α} : x ∈ a :: b :: c :: d :: e :: f :: x :: y := .tail _ mem5
theorem mem7 {a b c d e f g x : α} {y : List α} : x ∈ a :: b :: c :: d :: e :: f :: g :: x :: y := .tail _ mem6
theorem mem8 {a b c d e f g h x : α} {y : List α} : x ∈ a :: b :: c :: d :: e :: f :: g :: h :: x :: y := .tail _ mem7
theorem mem9 {a b c d e f g h i x : α} {y : List α} : x ∈ a :: b :: c :: d :: e :: f :: g :: h :: i :: x :: y := .tail _ mem8
theorem mem10 {a b c d e f g h i j x : α} {y : List α} : x ∈ a :: b :: c :: d :: e :: f :: g :: h :: i :: j :: x :: y := .tail _ mem9
theorem mem11 {a b c d e f g h i j k x : α} {y : List α} : x ∈ a :: b :: c :: d :: e :: f :: g :: h :: i :: j :: k :: x :: y := .tail _ mem10
theorem mem12 {a b c d e f g h i j k l x : α} {y : List α} : x ∈ a :: b :: c :: d :: e :: f :: g :: h :: i :: j :: k :: l :: x :: y := .tail _ mem11
theorem mem13 {a b c d e f g h i j k l m x : α} {y : List α} : x ∈ a :: b :: c :: d :: e :: f :: g :: h :: i :: j :: k :: l :: m :: x :: y := .tail _ mem12
theorem mem14 {a b c d e f g h i j k l m n x : α} {y : List α} : x ∈ a :: b :: c :: d :: e :: f :: g :: h :: i :: j :: k :: l :: m :: n :: x :: y := .tail _ mem13
theorem memT2 {a b x : α} {y : List α} (z : x ∈ y) : x ∈ a :: b :: y := .tail _ (.tail _ z)
theorem memT3 {a b c x : α} {y : List α} (z : x ∈ y) : x ∈ a :: b :: c :: y := .tail _ (memT2 z)
theorem memT4 {a b c d x : α} {y : List α} (z : x ∈ y) : x ∈ a :: b :: c :: d :: y := .tail _ (memT3 z)
theorem memT5 {a b c d e x : α} {y : List α} (z : x ∈ y) : x ∈ a :: b :: c :: d :: e :: y := .tail _ (memT4 z)
theorem memT6 {a b c d e f x : α} {y : List α} (z : x ∈ y) : x ∈ a :: b :: c :: d :: e :: f :: y := .tail _ (memT5 z)
theorem memT7 {a b c d e f g x : α} {y : List α} (z : x ∈ y) : x ∈ a :: b :: c :: d :: e :: f :: g :: y := .tail _ (memT6 z)
theorem memT8 {a b c d e f g h x : α} {y : List α} (z : x ∈ y) : x ∈ a :: b :: c :: d :: e :: f :: g :: h :: y := .tail _ (memT7 z)
theorem memT9 {a b c d e f g h i x : α} {y : List α} (z : x ∈ y) : x ∈ a :: b :: c :: d :: e :: f :: g :: h :: i :: y := .tail _ (memT8 z)
theorem memT10 {a b c d e f g h i j x : α} {y : List α} (z : x ∈ y) : x ∈ a :: b :: c :: d :: e :: f :: g :: h :: i :: j :: y := .tail _ (memT9 z)
theorem memT11 {a b c d e f g h i j k x : α} {y : List α} (z : x ∈ y) : x ∈ a :: b :: c :: d :: e :: f :: g :: h :: i :: j :: k :: y := .tail _ (memT10 z)
theorem memT12 {a b c d e f g h i j k l x : α} {y : List α} (z : x ∈ y) : x ∈ a :: b :: c :: d :: e :: f :: g :: h :: i :: j :: k :: l :: y := .tail _ (memT11 z)
theorem memT13 {a b c d e f g h i j k l m x : α} {y : List α} (z : x ∈ y) : x ∈ a :: b :: c :: d :: e :: f :: g :: h :: i :: j :: k :: l :: m :: y := .tail _ (memT12 z)
theorem memT14 {a b c d e f g h i j k l m n x : α} {y : List α} (z : x ∈ y) : x ∈ a :: b :: c :: d :: e :: f :: g :: h :: i :: j :: k :: l :: m :: n :: y := .tail _ (memT13 z)
theorem allCons {P : α → Prop} {a : α} {l : List α} (h : P a) (t : ∀ x ∈ l, P x) : ∀ x ∈ a :: l, P x := List.forall_mem_cons.mpr ⟨h, t⟩
end
theorem cjA0 {q : Prop} {a b : Nat} (z : a < b ∧ q) : a ≠ b := Nat.ne_of_lt z.1
theorem cjB0 {q : Prop} {a b : Nat} (z : b < a ∧ q) : a ≠ b := Nat.ne_of_gt z.1
theorem cjA1 {p0 q : Prop} {a b : Nat} (z : p0 ∧ a < b ∧ q) : a ≠ b := Nat.ne_of_lt z.2.1
theorem cjB1 {p0 q : Prop} {a b : Nat} (z : p0 ∧ b < a ∧ q) : a ≠ b := Nat.ne_of_gt z.2.1
theorem cjA2 {p0 p1 q : Prop} {a b : Nat} (z : p0 ∧ p1 ∧ a < b ∧ q) : a ≠ b := Nat.ne_of_lt z.2.2.1
theorem cjB2 {p0 p1 q : Prop} {a b : Nat} (z : p0 ∧ p1 ∧ b < a ∧ q) : a ≠ b := Nat.ne_of_gt z.2.2.1
theorem cjA3 {p0 p1 p2 q : Prop} {a b : Nat} (z : p0 ∧ p1 ∧ p2 ∧ a < b ∧ q) : a ≠ b := Nat.ne_of_lt z.2.2.2.1
theorem cjB3 {p0 p1 p2 q : Prop} {a b : Nat} (z : p0 ∧ p1 ∧ p2 ∧ b < a ∧ q) : a ≠ b := Nat.ne_of_gt z.2.2.2.1
theorem cjA4 {p0 p1 p2 p3 q : Prop} {a b : Nat} (z : p0 ∧ p1 ∧ p2 ∧ p3 ∧ a < b ∧ q) : a ≠ b := Nat.ne_of_lt z.2.2.2.2.1
theorem cjB4 {p0 p1 p2 p3 q : Prop} {a b : Nat} (z : p0 ∧ p1 ∧ p2 ∧ p3 ∧ b < a ∧ q) : a ≠ b := Nat.ne_of_gt z.2.2.2.2.1
theorem cjA5 {p0 p1 p2 p3 p4 q : Prop} {a b : Nat} (z : p0 ∧ p1 ∧ p2 ∧ p3 ∧ p4 ∧ a < b ∧ q) : a ≠ b := Nat.ne_of_lt z.2.2.2.2.2.1
theorem cjB5 {p0 p1 p2 p3 p4 q : Prop} {a b : Nat} (z : p0 ∧ p1 ∧ p2 ∧ p3 ∧ p4 ∧ b < a ∧ q) : a ≠ b := Nat.ne_of_gt z.2.2.2.2.2.1
theorem cjA6 {p0 p1 p2 p3 p4 p5 q : Prop} {a b : Nat} (z : p0 ∧ p1 ∧ p2 ∧ p3 ∧ p4 ∧ p5 ∧ a < b ∧ q) : a ≠ b := Nat.ne_of_lt z.2.2.2.2.2.2.1
theorem cjB6 {p0 p1 p2 p3 p4 p5 q : Prop} {a b : Nat} (z : p0 ∧ p1 ∧ p2 ∧ p3 ∧ p4 ∧ p5 ∧ b < a ∧ q) : a ≠ b := Nat.ne_of_gt z.2.2.2.2.2.2.1
theorem cjA7 {p0 p1 p2 p3 p4 p5 p6 q : Prop} {a b : Nat} (z : p0 ∧ p1 ∧ p2 ∧ p3 ∧ p4 ∧ p5 ∧ p6 ∧ a < b ∧ q) : a ≠ b := Nat.ne_of_lt z.2.2.2.2.2.2.2.1
theorem cjB7 {p0 p1 p2 p3 p4 p5 p6 q : Prop} {a b : Nat} (z : p0 ∧ p1 ∧ p2 ∧ p3 ∧ p4 ∧ p5 ∧ p6 ∧ b < a ∧ q) : a ≠ b := Nat.ne_of_gt z.2.2.2.2.2.2.2.1
theorem cjA8 {p0 p1 p2 p3 p4 p5 p6 p7 q : Prop} {a b : Nat} (z : p0 ∧ p1 ∧ p2 ∧ p3 ∧ p4 ∧ p5 ∧ p6 ∧ p7 ∧ a < b ∧ q) : a ≠ b := Nat.ne_of_lt z.2.2.2.2.2.2.2.2.1
theorem cjB8 {p0 p1 p2 p3 p4 p5 p6 p7 q : Prop} {a b : Nat} (z : p0 ∧ p1 ∧ p2 ∧ p3 ∧ p4 ∧ p5 ∧ p6 ∧ p7 ∧ b < a ∧ q) : a ≠ b := Nat.ne_of_gt z.2.2.2.2.2.2.2.2.1
theorem cjA9 {p0 p1 p2 p3 p4 p5 p6 p7 p8 q : Prop} {a b : Nat} (z : p0 ∧ p1 ∧ p2 ∧ p3 ∧ p4 ∧ p5 ∧ p6 ∧ p7 ∧ p8 ∧ a < b ∧ q) : a ≠ b := Nat.ne_of_lt z.2.2.2.2.2.2.2.2.2.1
theorem cjB9 {p0 p1 p2 p3 p4 p5 p6 p7 p8 q : Prop} {a b : Nat} (z : p0 ∧ p1 ∧ p2 ∧ p3 ∧ p4 ∧ p5 ∧ p6 ∧ p7 ∧ p8 ∧ b < a ∧ q) : a ≠ b := Nat.ne_of_gt z.2.2.2.2.2.2.2.2.2.1
theorem cjA10 {p0 p1 p2 p3 p4 p5 p6 p7 p8 p9 q : Prop} {a b : Nat} (z : p0 ∧ p1 ∧ p2 ∧ p3 ∧ p4 ∧ p5 ∧ p6 ∧ p7 ∧ p8 ∧ p9 ∧ a < b ∧ q) : a ≠ b := Nat.ne_of_lt z.2.2.2.2.2.2.2.2.2.2.1
theorem cjB10 {p0 p1 p2 p3 p4 p5 p6 p7 p8 p9 q : Prop} {a b : Nat} (z : p0 ∧ p1 ∧ p2 ∧ p3 ∧ p4 ∧ p5 ∧ p6 ∧ p7 ∧ p8 ∧ p9 ∧ b < a ∧ q) : a ≠ b := Nat.ne_of_gt z.2.2.2.2.2.2.2.2.2.2.1
theorem cjA11 {p0 p1 p2 p3 p4 p5 p6 p7 p8 p9 p10 q : Prop} {a b : Nat} (z : p0 ∧ p1 ∧ p2 ∧ p3 ∧ p4 ∧ p5 ∧ p6 ∧ p7 ∧ p8 ∧ p9 ∧ p10 ∧ a < b ∧ q) : a ≠ b := Nat.ne_of_lt z.2.2.2.2.2.2.2.2.2.2.2.1
theorem cjB11 {p0 p1 p2 p3 p4 p5 p6 p7 p8 p9 p10 q : Prop} {a b : Nat} (z : p0 ∧ p1 ∧ p2 ∧ p3 ∧ p4 ∧ p5 ∧ p6 ∧ p7 ∧ p8 ∧ p9 ∧ p10 ∧ b < a ∧ q) : a ≠ b := Nat.ne_of_gt z.2.2.2.2.2.2.2.2.2.2.2.1
theorem cjA12 {p0 p1 p2 p3 p4 p5 p6 p7 p8 p9 p10 p11 q : Prop} {a b : Nat} (z : p0 ∧ p1 ∧ p2 ∧ p3 ∧ p4 ∧ p5 ∧ p6 ∧ p7 ∧ p8 ∧ p9 ∧ p10 ∧ p11 ∧ a < b ∧ q) : a ≠ b := Nat.ne_of_lt z.2.2.2.2.2.2.2.2.2.2.2.2.1
theorem cjB12 {p0 p1 p2 p3 p4 p5 p6 p7 p8 p9 p10 p11 q : Prop} {a b : Nat} (z : p0 ∧ p1 ∧ p2 ∧ p3 ∧ p4 ∧ p5 ∧ p6 ∧ p7 ∧ p8 ∧ p9 ∧ p10 ∧ p11 ∧ b < a ∧ q) : a ≠ b := Nat.ne_of_gt z.2.2.2.2.2.2.2.2.2.2.2.2.1
theorem cjA13 {p0 p1 p2 p3 p4 p5 p6 p7 p8 p9 p10 p11 p12 q : Prop} {a b : Nat} (z : p0 ∧ p1 ∧ p2 ∧ p3 ∧ p4 ∧ p5 ∧ p6 ∧ p7 ∧ p8 ∧ p9 ∧ p10 ∧ p11 ∧ p12 ∧ a < b ∧ q) : a ≠ b := Nat.ne_of_lt z.2.2.2.2.2.2.2.2.2.2.2.2.2.1
theorem cjB13 {p0 p1 p2 p3 p4 p5 p6 p7 p8 p9 p10 p11 p12 q : Prop} {a b : Nat} (z : p0 ∧ p1 ∧ p2 ∧ p3 ∧ p4 ∧ p5 ∧ p6 ∧ p7 ∧ p8 ∧ p9 ∧ p10 ∧ p11 ∧ p12 ∧ b < a ∧ q) : a ≠ b := Nat.ne_of_gt z.2.2.2.2.2.2.2.2.2.2.2.2.2.1
theorem ne0 {x : Addr} {a0 : Addr} {o0 : Obj} {l : List (Addr × Obj)} (h : ∀ q ∈ (a0, o0) :: l, @Ne Nat q.1 x) : @Ne Nat a0 x := h _ (.head _)
theorem ne1 {x : Addr} {a0 a1 : Addr} {o0 o1 : Obj} {l : List (Addr × Obj)} (h : ∀ q ∈ (a0, o0) :: (a1, o1) :: l, @Ne Nat q.1 x) : @Ne Nat a1 x := h _ mem1
theorem ne2 {x : Addr} {a0 a1 a2 : Addr} {o0 o1 o2 : Obj} {l : List (Addr × Obj)} (h : ∀ q ∈ (a0, o0) :: (a1, o1) :: (a2, o2) :: l, @Ne Nat q.1 x) : @Ne Nat a2 x := h _ mem2
theorem ne3 {x : Addr} {a0 a1 a2 a3 : Addr} {o0 o1 o2 o3 : Obj} {l : List (Addr × Obj)} (h : ∀ q ∈ (a0, o0) :: (a1, o1) :: (a2, o2) :: (a3, o3) :: l, @Ne Nat q.1 x) : @Ne Nat a3 x := h _ mem3
theorem ne4 {x : Addr} {a0 a1 a2 a3 a4 : Addr} {o0 o1 o2 o3 o4 : Obj} {l : List (Addr × Obj)} (h : ∀ q ∈ (a0, o0) :: (a1, o1) :: (a2, o2) :: (a3, o3) :: (a4, o4) :: l, @Ne Nat q.1 x) : @Ne Nat a4 x := h _ mem4
theorem ne5 {x : Addr} {a0 a1 a2 a3 a4 a5 : Addr} {o0 o1 o2 o3 o4 o5 : Obj} {l : List (Addr × Obj)} (h : ∀ q ∈ (a0, o0) :: (a1, o1) :: (a2, o2) :: (a3, o3) :: (a4, o4) :: (a5, o5) :: l, @Ne Nat q.1 x) : @Ne Nat a5 x := h _ mem5
theorem ne6 {x : Addr} {a0 a1 a2 a3 a4 a5 a6 : Addr} {o0 o1 o2 o3 o4 o5 o6 : Obj} {l : List (Addr × Obj)} (h : ∀ q ∈ (a0, o0) :: (a1, o1) :: (a2, o2) :: (a3, o3) :: (a4, o4) :: (a5, o5) :: (a6, o6) :: l, @Ne Nat q.1 x) : @Ne Nat a6 x := h _ mem6
theorem neT4 {x : Addr} {a0 a1 a2 a3 : Addr} {o0 o1 o2 o3 : Obj} {l : List (Addr × Obj)} (h : ∀ q ∈ (a0, o0) :: (a1, o1) :: (a2, o2) :: (a3, o3) :: l, @Ne Nat q.1 x) : ∀ q ∈ l, @Ne Nat q.1 x := fun q hq => h q (memT4 hq)
theorem neT5 {x : Addr} {a0 a1 a2 a3 a4 : Addr} {o0 o1 o2 o3 o4 : Obj} {l : List (Addr × Obj)} (h : ∀ q ∈ (a0, o0) :: (a1, o1) :: (a2, o2) :: (a3, o3) :: (a4, o4) :: l, @Ne Nat q.1 x) : ∀ q ∈ l, @Ne Nat q.1 x := fun q hq => h q (memT5 hq)
theorem neT7 {x : Addr} {a0 a1 a2 a3 a4 a5 a6 : Addr} {o0 o1 o2 o3 o4 o5 o6 : Obj} {l : List (Addr × Obj)} (h : ∀ q ∈ (a0, o0) :: (a1, o1) :: (a2, o2) :: (a3, o3) :: (a4, o4) :: (a5, o5) :: (a6, o6) :: l, @Ne Nat q.1 x) : ∀ q ∈ l, @Ne Nat q.1 x := fun q hq => h q (memT7 hq)
theorem nn0 {t : List (Addr × Obj)} {a0 : Addr} {o0 : Obj} {l : List (Addr × Obj)} (h : ∀ q ∈ (a0, o0) :: l, ∀ p ∈ t, @Ne Nat p.1 q.1) : ∀ p ∈ t, @Ne Nat p.1 a0 := h _ (.head _)
theorem nn1 {t : List (Addr × Obj)} {a0 a1 : Addr} {o0 o1 : Obj} {l : List (Addr × Obj)} (h : ∀ q ∈ (a0, o0) :: (a1, o1) :: l, ∀ p ∈ t, @Ne Nat p.1 q.1) : ∀ p ∈ t, @Ne Nat p.1 a1 := h _ mem1
theorem nn10 {t : List (Addr × Obj)} {a0 a1 a2 a3 a4 a5 a6 a7 a8 a9 a10 : Addr} {o0 o1 o2 o3 o4 o5 o6 o7 o8 o9 o10 : Obj} {l : List (Addr × Obj)} (h : ∀ q ∈ (a0, o0) :: (a1, o1) :: (a2, o2) :: (a3, o3) :: (a4, o4) :: (a5, o5) :: (a6, o6) :: (a7, o7) :: (a8, o8) :: (a9, o9) :: (a10, o10) :: l, ∀ p ∈ t, @Ne Nat p.1 q.1) : ∀ p ∈ t, @Ne Nat p.1 a10 := h _ mem10
theorem nn11 {t : List (Addr × Obj)} {a0 a1 a2 a3 a4 a5 a6 a7 a8 a9 a10 a11 : Addr} {o0 o1 o2 o3 o4 o5 o6 o7 o8 o9 o10 o11 : Obj} {l : List (Addr × Obj)} (h : ∀ q ∈ (a0, o0) :: (a1, o1) :: (a2, o2) :: (a3, o3) :: (a4, o4) :: (a5, o5) :: (a6, o6) :: (a7, o7) :: (a8, o8) :: (a9, o9) :: (a10, o10) :: (a11, o11) :: l, ∀ p ∈ t, @Ne Nat p.1 q.1) : ∀ p ∈ t, @Ne Nat p.1 a11 := h _ mem11
theorem nn12 {t : List (Addr × Obj)} {a0 a1 a2 a3 a4 a5 a6 a7 a8 a9 a10 a11 a12 : Addr} {o0 o1 o2 o3 o4 o5 o6 o7 o8 o9 o10 o11 o12 : Obj} {l : List (Addr × Obj)} (h : ∀ q ∈ (a0, o0) :: (a1, o1) :: (a2, o2) :: (a3, o3) :: (a4, o4) :: (a5, o5) :: (a6, o6) :: (a7, o7) :: (a8, o8) :: (a9, o9) :: (a10, o10) :: (a11, o11) :: (a12, o12) :: l, ∀ p ∈ t, @Ne Nat p.1 q.1) : ∀ p ∈ t, @Ne Nat p.1 a12 := h _ mem12
theorem nn2 {t : List (Addr × Obj)} {a0 a1 a2 : Addr} {o0 o1 o2 : Obj} {l : List (Addr × Obj)} (h : ∀ q ∈ (a0, o0) :: (a1, o1) :: (a2, o2) :: l, ∀ p ∈ t, @Ne Nat p.1 q.1) : ∀ p ∈ t, @Ne Nat p.1 a2 := h _ mem2
theorem nn3 {t : List (Addr × Obj)} {a0 a1 a2 a3 : Addr} {o0 o1 o2 o3 : Obj} {l : List (Addr × Obj)} (h : ∀ q ∈ (a0, o0) :: (a1, o1) :: (a2, o2) :: (a3, o3) :: l, ∀ p ∈ t, @Ne Nat p.1 q.1) : ∀ p ∈ t, @Ne Nat p.1 a3 := h _ mem3
theorem nn6 {t : List (Addr × Obj)} {a0 a1 a2 a3 a4 a5 a6 : Addr} {o0 o1 o2 o3 o4 o5 o6 : Obj} {l : List (Addr × Obj)} (h : ∀ q ∈ (a0, o0) :: (a1, o1) :: (a2, o2) :: (a3, o3) :: (a4, o4) :: (a5, o5) :: (a6, o6) :: l, ∀ p ∈ t, @Ne Nat p.1 q.1) : ∀ p ∈ t, @Ne Nat p.1 a6 := h _ mem6
theorem nnT12 {t : List (Addr × Obj)} {a0 a1 a2 a3 a4 a5 a6 a7 a8 a9 a10 a11 : Addr} {o0 o1 o2 o3 o4 o5 o6 o7 o8 o9 o10 o11 : Obj} {l : List (Addr × Obj)} (h : ∀ q ∈ (a0, o0) :: (a1, o1) :: (a2, o2) :: (a3, o3) :: (a4, o4) :: (a5, o5) :: (a6, o6) :: (a7, o7) :: (a8, o8) :: (a9, o9) :: (a10, o10) :: (a11, o11) :: l, ∀ p ∈ t, @Ne Nat p.1 q.1) : ∀ q ∈ l, ∀ p ∈ t, @Ne Nat p.1 q.1 := fun q hq => h q (memT12 hq)
theorem nnT13 {t : List (Addr × Obj)} {a0 a1 a2 a3 a4 a5 a6 a7 a8 a9 a10 a11 a12 : Addr} {o0 o1 o2 o3 o4 o5 o6 o7 o8 o9 o10 o11 o12 : Obj} {l : List (Addr × Obj)} (h : ∀ q ∈ (a0, o0) :: (a1, o1) :: (a2, o2) :: (a3, o3) :: (a4, o4) :: (a5, o5) :: (a6, o6) :: (a7, o7) :: (a8, o8) :: (a9, o9) :: (a10, o10) :: (a11, o11) :: (a12, o12) :: l, ∀ p ∈ t, @Ne Nat p.1 q.1) : ∀ q ∈ l, ∀ p ∈ t, @Ne Nat p.1 q.1 := fun q hq => h q (memT13 hq)
theorem nnT7 {t : List (Addr × Obj)} {a0 a1 a2 a3 a4 a5 a6 : Addr} {o0 o1 o2 o3 o4 o5 o6 : Obj} {l : List (Addr × Obj)} (h : ∀ q ∈ (a0, o0) :: (a1, o1) :: (a2, o2) :: (a3, o3) :: (a4, o4) :: (a5, o5) :: (a6, o6) :: l, ∀ p ∈ t, @Ne Nat p.1 q.1) : ∀ q ∈ l, ∀ p ∈ t, @Ne Nat p.1 q.1 := fun q hq => h q (memT7 hq)
theorem n3i {i : Nat} (h : i < 3) : i = 0 ∨ i = 1 ∨ i = 2 := (by decide : ∀ i : Fin 3, i.val = 0 ∨ i.val = 1 ∨ i.val = 2) ⟨i, h⟩
theorem n5i {i : Nat} (h : i < 5) : i = 0 ∨ i = 1 ∨ i = 2 ∨ i = 3 ∨ i = 4 := (by decide : ∀ i : Fin 5, i.val = 0 ∨ i.val = 1 ∨ i.val = 2 ∨ i.val = 3 ∨ i.val = 4) ⟨i, h⟩
theorem tri {r : Int} (h0 : 0 ≤ r) (h3 : r < 3) : r = 0 ∨ r = 1 ∨ r = 2 := by
  obtain ⟨n, rfl⟩ := Int.eq_ofNat_of_zero_le h0
  exact (by decide : ∀ i : Fin 3, ((i.val : Nat) : Int) = 0 ∨ ((i.val : Nat) : Int) = 1 ∨ ((i.val : Nat) : Int) = 2) ⟨n, Int.ofNat_lt.mp h3⟩
theorem two {r : Int} (h0 : 0 ≤ r) (h3 : r < 2) : r = 0 ∨ r = 1 := by
  obtain ⟨n, rfl⟩ := Int.eq_ofNat_of_zero_le h0
  exact (by decide : ∀ i : Fin 2, ((i.val : Nat) : Int) = 0 ∨ ((i.val : Nat) : Int) = 1) ⟨n, Int.ofNat_lt.mp h3⟩
theorem five {r : Int} (h0 : 0 ≤ r) (h3 : r < 5) : r = 0 ∨ r = 1 ∨ r = 2 ∨ r = 3 ∨ r = 4 := by
  obtain ⟨n, rfl⟩ := Int.eq_ofNat_of_zero_le h0
  exact (by decide : ∀ i : Fin 5, ((i.val : Nat) : Int) = 0 ∨ ((i.val : Nat) : Int) = 1 ∨ ((i.val : Nat) : Int) = 2 ∨ ((i.val : Nat) : Int) = 3 ∨ ((i.val : Nat) : Int) = 4) ⟨n, Int.ofNat_lt.mp h3⟩
theorem nqx {r : Int} (h0 : 0 ≤ r) (h4 : r < 4) : ∃ n : Nat, (if r - 1 > 0 then r - 1 else 0) = (n : Int) ∧ n ≤ 2 := by
  obtain ⟨n, rfl⟩ := Int.eq_ofNat_of_zero_le h0
  obtain ⟨m, hm⟩ := (by decide : ∀ i : Fin 4, ∃ m : Fin 3, (if ((i.val : Nat) : Int) - 1 > 0 then ((i.val : Nat) : Int) - 1 else 0) = ((m.val : Nat) : Int)) ⟨n, Int.ofNat_lt.mp h4⟩
  exact ⟨m.val, hm, Nat.le_of_lt_succ m.isLt⟩
theorem log3 {i : Nat} (h : i < 3) : ((i : Int)).natAbs.log2 < 1920 := (by decide : ∀ i : Fin 3, ((i.val : Nat) : Int).natAbs.log2 < 1920) ⟨i, h⟩
theorem m1x {n i : Nat} (h : i < n) : n + 1 - (i + 1) < n + 1 - i := by rw [Nat.add_sub_add_right]; exact Nat.sub_lt_sub_right (Nat.le_of_lt h) (Nat.lt_succ_self n)
theorem cl {k n : Nat} (h : k ≤ n) : max (0 : Int) (min (if (k : Int) < 0 then (k : Int) + n else k) n) = k := by
  rw [if_neg (Int.not_lt.mpr (Int.natCast_nonneg k)), Int.min_eq_left (Int.ofNat_le.mpr h), Int.max_eq_right (Int.natCast_nonneg k)]
theorem f1x {p : Int} : (p + 1 - 1).toNat = p.toNat := by rw [Int.add_sub_cancel]
theorem nw1 {x : Int} (h : 0 ≤ x) : 0 ≤ x + 1 := Int.le_trans h (Int.le_add_of_nonneg_right (by decide))
theorem nw2 {x : Int} (h : 0 ≤ x) : 0 ≤ x + 1 + 1 := nw1 (nw1 h)
theorem nw3 {x : Int} (h : 0 ≤ x) : 0 ≤ x + 1 + 1 + 1 := nw1 (nw2 h)
theorem nw4 {x : Int} (h : 0 ≤ x) : 0 ≤ x + 1 + 1 + 1 + 1 := nw1 (nw3 h)
theorem bd5c {x : Int} (h : x ≤ 80) : x + 1 + 1 + 1 < 100000 := by omega
theorem bd5b {x : Int} (h : x ≤ 80) : x + 1 + 1 < 100000 := Int.lt_trans (Int.lt_add_one_of_le (Int.le_refl _)) (bd5c h)
theorem bd5a {x : Int} (h : x ≤ 80) : x + 1 < 100000 := Int.lt_trans (Int.lt_add_one_of_le (Int.le_refl _)) (bd5b h)
theorem bd5 {x : Int} (h : x ≤ 80) : x < 100000 := Int.lt_trans (Int.lt_add_one_of_le (Int.le_refl _)) (bd5a h)
theorem z22 {p : Int} : p + 1 + 1 ≤ p + 2 + ((0 : Nat) : Int) := by omega
theorem z11 {q : Int} : q + 1 + 1 ≤ q + 1 + 1 + ((0 : Nat) : Int) := by omega
theorem qs {p q : Int} {i : Nat} (h : q ≤ p + 2 + i) : q + 1 ≤ p + 2 + ((i + 1 : Nat) : Int) := by omega
theorem ps {p q : Int} {j : Nat} (h : p ≤ q + 1 + 1 + j) : p + 1 ≤ q + 1 + 1 + ((j + 1 : Nat) : Int) := by omega
theorem pb {p : Int} {i : Nat} (h : p ≤ 7 + 20 * i) (hi : i < 4) : p ≤ 67 := by omega
theorem qb {p q : Int} {i : Nat} (hp : p ≤ 67) (h : q ≤ p + 2 + i) (hi : i ≤ 2) : q ≤ 71 := by omega
theorem rb {p q : Int} {j : Nat} (hq : q ≤ 71) (h : p ≤ q + 1 + 1 + j) (hj : j ≤ 4) : p ≤ 80 := by omega
theorem to80 {p : Int} {b : Int} (h : p ≤ b) (hb : b ≤ 80 := by decide) : p ≤ 80 := Int.le_trans h hb
theorem pd4 {p q : Int} {n : Nat} (h : p ≤ q + 1 + 1 + n) (hn : n < 4) : p + 1 + 1 + 1 + 1 ≤ q + 1 + 1 + 7 := by omega
theorem pd3 {p q : Int} {n : Nat} (h : p ≤ q + 1 + 1 + n) (hn : n < 4) : p + 1 + 1 + 1 ≤ q + 1 + 1 + 7 := Int.le_of_lt (Int.lt_of_lt_of_le (Int.lt_add_one_of_le (Int.le_refl _)) (pd4 h hn))
theorem pd1 {p q : Int} {n : Nat} (h : p ≤ q + 1 + 1 + n) (hn : n < 4) : p + 1 ≤ q + 1 + 1 + 7 := Int.le_of_lt (Int.lt_of_lt_of_le (Int.lt_add_one_of_le (Int.le_of_lt (Int.lt_add_one_of_le (Int.le_refl _)))) (pd3 h hn))
theorem pl {p q p4 : Int} {i n : Nat} (hp : p ≤ 7 + 20 * i) (hq : q ≤ p + 2 + n) (hn : n ≤ 2) (h : p4 ≤ q + 1 + 1 + 7) : p4 ≤ 7 + 20 * ((i + 1 : Nat) : Int) := by omega
theorem wl3 {a b c n : Nat} (h : a ≤ n) (hn : n < 4) (hb : b ≤ 1) (hc : c ≤ 1) : a + b + c ≤ 6 := by omega
theorem wl2 {a b n : Nat} (h : a ≤ n) (hn : n < 4) (hb : b ≤ 1) : a + b ≤ 6 := wl3 h hn hb (Nat.zero_le 1)
theorem wl1 {a n : Nat} (h : a ≤ n) (hn : n < 4) : a ≤ 6 := wl2 h hn (Nat.zero_le 1)
theorem w6 {a : Nat} (h : a ≤ 6) : a < 50000 := Nat.lt_of_le_of_lt h (by decide)
theorem w6a {a : Nat} (h : a ≤ 6) : 0 + 1 + a < 50000 := by omega
theorem w6b {a : Nat} (h : a ≤ 6) : a + (0 + 1) < 50000 := by omega
theorem nq1 {k n : Nat} (h : k = n) (h1 : (k : Int) ≠ 1) : n ≠ 1 := by omega
theorem eq1 {k n : Nat} (h : k = n) (h1 : (k : Int) = 1) : n = 1 := by omega
theorem eq1' {k n : Nat} (h : n = k) (h1 : (k : Int) = 1) : n = 1 := by omega
theorem r0z {p : Int} : p + 1 ≤ p + 1 + 2 * ((0 : Nat) : Int) := by omega
theorem rlv {r l : Int} {i : Nat} (h3 : r < 3) (hi : (i : Int) < 1 + r) (e : (i : Int) = l) : i < 3 ∧ l = (i : Int) := ⟨by omega, e.symm⟩
theorem rpb {p0 p : Int} {i : Nat} (h0 : p0 < 50000) (hi : i < 3) (h : p ≤ p0 + 1 + 2 * i) : p + 1 < 100000 := by omega
theorem rpa {p0 p : Int} {i : Nat} (h0 : p0 < 50000) (hi : i < 3) (h : p ≤ p0 + 1 + 2 * i) : p < 100000 := Int.lt_trans (Int.lt_add_one_of_le (Int.le_refl _)) (rpb h0 hi h)
theorem rps {p0 p q : Int} {i : Nat} (h : p ≤ p0 + 1 + 2 * i) (hq : q ≤ p + 1) : q + 1 ≤ p0 + 1 + 2 * ((i + 1 : Nat) : Int) := by omega
theorem rpe {p0 p r : Int} (h3 : r < 3) (h : p ≤ p0 + 1 + 2 * ((1 + r).toNat : Int)) : p ≤ p0 + 7 := by omega
theorem rn3 {r : Int} (h3 : r < 3) : (1 + r).toNat ≤ 3 := by omega
theorem l19 {n : Nat} (h : n ≤ 19) : n ≤ 1000 := Nat.le_trans h (by decide)
theorem le16 {n b : Nat} (h : n ≤ b) (hb : b ≤ 1000 := by decide) : n ≤ 16777216 := Nat.le_trans h (Nat.le_trans hb (by decide))
theorem i11 {n k : Nat} (h : n ≤ 2 + 3 * k) (hk : k ≤ 3) : n ≤ 2 + 3 * 3 := Nat.le_trans h (Nat.add_le_add_left (Nat.mul_le_mul_left 3 hk) 2)
section
variable {α : Type} {M : Model} {A : Around} {t : Sem α} {Q₀ : α → Shared → Prop} {E₀ E : Value → Shared → Prop} {s : Shared} {env : Env} {st : Stmt} {rest : List Stmt} {Q : Flow → Shared → Prop}
/-- the post as a name, and no fault: so each step's term is short -/
theorem post_gen (h : ∀ Q : α → Shared → Prop, (∀ a s', Q₀ a s' → Q a s') → wpAny M A t Q (fun _ _ => False) s) : wpAny M A t Q₀ E₀ s :=
  wpAny_mono (h Q₀ fun _ _ x => x) (fun _ _ x => x) fun _ _ x => x.elim
theorem execs_joinG (J : Shared → Prop) (h1 : ∀ Q : Flow → Shared → Prop, (∀ s', J s' → Q .next s') → wpAny M A (exec st env) Q E s) (h2 : ∀ s', J s' → wpAny M A (execs rest env) Q E s') :
    wpAny M A (execs (st :: rest) env) Q E s :=
  wpAny_execs_cons (wpAny_mono (h1 (fun fl s' => fl = .next ∧ J s') fun _ j => ⟨rfl, j⟩) (fun fl s' h => by obtain ⟨rfl, j⟩ := h; exact h2 s' j) fun _ _ e => e)
end
section
variable {M : Model} {A : Around} {s : Shared} {env : Env} {st : Stmt} {rest : List Stmt} {Q : Flow → Shared → Prop} {E : Value → Shared → Prop}
@[reducible] noncomputable def After (M : Model) (A : Around) (rest : List Stmt) (env : Env) (Q : Flow → Shared → Prop) (E : Value → Shared → Prop) : Flow → Shared → Prop := fun f s' => match f with | .next => wpAny M A (execs rest env) Q E s' | f => Q f s'
theorem execs_consA (h : wpAny M A (exec st env) (After M A rest env Q E) E s) : wpAny M A (execs (st :: rest) env) Q E s := wpAny_execs_cons h
@[reducible] noncomputable def Gives (Q : Value → Shared → Prop) (E : Value → Shared → Prop) : Result → Shared → Prop := fun r s' => match r with | .ok (.ret v) => Q v s' | .ok _ => False | .error e => E e s'
theorem wpAny_callA {f : Value} {pos : List Value} {kw : List (Str × Value)} {Q : Value → Shared → Prop} (hc : codeAny M A (.call f ⟨pos, kw⟩) (Gives Q E) s) : wpAny M A (call f pos kw) Q E s := wpAny_call hc
end
end T_Z0
section T_D5
open PySem PySem.W PyProof.Rows PySem.Calls PySem.Spec PySem.SeqAt
section
variable {prog : Program} {w : World} {A : Around} {E : Value → Shared → Prop} {s : Shared} {h₀ : Heap} {m : Str → Option Value} {env : Env}
/-- a comprehension that goes into a name at once -/
theorem compA {elt iter : PySem.Expr} {x y : Str} {px py : Pos} {ifs : List PySem.Expr} {scope : Scope} {cl : List (Str × Addr)} {pos spos : Pos} {Q : Flow → Shared → Prop} (p : Value → Bool) (P : Value → Value → Prop)
    (H : HOK A h₀) (hsw : swapsWith (.ListComp elt [⟨.Name x px, iter, ifs, 0⟩] scope pos) (some (.Name y py)) spos.line env = pure true) (hclos : closureFor scope env = pure cl) (hcell : ∀ y ∈ scope.names, y.2 ≠ .cell) (hkind : scope.kind = .function)
    (hnames : ∀ y ∈ scope.names, y.2 = .local → scope.names.lookup y.1 = some .local) (hx : scope.names.lookup x = some .local)
    (hy : env.kindOf y = some .local) (hp : (env.scope.kind == .class || (env.scope.kind == .module && env.locals != env.globals)) = false)
    (hs : ∀ x, foldedSetIterable iter env x = pure x)
    (h : wpAny (model prog w) A (eval iter env) (fun xv s₁ => CompIn prog w A h₀ env.locals env scope cl x ifs elt p P s₁ (fun m news vs => ∀ D k h' tk (ys : List Value), Fr h₀ env.locals h' (fun z => if z = y then some (.ref D) else m z) → News h₀ env.locals h' ((D, listOf ys.toArray k) :: news) → AllNe D news → Paired P (vs.filter p) ys → Q .next { s₁ with heap := h', toks := tk }) xv) E s) :
    wpAny (model prog w) A (exec (.Assign [.Name y py] (.ListComp elt [⟨.Name x px, iter, ifs, 0⟩] scope pos) spos) env) Q E s := by
  refine wpAny_Assign_ListComp_free p P hsw hclos hcell hkind hnames hx hy hp (wpAny_mono h (fun xv s₁ h₁ => ?_) fun _ _ e => e) hs
  obtain ⟨l, vs, m, news, rfl, hl, hsz, F, N, ht, he, hQ⟩ := h₁
  have hlt : l < s₁.heap.objs.size := by obtain ⟨_, e, _⟩ := hl; exact Heap.lt_size e
  obtain ⟨cl0, HL0⟩ := H.list
  have HL0' : HOKL A s₁.heap cl0 := HL0.at fun b _ o e => F.keep b o e
  have up : ∀ (s₃ : Shared), (∀ b o, b ∉ [s₁.heap.objs.size] → (s₁.heap.push { cls := .type "list_iterator", data := .fields #[.ref l, .int 0 0] }).get? b = some o → s₃.heap.get? b = some o) → ∀ b o, s₁.heap.get? b = some o → s₃.heap.get? b = some o :=
    fun s₃ hk b o e => hk b o (fun hm => by rcases List.mem_cons.mp hm with rfl | hm; exact Nat.lt_irrefl _ (Heap.lt_size e); cases hm) (Heap.get?_push_of_some _ e)
  refine wpAny_pyIter_list hl ⟨s₁.heap.objs.size, s₁.heap.objs.size :: l :: cl0, [s₁.heap.objs.size], vs.toArray.size, _, _, m, rfl,
    Walks.listH (prog := prog) (w := w) (A := A) (cl := cl0) _ _ (Nat.ne_of_lt hlt) (fun b hb => by obtain ⟨o, e⟩ := HL0'.1 b hb; exact Nat.ne_of_lt (Heap.lt_size e)) vs.toArray,
    (by rw [List.size_toArray, sizeLine_eq]; omega), ⟨⟨⟨_, Heap.get?_push_size _ rfl, rfl, rfl⟩, hl.at fun o e => Heap.get?_push_of_some _ e⟩, HL0'.at fun b _ o e => Heap.get?_push_of_some _ e⟩, ?_, ?_, (F.push _).ns, ⟨?_, ?_⟩, ?_⟩
  · intro b hb
    show b < (s₁.heap.push _).objs.size
    rw [Heap.size_push]
    rcases List.mem_cons.mp hb with rfl | hb
    · exact Nat.lt_succ_self _
    · rcases List.mem_cons.mp hb with rfl | hb
      · exact Nat.lt_succ_of_lt hlt
      · obtain ⟨o, e⟩ := HL0'.1 b hb; exact Nat.lt_succ_of_lt (Heap.lt_size e)
  · intro hm
    have := List.mem_singleton.mp hm
    exact absurd F.ns.lt (this ▸ Nat.lt_irrefl _)
  · intro C i v s₃ m₃ E' hC hP hn hm hk _
    have k := up s₃ hk
    exact ht C v s₃ m₃ E' (by simpa using Array.mem_of_getElem? hP) (Nat.le_of_succ_le (by simpa [Heap.size_push] using hC)) hn hm k (F.keeps k) (N.grown k)
  · intro C i v s₃ m₃ E' hC hP hp hn hm hk _
    have k := up s₃ hk
    exact he C v s₃ m₃ E' (by simpa using Array.mem_of_getElem? hP) hp (Nat.le_of_succ_le (by simpa [Heap.size_push] using hC)) hn hm k (F.keeps k) (N.grown k)
  · intro D h' tk ys vs' hnew hlD hplD hlen hP hF hns hk
    have e : vs' = vs := by simpa using list_of_places hlen hP
    subst e
    have keep : ∀ b o, b ≠ env.locals → s₁.heap.get? b = some o → h'.get? b = some o := fun b o nb e =>
      hk b o nb (fun hm => by rcases List.mem_cons.mp hm with rfl | hm; exact Nat.lt_irrefl _ (Heap.lt_size e); cases hm) (Heap.get?_push_of_some _ e)
    obtain ⟨k, hD⟩ := hplD
    have hnD : s₁.heap.get? D = none := by
      cases q : s₁.heap.get? D with
      | none => rfl
      | some o => rw [Heap.get?_push_of_some _ q] at hnew; cases hnew
    have bne : ∀ b o, h₀.get? b = some o → b ≠ env.locals := fun b o e => Nat.ne_of_lt (Nat.lt_of_lt_of_le (Heap.lt_size e) F.above)
    refine hQ D k h' tk ys.toList ⟨hns, fun b o e => keep b o (bne b o e) (F.keep b o e), F.above⟩ ?_ (allNe_made hnD N) hF
    intro p hp
    rcases List.mem_cons.mp hp with rfl | hp
    · refine ⟨by rw [Array.toArray_toList]; exact hD, ?_, ?_⟩
      · rintro rfl
        obtain ⟨o, _, _, q, _⟩ := F.ns
        rw [hnD] at q; cases q
      · cases q : h₀.get? D with
        | none => rfl
        | some o => have := F.keep _ _ q; rw [hnD] at this; cases this
    · exact ⟨keep _ _ (N p hp).2.1 (N p hp).1, (N p hp).2⟩
end
section
variable {prog : Program} {w : World} {A : Around} {E : Value → Shared → Prop} {s : Shared} {h₀ : Heap} {L : Addr} {m : Str → Option Value} {news : List (Addr × Obj)} {Q : Value → Shared → Prop}
theorem newListS {M : Model} {vs : List Value} (F : Fr h₀ L s.heap m) (N : News h₀ L s.heap news)
    (h : ∀ l h', s.heap.StaysIn h' → Fr h₀ L h' m → News h₀ L h' ((l, listOf vs.toArray 0) :: news) → (∀ p ∈ news, p.1 < l) → Q (.ref l) { s with heap := h' }) (hsz : vs.length ≤ sizeLine) : wpAny M A (newList vs) Q E s :=
  wpAny_newObj_type (h _ _ (fun _ _ e => Heap.get?_push_of_some _ e) (F.push _) (N.push F _) fun p hp => Heap.lt_size (N p hp).1) (by show vs.toArray.size ≤ sizeLine; rw [List.size_toArray]; exact hsz)
theorem addS {l b : Addr} {vs ws : List Value} (F : Fr h₀ L s.heap m) (N : News h₀ L s.heap news) (hl : s.heap.IsList l vs.toArray) (hb : s.heap.IsList b ws.toArray)
    (h : ∀ D h', s.heap.StaysIn h' → Fr h₀ L h' m → News h₀ L h' ((D, listOf (vs ++ ws).toArray 0) :: news) → (∀ p ∈ news, p.1 < D) → Q (.ref D) { s with heap := h' })
    (hsz : vs.length + ws.length < 50000) :
    wpAny (model prog w) A (binaryOp .Add (.ref l) (.ref b)) Q E s := by
  obtain ⟨⟨cls, dd, data, sl⟩, ho, hc, n, hd⟩ := id hl
  obtain ⟨⟨cls2, dd2, data2, sl2⟩, ho2, hc2, n2, hd2⟩ := id hb
  simp only at hc hd hc2 hd2
  subst hc hd hc2 hd2
  have e : vs.toArray ++ ws.toArray = (vs ++ ws).toArray := by simp
  refine concat_meets ⟨_, ho, rfl⟩ ⟨_, ho2, rfl⟩ noFill_list_add seq_list_add PySem.F.slot_list_add PySem.F.entry_list_add (PySem.F.args_list_add_2 _ _) (list_addW l b vs.toArray ws.toArray n n2 dd dd2 sl sl2 (by rw [sizeLine_eq]; simp; omega)) ⟨ho, ho2, ?_⟩
  rw [e]
  exact h _ _ (fun _ _ e => Heap.get?_push_of_some _ e) (F.push _) (News.push F N _) fun p hp => Heap.lt_size (N p hp).1
end
end T_D5
section T_E1
open PySem PySem.W PyProof.Rows PySem.Calls PySem.Spec
open Builtin Builtin.ObjectAttr
set_option maxRecDepth 100000
set_option maxHeartbeats 600000

section
variable {prog : Program} {w : World} {A : Around} {K : Frag} {C D x : Addr} {s : Shared} {h₀ : Heap} {L : Addr} {m : Str → Option Value} {news : List (Addr × Obj)} {R : Result → Shared → Prop}

noncomputable abbrev excMro (C D : Addr) : List Value := [.ref C, .ref D, .type "Exception", .type "BaseException", .type "object"]
theorem refuse_exc (self : Value) : refuseLoop self "__setattr__" (excMro C D) = pure () := by
  rw [refuseLoop_ref, refuseLoop_ref]; exact PySem.F.store_Exception.passes self
theorem only_exc {c : String} (hc : ([.type "Exception", .type "BaseException", .type "object"] : List Value).contains (.type c) = true) : (excMro C D).contains (.type c) = true := by
  rw [List.contains_cons, List.contains_cons, hc, Bool.or_true, Bool.or_true]

theorem osaE_open {ox : Obj} {od : Option Obj} {name : Str} {tk : Tok} {v : Value} {r : Option Value} {cd : ClassData} (X : K.In s.heap) (I : InstAt s.heap x ox C od) (hc : clsIn K C = some cd) (hcm : cd.mro = excMro C D) (ht : takerIn K C name = some r)
    (h : ∀ b, wpAny (model prog w) A.in1 (match r with | some a => setByDescriptor a (.ref x) v | none => storeInOwnDict (.ref x) (.ref C) (.str name tk) name v b)
      (fun fin s' => match fin with | .done f => R (.ok f) s' | .again c' => c'.quiet = true ∧ codeAny (model prog w) A c' R s') (fun e s' => R (.error e) s') s) :
    codeAny (model prog w) A (.call (.builtin "object.__setattr__") ⟨[.ref x, .str name tk, v], []⟩) R s := by
  have SF := PySem.F.store_object
  have ne : cd.mro.isEmpty = false := by rw [hcm]; rfl
  have sub : Looks (model prog w) s.heap (isInstance (.ref x) (.type "object")) true := I.type.andThen (looks_mroIn X (by unfold mroIn; rw [hc, Option.bind_some, if_neg (by rw [ne]; decide), hcm, only_exc (by decide +kernel)]))
  refine codeAny_call_builtin SF.slot.plain SF.entry (@check_slot (model prog w) _ _ s "object.__setattr__" "object" "__setattr__" (.ref x) [.str name tk, v] [] _ SF.kind SF.split sub (SF.args (.ref x) (.str name tk) v) ?_)
  obtain ⟨attr, ha, hr⟩ := Option.bind_eq_some_iff.mp ht
  have hm : Looks (model prog w) s.heap (mroOf (.ref C)) cd.mro := (looks_clsIn X hc).andThen .now
  have L3 : Looks (model prog w) s.heap (storeTaker? attr) r := by
    cases attr with
    | none => cases hr; exact .now
    | some a =>
      obtain ⟨b, hb, rfl⟩ := Option.map_eq_some_iff.mp hr
      refine (looks_takesIn X hb).andThen ?_
      cases b <;> exact .now
  rw [osa_eq, refuse_eq]
  refine wpAny_bind (wpAny_bind (I.type.here (wpAny_bind (hm.here ?_))))
  rw [hcm, refuse_exc]
  refine wpAny_pure (wpAny_bind (I.type.here (wpAny_bind ((looks_findIn X ha).here (wpAny_bind (L3.here ?_))))))
  exact h _

/-- the first store makes the dict -/
theorem osaE_new {ox : Obj} {name : Str} {tk : Tok} {v : Value} {pre post : List (Addr × Obj)} {cd : ClassData} (F : Fr h₀ L s.heap m) (N : News h₀ L s.heap (pre ++ (x, ox) :: post)) (X : K.In s.heap)
    (I : InstAt s.heap x ox C none) (hd : ox.dict = none) (hc : clsIn K C = some cd) (hcm : cd.mro = excMro C D) (ht : takerIn K C name = some none) (hdc : cd.hasDict = true)
    (h1 : ∀ p ∈ pre, p.1 ≠ x) (h2 : ∀ p ∈ post, p.1 ≠ x)
    (h : ∀ dx h', Fr h₀ L h' m → News h₀ L h' ((dx, dictOf [⟨PyData.keyHash w.params name, .str name s.toks, v⟩] 1) :: (pre ++ (x, { ox with dict := some dx }) :: post)) → (∀ p ∈ pre ++ (x, ox) :: post, p.1 ≠ dx) → R (.ok (.ret .none)) { s with heap := h', toks := s.toks + 1 }) :
    codeAny (model prog w) A (.call (.builtin "object.__setattr__") ⟨[.ref x, .str name tk, v], []⟩) R s := by
  refine osaE_open X I hc hcm ht fun b => ?_
  have hx0 := (N (x, ox) (by simp)).1
  obtain ⟨hx, hcl, hn, -⟩ := I
  have hcls : ∀ c, ox.data ≠ .cls c := by
    intro c e
    unfold notCls at hn
    rw [e] at hn; cases hn
  have hfr := (Heap.get?_some_iff.mp hx).2
  have N₁ := N.push F emptyDict
  have F₁ := F.push emptyDict
  have hne : ∀ p ∈ pre ++ (x, ox) :: post, p.1 ≠ s.heap.objs.size := fun p hp => Nat.ne_of_lt (Heap.lt_size (N p hp).1)
  obtain ⟨U1, U2⟩ := news_upd (f := fun o => { o with dict := some s.heap.objs.size }) (pre := (s.heap.objs.size, emptyDict) :: pre) (o' := { ox with dict := some s.heap.objs.size }) F₁ N₁ (by
    intro p hp; rcases List.mem_cons.mp hp with rfl | hp
    · exact (hne (x, ox) (by simp)).symm
    · exact h1 p hp) h2 rfl (by obtain ⟨oc, od, odt, osl⟩ := ox; cases odt <;> first | rfl | exact hfr)
  have D0 := (U2 (s.heap.objs.size, emptyDict) (by simp)).1
  obtain ⟨V1, V2⟩ := news_upd (f := Obj.putName name (PyData.keyHash w.params name) (.str name s.toks) v) (pre := []) (o' := dictOf [⟨PyData.keyHash w.params name, .str name s.toks, v⟩] 1) U1 U2 (by simp) (by
    intro p hp
    rcases List.mem_append.mp hp with q | q
    · exact hne p (List.mem_append_left _ q)
    · rcases List.mem_cons.mp q with rfl | q
      · exact hne (x, ox) (by simp)
      · exact hne p (List.mem_append_right _ (.tail _ q))) (by rfl) rfl
  have D1 := (V2 (s.heap.objs.size, _) (.head _)).1
  obtain ⟨oc, odi, oda, osl⟩ := ox
  dsimp only at hcl hd
  subst hcl hd
  refine wpAny_bind (wpAny_pure (wpAny_bind (wpAny_bind (wpAny_loadPart hx (wpAny_bind ((looks_clsIn X hc).here ?_))))))
  rw [hdc]
  dsimp only
  rw [if_neg (by simp)]
  split
  · rename_i hcd
    cases hcd
  split
  · exact absurd rfl (hcls _)
  · refine wpAny_bind (wpAny_alloc' ?_)
    refine wpAny_bind (wpAny_update' (Heap.get?_push_of_some _ hx) ?_)
    refine wpAny_pure ?_
    show wpAny _ _ (storeInDict s.heap.objs.size (.str name tk) name v) _ _ _
    unfold storeInDict newKeyGuard
    refine wpAny_bind (wpAny_pure (wpAny_bind ?_))
    unfold nsSet
    refine wpAny_bind (wpAny_bind (wpAny_askSetting (wpAny_pure (wpAny_bind (wpAny_mkText (wpAny_bind (wpAny_loadPart D0 ?_)))))))
    dsimp only
    rw [show aRefKeyMayBeTheName name #[] = false from rfl]
    refine wpAny_updatePart D0 ?_
    refine wpAny_bind (wpAny_lookBehind D1 (pastItsLine_dict (by rw [sizeLine_eq]; show 1 ≤ _; omega)) ?_)
    exact wpAny_pure (h _ _ V1 V2 hne)

theorem osaE_more {ox od od' : Obj} {dx : Addr} {name : Str} {tk : Tok} {v : Value} {pre post : List (Addr × Obj)} {es : List DictEntry} {n : Nat} {cd : ClassData} (F : Fr h₀ L s.heap m) (N : News h₀ L s.heap (pre ++ (dx, od) :: post)) (X : K.In s.heap)
    (I : InstAt s.heap x ox C (some od)) (hd : ox.dict = some dx) (hc : clsIn K C = some cd) (hcm : cd.mro = excMro C D) (ht : takerIn K C name = some none) (hd' : cd.hasDict = true)
    (hl : (lookIn name od).isSome = true) (h1 : ∀ p ∈ pre, p.1 ≠ dx) (h2 : ∀ p ∈ post, p.1 ≠ dx)
    (e : Obj.putName name (PyData.keyHash w.params name) (.str name s.toks) v od = od') (e' : od'.data = .dict es.toArray n) (hz : es.length ≤ 1000)
    (h : ∀ h', Fr h₀ L h' m → News h₀ L h' (pre ++ (dx, od') :: post) → R (.ok (.ret .none)) { s with heap := h', toks := s.toks + 1 }) :
    codeAny (model prog w) A (.call (.builtin "object.__setattr__") ⟨[.ref x, .str name tk, v], []⟩) R s := by
  refine osaE_open X I hc hcm ht fun b => ?_
  obtain ⟨U1, U2⟩ := news_upd (f := Obj.putName name (PyData.keyHash w.params name) (.str name s.toks) v) F N h1 h2 e (by obtain ⟨_, _, dd, _⟩ := od'; cases e'; rfl)
  have D := (N (dx, od) (by simp)).1
  have D' := (U2 (dx, od') (by simp)).1
  obtain ⟨hx, hcl, hn, -⟩ := I
  obtain ⟨oc, odi, oda, osl⟩ := ox
  dsimp only at hcl hd
  subst hcl hd
  refine wpAny_bind (wpAny_pure (wpAny_bind (wpAny_bind (wpAny_loadPart hx (wpAny_bind ((looks_clsIn X hc).here ?_))))))
  rw [hd']
  refine wpAny_pure (a := some dx) (wpAny_bind (wpAny_pure (wpAny_bind ?_)))
  unfold nsSet
  refine wpAny_bind (wpAny_bind (wpAny_askSetting (wpAny_pure (wpAny_bind (wpAny_mkText (wpAny_bind (wpAny_loadPart D ?_)))))))
  unfold lookIn at hl
  split at hl
  · rename_i es₀ n₀ q
    rw [q]
    dsimp only
    have c : (!es₀.any (·.key.isStr name) && es₀.any (·.refKey)) = false := by
      rw [← Array.any_toList, ← Array.any_toList]
      split at hl
      · rename_i en he
        rw [List.any_eq_true.mpr ⟨en, List.mem_of_find?_eq_some he, List.find?_some he⟩]; rfl
      · split at hl
        · cases hl
        · rename_i z; rw [Bool.not_eq_true] at z; rw [z, Bool.and_false]
    rw [aRefKeyMayBeTheName_at, c]
    refine wpAny_updatePart D ?_
    refine wpAny_bind (wpAny_lookBehind D' (by rw [e']; exact pastItsLine_dict (by rw [List.size_toArray, sizeLine_eq]; omega)) ?_)
    exact wpAny_pure (h _ U1 U2)
  · cases hl

theorem setE_new {E : Value → Shared → Prop} {Q : Unit → Shared → Prop} {ox : Obj} {name : Str} {v : Value} {pre post : List (Addr × Obj)} {cd : ClassData} (F : Fr h₀ L s.heap m) (N : News h₀ L s.heap (pre ++ (x, ox) :: post)) (X : K.In s.heap)
    (I : InstAt s.heap x ox C none) (hd : ox.dict = none) (hs : findIn K (.ref C) "__setattr__" = some (some (.builtin "object.__setattr__"))) (hc : clsIn K C = some cd) (hcm : cd.mro = excMro C D) (ht : takerIn K C name = some none) (hdc : cd.hasDict = true)
    (h1 : ∀ p ∈ pre, p.1 ≠ x) (h2 : ∀ p ∈ post, p.1 ≠ x)
    (h : ∀ dx h', Fr h₀ L h' m → News h₀ L h' ((dx, dictOf [⟨PyData.keyHash w.params name, .str name (s.toks + 1), v⟩] 1) :: (pre ++ (x, { ox with dict := some dx }) :: post)) → (∀ p ∈ pre ++ (x, ox) :: post, p.1 ≠ dx) → Q () { s with heap := h', toks := s.toks + 2 }) :
    wpAny (model prog w) A (setAttr (.ref x) name v) Q E s :=
  set_plain X I hs (osaE_new (s := { s with toks := s.toks + 1 }) F N X I hd hc hcm ht hdc h1 h2 fun dx h' F' N' z => h dx h' F' N' z)

theorem setE_more {E : Value → Shared → Prop} {Q : Unit → Shared → Prop} {ox : Obj} {dx : Addr} {name : Str} {v : Value} {pre post : List (Addr × Obj)} {es es' : List DictEntry} {n n' : Nat} {cd : ClassData} (F : Fr h₀ L s.heap m) (N : News h₀ L s.heap (pre ++ (dx, dictOf es n) :: post)) (X : K.In s.heap)
    (I : InstAt s.heap x ox C (some (dictOf es n))) (hd : ox.dict = some dx) (hs : findIn K (.ref C) "__setattr__" = some (some (.builtin "object.__setattr__"))) (hc : clsIn K C = some cd) (hcm : cd.mro = excMro C D) (ht : takerIn K C name = some none) (hdc : cd.hasDict = true)
    (hl : (getL name es).isSome = true) (h1 : ∀ p ∈ pre, p.1 ≠ dx) (h2 : ∀ p ∈ post, p.1 ≠ dx)
    (e : (putL name (PyData.keyHash w.params name) (.str name (s.toks + 1)) v es, putN name es n) = (es', n')) (hz : es'.length ≤ 1000)
    (h : ∀ h', Fr h₀ L h' m → News h₀ L h' (pre ++ (dx, dictOf es' n') :: post) → Q () { s with heap := h', toks := s.toks + 2 }) :
    wpAny (model prog w) A (setAttr (.ref x) name v) Q E s := by
  obtain ⟨e1, e2⟩ := Prod.mk.inj e
  exact set_plain X I hs (osaE_more (s := { s with toks := s.toks + 1 }) F N X I hd hc hcm ht hdc hl h1 h2 (by rw [putName_dict, e1, e2]) rfl hz fun h' F' N' => h h' F' N')
end

section
variable {prog : Program} {w : World} {A : Around} {E : Value → Shared → Prop} {h : Heap} {g : Array GenState} {d : Drawn} {t : Nat} {os : OsState} {K : Frag}
variable {nm q : Str} {C D N : Addr} {bs : List Value} {hdct : Bool} {sn : List Str} {sub : List Value} {ab : Bool} {col : Option Bool} {dd : Option Addr} {k0 k1 k2 k3 k5 : Option Value}

theorem call_excI {rest : List Value} {fI : Addr} {Q : Value → Shared → Prop} (X : K.In h) (hl : findIn K (.ref C) "__init__" = some (some (.ref fI))) (hf : typeIn K (.ref fI) = some (.type "function"))
    (hC : h.get? C = some (excClassObj nm q C N bs (excMro C D).tail hdct sn sub ab col dd k0 k1 k2 k3 k5 "Exception.__new__"))
    (hq : ∀ h' e, Heap.MadeExcOf h h' e (.ref C) rest →
      codeAny (model prog w) (A.under (.builtin "type.__call__" ⟨.ref C :: rest, []⟩)) (.call (.ref fI) ⟨.ref e :: rest, []⟩) (fun r s' => match r with | .ok (.ret v) => v = .none ∧ Q (.ref e) s' | .ok _ => False | .error e => E e s') ⟨h', g, d, t, os⟩) (hrest : rest.length ≤ sizeLine := by size_fits) :
    wpAny (model prog w) A (call (.ref C) rest) Q E ⟨h, g, d, t, os⟩ := by
  have Fn := PySem.F.excBase_Exception
  have f1 := tc_lookup
  have f2 := tc_bind (.ref C)
  have hT : (⟨h, g, d, t, os⟩ : Shared).TypeIs (.ref C) "type" := ⟨_, hC, rfl⟩
  have hcB : (Value.ref C :: (excMro C D).tail).contains (.type "Exception") = true := only_exc (by decide +kernel)
  have hcA : (Value.ref C :: (excMro C D).tail).contains (.type "AttributeError") = false := by
    show (excMro C D).contains _ = _
    rw [List.contains_cons, List.contains_cons]; rfl
  have hcN : (Value.ref C :: (excMro C D).tail).contains (.type "NameError") = false := by
    show (excMro C D).contains _ = _
    rw [List.contains_cons, List.contains_cons]; rfl
  refine wpAny_call (codeAny_of_tree ?_)
  show wpAny _ _ (callAny (.ref C) _) _ _ _
  repeat (any_goals (first | assumption | with_reducible refine wpAny_loadPart_at hC ?_ | wp_step))
  refine ⟨rfl, ?_⟩
  refine codeAny_call_builtin_at (Code.quiet_builtin _ (by decide +kernel)) entry_typeCall (wpAny_check_type_call_sub hC ?_)
  repeat (first | with_reducible refine wpAny_loadPart_at hC ?_ | with_reducible refine wpAny_madeBy_exc hC ?_ | wp_step)
  have chk : ∀ {M : Model} {A : Around} {E : Value → Shared → Prop} {Q : Unit → Shared → Prop}, Q () ⟨h, g, d, t, os⟩ → wpAny M A (checkBuiltinCall "Exception.__new__" ⟨.ref C :: rest, []⟩) Q E ⟨h, g, d, t, os⟩ := by
    intro M A E Q hq
    have hstar := Fn.noStar
    unfold checkBuiltinCall
    rw [Fn.newKind, Fn.newSplit, Fn.newRow]
    repeat (first | refine wpAny_loadPart_at hC ?_ | (refine wpAny_isSubtype_exc hC ?_; rw [hcB]) | refine wpAny_staticBase_exc hC ?_ | refine wpAny_madeBy_exc hC ?_ | simp only [bne_self_eq_false, Bool.false_eq_true, if_false] | wp_step)
    exact hq
  refine codeAny_call_builtin_code (Code.quiet_builtin _ Fn.quiet) (chk ?_)
  have hends := Fn.ends
  refine codeAny_builtinAt Fn.entry ?_
  unfold Builtin.«BaseException.__new__»
  refine PySem.wpAt_bind ?_
  show PySem.wpAt _ _ _ (stack >>= _) _ _ _
  refine PySem.wpAt_bind (PySem.wpAt_stack fun p below => PySem.wpAt_of_wpAny ?_)
  wp_walk
  refine PySem.wpAt_of_wpAny ?_
  rw [Fn.owner]
  repeat (first | with_reducible refine wpAny_madeHere_exc Fn.canon hC ?_ | with_reducible refine wpAny_loadPart_at hC ?_ | (with_reducible refine wpAny_isSubtype_exc hC ?_; first | rw [hcB] | rw [hcA] | rw [hcN]) | wp_step)
  rw [Heap.size_push]
  show wpAny _ _ _ _ _ (⟨(h.push { cls := .type "tuple", data := .seq rest.toArray }).push { cls := .ref C, data := .fields #[.ref h.objs.size, .none, .none, .none, .bool false, .none] }, g, d, t, os⟩ : Shared)
  have kp : ∀ b o, h.get? b = some o → ((h.push { cls := .type "tuple", data := .seq rest.toArray }).push { cls := .ref C, data := .fields #[.ref h.objs.size, .none, .none, .none, .bool false, .none] }).get? b = some o :=
    fun b o e => Heap.get?_push_of_some _ (Heap.get?_push_of_some _ e)
  have hC₁ := kp _ _ hC
  have X₁ := X.keeps kp
  have hget : ((h.push { cls := .type "tuple", data := .seq rest.toArray }).push
      { cls := .ref C, data := .fields #[.ref h.objs.size, .none, .none, .none, .bool false, .none] }).get? (h.objs.size + 1) = some
      { cls := .ref C, data := .fields #[.ref h.objs.size, .none, .none, .none, .bool false, .none] } := by heap_get
  have hcC : (Value.ref C :: (excMro C D).tail).contains (.ref C) = true := by simp
  show wpAny _ _ (isSubtype (.ref C) (.ref C)) _ _ _
  refine wpAny_isSubtype_exc hC₁ ?_
  rw [hcC]
  have I₁ : InstAt ((h.push { cls := .type "tuple", data := .seq rest.toArray }).push { cls := .ref C, data := .fields #[.ref h.objs.size, .none, .none, .none, .bool false, .none] }) (h.objs.size + 1) { cls := .ref C, data := .fields #[.ref h.objs.size, .none, .none, .none, .bool false, .none] } C none := ⟨hget, rfl, rfl, trivial⟩
  show wpAny _ _ (holding _ (callSpecial? (.ref (h.objs.size + 1)) "__init__" rest []) >>= _) _ _ _
  refine wpAny_bind (wpAny_holding (special_fn X₁ I₁ hl hf ?_))
  refine wpAny_call (codeAny_mono (hq _ (h.objs.size + 1) ⟨kp, Heap.get?_none_of_le (Nat.le_succ _), h.objs.size, hget, Heap.get?_none_of_le (Nat.le_refl _), ?_⟩) fun r s' z => ?_)
  · exact Heap.get?_push_of_some _ (Heap.get?_push_at rfl rfl)
  · rcases r with e | (v | _ | _ | _)
    · exact z
    · exact z.elim
    · exact z.elim
    · exact z.elim
    · obtain ⟨rfl, z⟩ := z
      exact wpAny_pure z
end
end T_E1
section T_E3
open PySem PySem.W PyProof.Rows PySem.Calls PySem.Spec
set_option maxHeartbeats 600000
noncomputable abbrev fsOf (l : List Env) : List Addr := l.filterMap (·.frame)

/-- b stands in h, but for the slots of what lies at S -/
noncomputable def UpTo (S : List Addr) (b h : Heap) : Prop :=
  (∀ a o, b.get? a = some o → a ∉ S → h.get? a = some o) ∧ ∀ a o, b.get? a = some o → ∃ sl, h.get? a = some { o with slots := sl }
theorem UpTo.of_stays {S : List Addr} {b h : Heap} (k : b.StaysIn h) : UpTo S b h := ⟨fun a o e _ => k a o e, fun a o e => ⟨o.slots, k a o e⟩⟩
theorem UpTo.trans {S : List Addr} {b h h' : Heap} (x : UpTo S b h) (y : UpTo S h h') : UpTo S b h' :=
  ⟨fun a o e n => y.1 a o (x.1 a o e n) n, fun a o e => by
    obtain ⟨_, e1⟩ := x.2 a o e
    obtain ⟨sl, e2⟩ := y.2 a _ e1
    exact ⟨sl, e2⟩⟩
theorem UpTo.stays {S : List Addr} {b g h : Heap} (x : UpTo S b h) (k : g.StaysIn b) (n : ∀ a ∈ S, g.get? a = none) : g.StaysIn h := fun a o e =>
  x.1 a o (k a o e) fun m => by rw [n a m] at e; cases e
theorem UpTo.upd {S : List Addr} {b h : Heap} {a : Addr} (x : UpTo S b h) (n : b.get? a = none) (f : Obj → Obj) : UpTo S b (h.update a f) := by
  have ne : ∀ c o, b.get? c = some o → a ≠ c := fun c o e z => by rw [← z, n] at e; cases e
  exact ⟨fun c o e m => (Heap.get?_update_other _ _ (ne c o e)).trans (x.1 c o e m), fun c o e => by rw [Heap.get?_update_other _ _ (ne c o e)]; exact x.2 c o e⟩
theorem UpTo.push {S : List Addr} {b h : Heap} (x : UpTo S b h) (o : Obj) : UpTo S b (h.push o) :=
  ⟨fun c o' e m => Heap.get?_push_of_some _ (x.1 c o' e m), fun c o' e => let ⟨sl, q⟩ := x.2 c o' e; ⟨sl, Heap.get?_push_of_some _ q⟩⟩
theorem UpTo.slots {S fs : List Addr} {b h h' : Heap} (x : UpTo S b h) (y : Heap.SlotsOnly fs h h') (hS : ∀ a ∈ fs, a ∈ S ∨ b.get? a = none) : UpTo S b h' :=
  ⟨fun a o e m => (y.2.1 a fun z => (hS a z).elim m fun q => by rw [q] at e; cases e).trans (x.1 a o e m), fun a o e => by
    obtain ⟨_, e1⟩ := x.2 a o e
    obtain ⟨sl, e2⟩ := y.2.2 a _ e1
    exact ⟨sl, e2⟩⟩
theorem UpTo.mono {S S' : List Addr} {b h : Heap} (x : UpTo S b h) (m : ∀ a ∈ S, a ∈ S' ∨ b.get? a = none) : UpTo S' b h :=
  ⟨fun a o e n => x.1 a o e fun z => (m a z).elim n fun q => (by rw [q] at e; cases e), x.2⟩
theorem UpTo.ns {S : List Addr} {b h : Heap} {L : Addr} {m : Str → Option Value} (x : UpTo S b h) (n : b.Ns L m) : h.Ns L m := by
  obtain ⟨o, es, ep, ho, hd, r⟩ := n
  obtain ⟨sl, e⟩ := x.2 L o ho
  exact ⟨_, es, ep, e, hd, r⟩
noncomputable def TbOk (b h : Heap) (e : Addr) (tb : Value) : Option Value → Prop
  | none => tb = .none
  | some v => ∃ T oT ts, tb = .ref T ∧ b.get? T = none ∧ T ≠ e ∧ h.get? T = some oT ∧ oT.data = .fields ts ∧ ts[3]? = some v
structure FlyX (hnd : Option Value) (b h : Heap) (fs : List Addr) (e : Addr) (what : Str) (fl : Option Value) (oe : Obj) (vs : Array Value) (dx : Addr) (es : List DictEntry) (k : Nat) (t : Tok) (tb c : Value) : Prop where
  at_ : h.get? e = some oe
  cls : oe.cls = .ref 60
  dict : oe.dict = some dx
  data : oe.data = .fields vs
  tbAt : vs[1]? = some tb
  ctx : vs[2]? = some c
  dat : h.get? dx = some (dictOf es k)
  what : getL (Str.ofString "what") es = some (some (.str what t))
  off : dx ∉ fs
  fe : b.get? e = none
  fd : b.get? dx = none
  chain : c = .none ∨ hnd = some c
  tbok : TbOk b h e tb fl
/-- a fault of the text's own, on its way -/
noncomputable def Fly (hnd : Option Value) (b h : Heap) (fs : List Addr) (e : Addr) (what : Str) (fl : Option Value) : Prop := ∃ oe vs dx es k t tb c, FlyX hnd b h fs e what fl oe vs dx es k t tb c
theorem Fly.sub {b h : Heap} {fs fs' : List Addr} {e : Addr} {what : Str} {fl hnd : Option Value} (Y : Fly hnd b h fs e what fl) (m : ∀ a ∈ fs', a ∈ fs) : Fly hnd b h fs' e what fl := by
  obtain ⟨oe, vs, dx, es, k, t, tb, c, Y⟩ := Y
  exact ⟨oe, vs, dx, es, k, t, tb, c, { Y with off := fun z => Y.off (m _ z) }⟩

theorem Fly.base {hnd : Option Value} {b b' h : Heap} {fs : List Addr} {e : Addr} {what : Str} {fl : Option Value} (Y : Fly hnd b h fs e what fl) (k : ∀ a, b.get? a = none → b'.get? a = none) : Fly hnd b' h fs e what fl := by
  obtain ⟨oe, vs, dx, es, k', t, tb, c, Y⟩ := Y
  refine ⟨oe, vs, dx, es, k', t, tb, c, { Y with fe := k _ Y.fe, fd := k _ Y.fd, tbok := ?_ }⟩
  have := Y.tbok
  revert this
  cases fl with
  | none => exact fun x => x
  | some v => rintro ⟨T, oT, ts, a, b, c, d⟩; exact ⟨T, oT, ts, a, k _ b, c, d⟩
section
variable {M : Model} {A : Around} {E : Value → Shared → Prop} {s : Shared} {hnd : Option Value} {b g : Heap} {env : Env} {outer : List Env} {L e : Addr} {what : Str} {S : List Addr} {Q : Unit → Shared → Prop}

/-- the entry is laid: the new head tells where the fault is -/
theorem wpAny_entryM {head : Value} {hadNext : Bool} {oe : Obj} {vs : Array Value} {dx : Addr} {es : List DictEntry} {k : Nat} {t : Tok} {tb c : Value} {fl : Option Value}
    (hfr : A.frames = some (env :: outer)) (hl : s.heap.FunFrames g (env :: outer)) (hf : env.frame = some L) (hS : ∀ a ∈ fsOf (env :: outer), a ∈ S ∨ b.get? a = none)
    (U : UpTo S b s.heap) (Y : FlyX hnd b s.heap (fsOf (env :: outer)) e what fl oe vs dx es k t tb c)
    (h : ∀ h', UpTo S b h' → h'.FunFrames g (env :: outer) → Fly hnd b h' (fsOf (env :: outer)) e what (some (rawInt L)) → (∀ l m, s.heap.Ns l m → h'.Ns l m) → Q () { s with heap := h' }) :
    wpAny M A (do let a ← frameOf env; let pl ← entryPlaceOf L hadNext; let b ← EntryCells.newEntry head a .none (rawInt L) .none pl; setField (.ref e) 1 b) Q E s := by
  obtain ⟨y1, y2, y3, y4, y5, y6, y7, y8, y9, y10, y11, y12, y13⟩ := Y
  have hene : e ∉ fsOf (env :: outer) := fun hm => by
    obtain ⟨_, o, ho, hnf⟩ := hl.mem hm
    rw [y1] at ho; injection ho with ho; subst ho; exact hnf vs y4
  refine wpAny_bind (wpAny_frameOf_fun hfr hl hf fun h₁ hs₁ => ?_)
  refine wpAny_bind (wpAny_entryPlaceOf fun pl hpl => ?_)
  unfold EntryCells.newEntry newFields
  refine wpAny_bind (wpAny_newObj_type ?_ (hpl.sizeOk5 _ _ _ _ _))
  have he₁ : h₁.get? e = some oe := (hs₁.2.1 e hene).trans y1
  have hd₁ : h₁.get? dx = some (dictOf es k) := (hs₁.2.1 dx y9).trans y7
  have U₁ := U.slots hs₁ hS
  have he₂ := Heap.get?_push_of_some (h := h₁) { cls := .type "traceback", dict := none, data := .fields ([head, .ref L, .none, rawInt L, .none] ++ (if pl.isEmpty then List.replicate 6 Value.none else pl)).toArray } he₁
  have hsz : 1 < vs.size := (Array.getElem?_eq_some_iff.mp y5).1
  refine wpAny_setField he₂ y4 hsz ?_
  have hTe : h₁.objs.size ≠ e := Nat.ne_of_gt (Heap.lt_size he₁)
  have hdxe : dx ≠ e := by
    rintro rfl
    rw [y1] at y7; injection y7 with y7; rw [y7] at y4; cases y4
  have hd₃ := Obj.data_mapFields y4 (·.setIfInBounds 1 (Value.ref h₁.objs.size))
  have he₃ := Heap.get?_update_self (Obj.mapFields (·.setIfInBounds 1 (Value.ref h₁.objs.size))) he₂ (Obj.isFreed_of_fields hd₃)
  have bT : b.get? h₁.objs.size = none := by
    cases q : b.get? h₁.objs.size with
    | none => rfl
    | some o => obtain ⟨_, z⟩ := U₁.2 _ o q; exact absurd (Heap.lt_size z) (Nat.lt_irrefl _)
  have hT₃ := (Heap.get?_update_other (h₁.push { cls := .type "traceback", dict := none, data := .fields ([head, .ref L, .none, rawInt L, .none] ++ (if pl.isEmpty then List.replicate 6 Value.none else pl)).toArray })
    (Obj.mapFields (·.setIfInBounds 1 (Value.ref h₁.objs.size))) (Ne.symm hTe)).trans (Heap.get?_push_size h₁ rfl)
  have keep : ∀ a o, a ≠ e → h₁.get? a = some o →
      ((h₁.push { cls := .type "traceback", dict := none, data := .fields ([head, .ref L, .none, rawInt L, .none] ++ (if pl.isEmpty then List.replicate 6 Value.none else pl)).toArray }).update e (Obj.mapFields (·.setIfInBounds 1 (Value.ref h₁.objs.size)))).get? a = some o :=
    fun a o hbe hb => by
      rw [Heap.get?_update_other _ _ (Ne.symm hbe)]
      exact Heap.get?_push_of_some _ hb
  have noRecord : ∀ a o, s.heap.get? a = some o → (∀ vs, o.data ≠ .fields vs) → a ≠ e := fun a o hb hnf q => by
    rw [q, y1] at hb; injection hb with hb; subst hb; exact hnf vs y4
  refine h _ ((U₁.push _).upd y10 _) (hl.of_keeps fun a o hb hnf => ?_) ?_ fun l m hn => ?_
  · obtain ⟨sl, hs⟩ := hs₁.2.2 a o hb
    exact ⟨_, keep a _ (noRecord a o hb hnf) hs, rfl⟩
  · refine ⟨_, _, dx, es, k, t, .ref h₁.objs.size, c, ⟨he₃, (Obj.cls_mapFields _ _).trans y2, ?_, hd₃, ?_, ?_, keep dx _ hdxe hd₁, y8, y9, y10, y11, y12, ?_⟩⟩
    · rw [← y3]
      obtain ⟨oc, od, odt, osl⟩ := oe
      cases y4; rfl
    · simp [hsz]
    · rw [Array.getElem?_setIfInBounds_ne (by decide)]; exact y6
    · exact ⟨h₁.objs.size, _, _, rfl, bT, hTe, hT₃, rfl, by first | (simp; done) | (rcases hpl with rfl | ⟨_, _, _, _, _, _, _, rfl⟩ <;> simp)⟩
  · obtain ⟨o, es', ep, ho, hd, r⟩ := hn
    obtain ⟨sl, hs⟩ := hs₁.2.2 l o ho
    exact ⟨_, es', ep, keep l _ (noRecord l o ho fun vs z => by rw [hd] at z; cases z) hs, hd, r⟩

theorem note_made (hfr : A.frames = some (env :: outer)) (hl : s.heap.FunFrames g (env :: outer)) (hf : env.frame = some L) (hS : ∀ a ∈ fsOf (env :: outer), a ∈ S ∨ b.get? a = none)
    (U : UpTo S b s.heap) (Y : Fly hnd b s.heap (fsOf (env :: outer)) e what none)
    (h : ∀ h', UpTo S b h' → h'.FunFrames g (env :: outer) → Fly hnd b h' (fsOf (env :: outer)) e what (some (rawInt L)) → (∀ l m, s.heap.Ns l m → h'.Ns l m) → Q () { s with heap := h' }) :
    wpAny M A (noteFrame (.ref e) env) Q E s := by
  obtain ⟨oe, vs, dx, es, k, t, tb, c, Y⟩ := Y
  have htb : tb = .none := Y.tbok
  subst htb
  unfold noteFrame
  rw [hf]
  refine wpAny_bind (wpAny_field Y.at_ Y.data Y.tbAt ?_)
  rw [if_neg (by decide)]
  exact wpAny_entryM hfr hl hf hS U Y h

theorem note_on (hfr : A.frames = some (env :: outer)) (hl : s.heap.FunFrames g (env :: outer)) (hf : env.frame = some L) (hS : ∀ a ∈ fsOf (env :: outer), a ∈ S ∨ b.get? a = none)
    (U : UpTo S b s.heap) (Y : Fly hnd b s.heap (fsOf (env :: outer)) e what (some .none))
    (h : ∀ h', UpTo S b h' → h'.FunFrames g (env :: outer) → Fly hnd b h' (fsOf (env :: outer)) e what (some (rawInt L)) → (∀ l m, s.heap.Ns l m → h'.Ns l m) → Q () { s with heap := h' }) :
    wpAny M A (noteFrame (.ref e) env) Q E s := by
  obtain ⟨oe, vs, dx, es, k, t, tb, c, Y⟩ := Y
  obtain ⟨y1, y2, y3, y4, y5, y6, y7, y8, y9, y10, y11, y12, T, oT, ts, rfl, hnT, hTe, hT, hdT, h3⟩ := Y
  unfold noteFrame
  rw [hf]
  refine wpAny_bind (wpAny_field y1 y4 y5 ?_)
  rw [if_pos (show (Value.ref T != Value.none) = true from by simp)]
  refine wpAny_bind (wpAny_field hT hdT h3 ?_)
  rw [if_neg (show ¬ ((Value.none == rawInt L) = true) from by simp [rawInt])]
  refine wpAny_bind (wpAny_setField hT hdT (Array.getElem?_eq_some_iff.mp h3).1 ?_)
  have other : ∀ a, a ≠ T → (s.heap.update T (Obj.mapFields (·.setIfInBounds 3 Value.none))).get? a = s.heap.get? a := fun a ha => Heap.get?_update_other _ _ (Ne.symm ha)
  have noRecord : ∀ a o, s.heap.get? a = some o → (∀ vs, o.data ≠ .fields vs) → a ≠ T := fun a o hb hnf q => by
    rw [q, hT] at hb; injection hb with hb; subst hb; exact hnf ts hdT
  refine wpAny_entryM (fl := some .none) hfr (hl.of_keeps fun a o hb hnf => ⟨o, (other a (noRecord a o hb hnf)).trans hb, rfl⟩) hf hS (U.upd hnT _)
    ⟨(other e (Ne.symm hTe)).trans y1, y2, y3, y4, y5, y6, (other dx (noRecord dx _ y7 (by intro vs z; cases z))).trans y7, y8, y9, y10, y11, y12, T, _, _, rfl, hnT, hTe, Heap.get?_update_self _ hT (Obj.isFreed_of_fields (Obj.data_mapFields hdT _)), Obj.data_mapFields hdT _, ?_⟩
    fun h' u f y n => h h' u f y fun l m q => n l m ?_
  · simp [(Array.getElem?_eq_some_iff.mp h3).1]
  · obtain ⟨o, es', ep, ho, hd, r⟩ := q
    exact ⟨o, es', ep, (other l (noRecord l o ho fun vs z => by rw [hd] at z; cases z)).trans ho, hd, r⟩

theorem land {v : Value} {l : List Env} {fs : List Addr} (hl : s.heap.FunFrames g l) (U : UpTo S b s.heap) (Y : Fly hnd b s.heap fs e what (some v))
    (h : ∀ h', UpTo S b h' → h'.FunFrames g l → Fly hnd b h' fs e what (some .none) → (∀ l m, s.heap.Ns l m → h'.Ns l m) → Q () { s with heap := h' }) :
    wpAny M A (setFlight (.ref e) none) Q E s := by
  obtain ⟨oe, vs, dx, es, k, t, tb, c, Y⟩ := Y
  obtain ⟨y1, y2, y3, y4, y5, y6, y7, y8, y9, y10, y11, y12, T, oT, ts, rfl, hnT, hTe, hT, hdT, h3⟩ := Y
  have hsz3 : 3 < ts.size := (Array.getElem?_eq_some_iff.mp h3).1
  have other : ∀ a, a ≠ T → (s.heap.update T (Obj.mapFields (·.setIfInBounds 3 ((none : Option Addr).elim Value.none fun f => rawInt f)))).get? a = s.heap.get? a := fun a ha => Heap.get?_update_other _ _ (Ne.symm ha)
  have noRecord : ∀ a o, s.heap.get? a = some o → (∀ vs, o.data ≠ .fields vs) → a ≠ T := fun a o hb hnf q => by
    rw [q, hT] at hb; injection hb with hb; subst hb; exact hnf ts hdT
  unfold setFlight
  refine wpAny_bind (wpAny_field y1 y4 y5 ?_)
  rw [if_pos (show (Value.ref T != Value.none) = true from by simp)]
  refine wpAny_setField hT hdT hsz3 (h _ (U.upd hnT _) (hl.of_keeps fun a o hb hnf => ⟨o, (other a (noRecord a o hb hnf)).trans hb, rfl⟩)
    ⟨oe, vs, dx, es, k, t, .ref T, c, (other e (Ne.symm hTe)).trans y1, y2, y3, y4, y5, y6, (other dx (noRecord dx _ y7 (by intro vs z; cases z))).trans y7, y8, y9, y10, y11, y12, T, _, _, rfl, hnT, hTe, Heap.get?_update_self _ hT (Obj.isFreed_of_fields (Obj.data_mapFields hdT _)), Obj.data_mapFields hdT _, by simp [hsz3]⟩ fun l m q => ?_)
  obtain ⟨o, es', ep, ho, hd, r⟩ := q
  exact ⟨o, es', ep, (other l (noRecord l o ho fun vs z => by rw [hd] at z; cases z)).trans ho, hd, r⟩

theorem FunFrames.tail {h : Heap} {l : List Env} (x : h.FunFrames g (env :: l)) : h.FunFrames g l := x.2.2

theorem leave_made (hfr : A.frames = some (env :: outer)) (hl : s.heap.FunFrames g (env :: outer)) (hf : env.frame = some L) (hS : ∀ a ∈ fsOf (env :: outer), a ∈ S ∨ b.get? a = none)
    (U : UpTo S b s.heap) (Y : Fly hnd b s.heap (fsOf (env :: outer)) e what none)
    (h : ∀ h', UpTo S b h' → h'.FunFrames g outer → Fly hnd b h' (fsOf outer) e what (some .none) → Q () { s with heap := h' }) : wpAny M A (leaving env (.ref e)) Q E s := by
  unfold leaving
  refine wpAny_bind (note_made hfr hl hf hS U Y fun h₁ U₁ l₁ Y₁ _ => ?_)
  refine land l₁ U₁ Y₁ fun h₂ U₂ l₂ Y₂ _ => h h₂ U₂ (FunFrames.tail l₂) (Y₂.sub fun a m => ?_)
  rw [show fsOf (env :: outer) = L :: fsOf outer from by simp [fsOf, hf]]
  exact .tail _ m
theorem leave_on (hfr : A.frames = some (env :: outer)) (hl : s.heap.FunFrames g (env :: outer)) (hf : env.frame = some L) (hS : ∀ a ∈ fsOf (env :: outer), a ∈ S ∨ b.get? a = none)
    (U : UpTo S b s.heap) (Y : Fly hnd b s.heap (fsOf (env :: outer)) e what (some .none))
    (h : ∀ h', UpTo S b h' → h'.FunFrames g outer → Fly hnd b h' (fsOf outer) e what (some .none) → Q () { s with heap := h' }) : wpAny M A (leaving env (.ref e)) Q E s := by
  unfold leaving
  refine wpAny_bind (note_on hfr hl hf hS U Y fun h₁ U₁ l₁ Y₁ _ => ?_)
  refine land l₁ U₁ Y₁ fun h₂ U₂ l₂ Y₂ _ => h h₂ U₂ (FunFrames.tail l₂) (Y₂.sub fun a m => ?_)
  rw [show fsOf (env :: outer) = L :: fsOf outer from by simp [fsOf, hf]]
  exact .tail _ m
end
end T_E3
section T_EF
open PySem PySem.W PyProof.Rows PySem.Calls PySem.Spec PySem.SeqAt
set_option maxRecDepth 100000
set_option maxHeartbeats 600000
/-- tuples whose first items differ are not the same, whatever follows -/
theorem tuple_eq_first (l b : Addr) (x y : Value) (xs ys : List Value) (n n2 : Nat) (dd dd2 : Option Addr) (sl sl2 : Array (Option Value)) :
    Meets (Builtin.«tuple.__eq__» ⟨[.ref l, .ref b], []⟩)
      (fun A R s => s.heap.get? l = some { cls := .type "tuple", dict := dd, data := .seq (x :: xs).toArray n, slots := sl } ∧ s.heap.get? b = some { cls := .type "tuple", dict := dd2, data := .seq (y :: ys).toArray n2, slots := sl2 } ∧
        EqAt A.in1 s x y false ∧ R (.ok (.ret (.bool false))) s) :=
  .of_wp fun prog w A R s h => by
    obtain ⟨hp, g, d, tk, os⟩ := s; obtain ⟨hl, hb, he, h⟩ := h
    have f2 := AutoSeq1.sub_tuple_tuple
    wp_walk using wpAny_loadPart' hl, wpAny_loadPart' hb, wpAny_forIn_list _ (fun rest b s' => b.1 = none ∧ s' = ⟨hp, g, d, tk, os⟩ ∧ rest = (x :: xs).toArray.toList.zip (y :: ys).toArray.toList ∧
      R (.ok (.ret (.bool false))) ⟨hp, g, d, tk, os⟩) _
    case turn =>
      rintro ⟨y', x'⟩ rest b s' ⟨hb', rfl, hz, hR⟩
      have hz' : (y', x') :: rest = (x, y) :: xs.zip ys := by simpa using hz
      injection hz' with hyx hrest
      injection hyx with hy hx
      subst hy hx
      refine wpAny_bind (he prog w _ _ ?_)
      wp_walk
      exact ⟨_, rfl, by simpa using hR⟩
    case fin =>
      rintro ⟨b1, b2⟩ s' ⟨hb', rfl, hz, hR⟩
      simp at hz
    case h =>
      exact ⟨rfl, rfl, rfl, by simpa using h⟩
section
variable {prog : Program} {w : World} {A : Around} {E : Value → Shared → Prop} {s : Shared} {Q : Value → Shared → Prop}
theorem eq_tup_first {l b : Addr} {c d : Str} {t u : Tok} {xs ys : List Value} (hl : Tpl s.heap l (.str c t :: xs)) (hb : Tpl s.heap b (.str d u :: ys)) (hne : (c == d) = false) (hu : A.units < cLine) (h : Q (.bool false) s) :
    wpAny (model prog w) A (compareOp .Eq (.ref l) (.ref b)) Q E s := by
  obtain ⟨n, ho⟩ := hl
  obtain ⟨n2, ho2⟩ := hb
  have he : EqAt A.in1 s (.str c t) (.str d u) false := hne ▸ EqAt.str_str c t d u
  refine cmp_ofEq ?_
  exact richCompare_meets_room (op := .Eq) ⟨_, ho, rfl⟩ ⟨_, ho2, rfl⟩ F.slot_tuple_eq F.entry_tuple_eq (F.args_tuple_eq_2 _ _) (tuple_eq_first l b (.str c t) (.str d u) xs ys n n2 none none #[] #[])
    ⟨ho, ho2, he, show Value.bool false ≠ Value.notImplemented ∧ Q (.bool false) s from ⟨(fun x => nomatch x), h⟩⟩ hu
end
end T_EF
section T_F0
open PySem PySem.W PyProof.Rows PySem.Calls PySem.Spec
theorem isStr_inj {v : Value} {a b : Str} (h : v.isStr a = true) (h' : v.isStr b = true) : a = b := by
  cases v with
  | str y t =>
    have e1 : y = a := by simpa [Value.isStr] using h
    have e2 : y = b := by simpa [Value.isStr] using h'
    rw [← e1, ← e2]
  | _ => simp [Value.isStr] at h
theorem getL_put_same {name : Str} {hsh : Int} {key v : Value} : ∀ {es : List DictEntry}, (∃ x, getL name es = some (some x)) → getL name (putL name hsh key v es) = some (some v)
  | [], ⟨x, h⟩ => by simp [getL] at h
  | e :: r, ⟨x, h⟩ => by
    unfold putL
    by_cases c : e.key.isStr name = true
    · rw [if_pos c]
      unfold getL
      rw [List.find?_cons_of_pos (by exact c)]
    · rw [if_neg c]
      have c' : e.key.isStr name = false := by simpa using c
      unfold getL at h ⊢
      rw [List.find?_cons_of_neg (by simpa using c')] at h
      rw [List.find?_cons_of_neg (by simpa using c')]
      have ih := getL_put_same (name := name) (hsh := hsh) (key := key) (v := v) (es := r) ⟨x, by
        unfold getL
        cases q : r.find? (·.key.isStr name) with
        | some en => rw [q] at h; exact h
        | none => rw [q] at h; dsimp only at h; split at h <;> cases h⟩
      unfold getL at ih
      cases q : (putL name hsh key v r).find? (·.key.isStr name) with
      | some en => rw [q] at ih; exact ih
      | none => rw [q] at ih; dsimp only at ih; split at ih <;> cases ih
theorem getL_put_ne {name name' : Str} {hsh : Int} {key v : Value} {y : Value} (hn : name' ≠ name) : ∀ {es : List DictEntry}, (∃ x, getL name es = some (some x)) → getL name' es = some (some y) → getL name' (putL name hsh key v es) = some (some y)
  | [], ⟨x, h⟩, _ => by simp [getL] at h
  | e :: r, ⟨x, h⟩, h' => by
    have some_of : ∀ {nm : Str} {z : Value} {l : List DictEntry} {b : Bool}, (match l.find? (·.key.isStr nm) with | some e => some (some e.val) | none => if b then none else some none) = some (some z) → ∃ en, l.find? (·.key.isStr nm) = some en ∧ en.val = z := by
      intro nm z l b hq
      cases q : l.find? (·.key.isStr nm) with
      | some en => rw [q] at hq; exact ⟨en, rfl, by simpa using hq⟩
      | none => rw [q] at hq; dsimp only at hq; split at hq <;> cases hq
    unfold putL
    by_cases c : e.key.isStr name = true
    · rw [if_pos c]
      have c2 : e.key.isStr name' = false := by
        cases z : e.key.isStr name' with
        | false => rfl
        | true => exact absurd (isStr_inj z c) hn
      unfold getL at h' ⊢
      rw [List.find?_cons_of_neg (by simpa using c2)] at h'
      rw [List.find?_cons_of_neg (by simpa using c2)]
      obtain ⟨en, q, rfl⟩ := some_of h'
      rw [q]
    · rw [if_neg c]
      have c' : e.key.isStr name = false := by simpa using c
      unfold getL at h
      rw [List.find?_cons_of_neg (by simpa using c')] at h
      obtain ⟨ex, qx, rfl⟩ := some_of h
      by_cases c2 : e.key.isStr name' = true
      · unfold getL at h' ⊢
        rw [List.find?_cons_of_pos (by exact c2)] at h'
        rw [List.find?_cons_of_pos (by exact c2)]
        exact h'
      · have c2' : e.key.isStr name' = false := by simpa using c2
        unfold getL at h' ⊢
        rw [List.find?_cons_of_neg (by simpa using c2')] at h'
        rw [List.find?_cons_of_neg (by simpa using c2')]
        obtain ⟨ey, qy, rfl⟩ := some_of h'
        have ih := getL_put_ne (name := name) (name' := name') (hsh := hsh) (key := key) (v := v) (y := ey.val) hn (es := r) ⟨ex.val, by unfold getL; rw [qx]⟩ (by unfold getL; rw [qy])
        unfold getL at ih
        obtain ⟨ez, qz, ez'⟩ := some_of ih
        rw [qz, ← ez']
theorem getL_put_none {name name' : Str} {hsh : Int} {key v : Value} (hn : name' ≠ name) : ∀ {es : List DictEntry}, (∃ x, getL name es = some (some x)) → getL name' es = some none → getL name' (putL name hsh key v es) = some none
  | [], ⟨x, h⟩, _ => by simp [getL] at h
  | e :: r, ⟨x, h⟩, h' => by
    have hc2 : e.key.isStr name' = false := by
      cases z : e.key.isStr name' with
      | false => rfl
      | true =>
        unfold getL at h'
        rw [List.find?_cons_of_pos (by exact z)] at h'
        cases h'
    unfold putL
    by_cases c : e.key.isStr name = true
    · rw [if_pos c]
      unfold getL at h' ⊢
      rw [List.find?_cons_of_neg (by simpa using hc2)] at h'
      rw [List.find?_cons_of_neg (by simpa using hc2)]
      exact h'
    · rw [if_neg c]
      have c' : e.key.isStr name = false := by simpa using c
      unfold getL at h
      rw [List.find?_cons_of_neg (by simpa using c')] at h
      have hx : ∃ x, getL name r = some (some x) := ⟨x, by
        unfold getL
        cases q : r.find? (·.key.isStr name) with
        | some en => rw [q] at h; exact h
        | none => rw [q] at h; dsimp only at h; split at h <;> cases h⟩
      unfold getL at h'
      rw [List.find?_cons_of_neg (by simpa using hc2)] at h'
      rw [List.any_cons] at h'
      cases q : r.find? (·.key.isStr name') with
      | some en => rw [q] at h'; cases h'
      | none =>
        rw [q] at h'
        have hr : (e.refKey || r.any fun x => x.refKey) = false := by
          cases z : (e.refKey || r.any fun x => x.refKey) with
          | false => rfl
          | true => rw [z] at h'; cases h'
        have hr1 : e.refKey = false := by cases z : e.refKey with | false => rfl | true => rw [z] at hr; cases hr
        have hr2 : (r.any fun x => x.refKey) = false := by rw [hr1] at hr; exact hr
        have ih := getL_put_none (name := name) (name' := name') (hsh := hsh) (key := key) (v := v) hn (es := r) hx (by unfold getL; rw [q]; dsimp only; rw [hr2]; rfl)
        unfold getL at ih ⊢
        rw [List.find?_cons_of_neg (by simpa using hc2), List.any_cons, hr1]
        exact ih
theorem putL_len {name : Str} {hsh : Int} {key v : Value} : ∀ {es : List DictEntry}, (∃ x, getL name es = some (some x)) → (putL name hsh key v es).length = es.length
  | [], ⟨x, h⟩ => by simp [getL] at h
  | e :: r, ⟨x, h⟩ => by
    unfold putL
    by_cases c : e.key.isStr name = true
    · rw [if_pos c]; rfl
    · rw [if_neg c]
      have c' : e.key.isStr name = false := by simpa using c
      unfold getL at h
      rw [List.find?_cons_of_neg (by simpa using c')] at h
      have ih := putL_len (name := name) (hsh := hsh) (key := key) (v := v) (es := r) ⟨x, by
        unfold getL
        cases q : r.find? (·.key.isStr name) with
        | some en => rw [q] at h; exact h
        | none => rw [q] at h; dsimp only at h; split at h <;> cases h⟩
      simp [ih]
end T_F0
section T_FK
open PySem PySem.W PyProof.Rows PySem.Calls PySem.Spec
/-- what a dict of attributes holds, by name -/
noncomputable def Keys (es : List DictEntry) (l : List (Str × Value)) : Prop := (∀ nm, getL nm es = some (l.lookup nm)) ∧ es.any (·.refKey) = false ∧ es.length ≤ l.length
theorem Keys.nil : Keys [] [] := ⟨fun _ => rfl, rfl, Nat.le_refl _⟩
theorem isStr_str {a b : Str} {t : Tok} : (Value.str a t).isStr b = (a == b) := rfl
theorem any_put {nm : Str} {hs : Int} {t : Tok} {v : Value} : ∀ {es : List DictEntry}, es.any (·.refKey) = false → (putL nm hs (.str nm t) v es).any (·.refKey) = false ∧ (putL nm hs (.str nm t) v es).length ≤ es.length + 1
  | [], _ => ⟨rfl, Nat.le_refl _⟩
  | e :: r, h => by
    rw [List.any_cons, Bool.or_eq_false_iff] at h
    obtain ⟨ih1, ih2⟩ := any_put (nm := nm) (hs := hs) (t := t) (v := v) h.2
    unfold putL
    by_cases c : e.key.isStr nm = true
    · rw [if_pos c]; exact ⟨by rw [List.any_cons, Bool.or_eq_false_iff]; exact h, Nat.le_succ _⟩
    · rw [if_neg c]; exact ⟨by rw [List.any_cons, Bool.or_eq_false_iff]; exact ⟨h.1, ih1⟩, Nat.succ_le_succ ih2⟩
theorem find_put {nm nm' : Str} {hs : Int} {t : Tok} {v : Value} : ∀ {es : List DictEntry}, ((putL nm hs (.str nm t) v es).find? (·.key.isStr nm')).map DictEntry.val = if nm' = nm then some v else (es.find? (·.key.isStr nm')).map DictEntry.val
  | [] => by
    unfold putL
    by_cases e : nm' = nm
    · subst e; rw [if_pos rfl, List.find?_cons_of_pos (by simp [isStr_str])]; rfl
    · rw [if_neg e, List.find?_cons_of_neg (by simp [isStr_str]; exact fun q => e q.symm)]
  | x :: r => by
    unfold putL
    by_cases c : x.key.isStr nm = true
    · rw [if_pos c]
      by_cases e : nm' = nm
      · subst e; rw [if_pos rfl, List.find?_cons_of_pos (by exact c)]; rfl
      · have c2 : ¬ x.key.isStr nm' = true := fun z => e (isStr_inj z c)
        rw [if_neg e, List.find?_cons_of_neg (by exact c2), List.find?_cons_of_neg (by exact c2)]
    · rw [if_neg c]
      by_cases z : x.key.isStr nm' = true
      · have e : ¬ nm' = nm := fun q => c (q ▸ z)
        rw [if_neg e, List.find?_cons_of_pos (by exact z), List.find?_cons_of_pos (by exact z)]
      · rw [List.find?_cons_of_neg (by exact z), List.find?_cons_of_neg (by exact z)]
        exact find_put
theorem getL_map {nm : Str} {es : List DictEntry} (h : es.any (·.refKey) = false) : getL nm es = some ((es.find? (·.key.isStr nm)).map DictEntry.val) := by
  unfold getL
  cases es.find? (·.key.isStr nm) with
  | some e => rfl
  | none => rw [h]; rfl
theorem Keys.put {es : List DictEntry} {l : List (Str × Value)} {nm : Str} {hs : Int} {t : Tok} {v : Value} (K : Keys es l) : Keys (putL nm hs (.str nm t) v es) ((nm, v) :: l) := by
  obtain ⟨a, b, c⟩ := K
  obtain ⟨b', c'⟩ := any_put (nm := nm) (hs := hs) (t := t) (v := v) b
  refine ⟨fun nm' => ?_, b', Nat.le_trans c' (Nat.succ_le_succ c)⟩
  rw [getL_map b', find_put]
  have h := a nm'
  rw [getL_map b] at h
  rw [List.lookup_cons]
  by_cases e : nm' = nm
  · subst e; rw [if_pos rfl, beq_self_eq_true]
  · rw [if_neg e, beq_false_of_ne e]; exact h
section
variable {prog : Program} {w : World} {A A₀ : Around} {E : Value → Shared → Prop} {s : Shared} {K : Frag} {x C dx L : Addr} {h₀ : Heap} {m : Str → Option Value} {news : List (Addr × Obj)} {ox : Obj} {es : List DictEntry} {n : Nat} {name : Str} {v : Value} {l : List (Str × Value)} {news' : List DictEntry → Nat → List (Addr × Obj)}
theorem set_dictH {Q : Unit → Shared → Prop} (F : Fr h₀ L s.heap m) (X₀ : K.In h₀) (N : News h₀ L s.heap news) (I : InstAt s.heap x ox C (some (dictOf es n))) (hd : ox.dict = some dx)
    (hs : findIn K (.ref C) "__setattr__" = some (some (.builtin "object.__setattr__"))) (hp : plainOver K C = true) (ht : takerIn K C name = some none) (hh : hasDictIn K C = true) (hk : Keys es l)
    (U : ∀ es' n', Upd dx (dictOf es n) (dictOf es' n') news (news' es' n')) (hz : l.length + 1 ≤ 1000)
    (h : ∀ h' es' n', Keys es' ((name, v) :: l) → Fr h₀ L h' m → News h₀ L h' (news' es' n') → Q () { s with heap := h', toks := s.toks + 2 }) :
    wpAny (model prog w) A (setAttr (.ref x) name v) Q E s :=
  set_dict F X₀ N I hd hs hp ht hh (by rw [hk.1]; rfl) rfl (U _ _) (Nat.le_trans hk.put.2.2 hz) fun h' F' N' => h h' _ _ hk.put F' N'
end
end T_FK
open PySem.Calls PySem.Spec
local macro_rules | `(tactic| k_mem) => `(tactic| first | exact List.Mem.head _ | exact mem1 | exact mem2 | exact mem3 | exact mem4 | exact mem5 | exact mem6 | exact mem7 | exact mem8 | exact mem9 | (refine memT10 ?_; k_mem))
local macro_rules | `(tactic| walk_at "M for") => `(tactic| (k_here; (rename Fr _ _ _ _ => lF'); (with_unfolding_all refine' For_invVF lF' ?k1 ?k2 ?_; (case k1 => exact rfl); (case k2 => exact rfl); k_whole)))
local macro_rules | `(tactic| walk_at "exec For Name Name cons nil") => `(tactic| walk_at "M for")
local macro_rules | `(tactic| walk_at "exec For Name Call cons nil") => `(tactic| walk_at "M for")
local macro_rules | `(tactic| walk_at "exec For Name Attribute cons nil") => `(tactic| walk_at "M for")
local macro_rules | `(tactic| walk_at "exec For Name Subscript cons nil") => `(tactic| walk_at "M for")
local macro_rules | `(tactic| walk_at "exec For Name IfExp cons nil") => `(tactic| walk_at "M for")
local macro_rules | `(tactic| walk_at "M tup") => `(tactic| first | assumption | exact Tpl.isTup (by walk_at "M tpl") | exact Fr.tup (by assumption) (by assumption) | exact News.isTup (by k_asm) (by k_mem))
local macro_rules | `(tactic| walk_at "M lst") => `(tactic| first | exact Lst.keeps (by assumption) (Fr.keep (by assumption)) | exact Lst.news (by k_asm) (by k_mem))
local macro_rules | `(tactic| walk_at "M tpl") => `(tactic| first | exact Tpl.keeps (by assumption) (Fr.keep (by assumption)) | exact Tpl.news (by k_asm) (by k_mem))
local macro_rules | `(tactic| walk_at "M list") => `(tactic| first | assumption | exact Lst.isList (by walk_at "M lst") | exact Fr.lst (by assumption) (by assumption) | exact News.isList (by k_asm) (by k_mem))
local macro_rules | `(tactic| walk_at "M fact") => `(tactic| first | assumption | rfl | walk_at "M om" | decide)
local macro_rules | `(tactic| walk_at "call builtin:len") => `(tactic| (k_here; first
  | (apply len_tupleM; walk_at "M tup"; walk_at "M fact"; walk_at "M fact"; k_whole; intro tt tk')
  | (apply len_listM; walk_at "M list"; walk_at "M fact"; walk_at "M fact"; k_whole; intro tt tk')))
local macro_rules | `(tactic| walk_at "subscriptTail") => `(tactic| (k_here; (with_unfolding_all refine' item_tupleM ?k1 ?k2 ?k3 ?_ ?k6; (case k6 => with_unfolding_all rfl); (case k1 => walk_at "M tup"); (case k3 => walk_at "M fact"); (case k2 => walk_at "M fact"); k_whole)))
local macro_rules | `(tactic| walk_at "M inst") => `(tactic| first | exact inst_keeps (by assumption) (Fr.keep (by assumption)) | k_inst)
local macro_rules | `(tactic| walk_at "M getl") => `(tactic| first | assumption | k_get)
local macro_rules | `(tactic| walk_at "getAttr ref") => `(tactic| (k_here; k_dflt (apply get_own; k_asm; k_asm; walk_at "M inst"; k_is; k_is; k_is; k_is; walk_at "M getl"; (first | assumption | k_handed); k_whole)))
local macro_rules | `(tactic| walk_at "compareOp Eq ref ref") => `(tactic| (k_here; first
  | (refine' eq_nilM ?k1 ?k2 ?k3 ?k4 ?_; (case k2 => walk_at "M list"); (case k1 => walk_at "M list"); (case k3 => exact Nat.lt_of_le_of_lt (Nat.le_add_right _ 4) (Amb.un (by assumption))); (case k4 => first | assumption | exact rfl); k_whole)
  | (refine' eq_tnilM ?k1 ?k2 ?k3 ?k4 ?_; (case k2 => walk_at "M tup"); (case k1 => walk_at "M tup"); (case k3 => exact Nat.lt_of_le_of_lt (Nat.le_add_right _ 4) (Amb.un (by assumption))); (case k4 => first | assumption | exact rfl); k_whole)))
local macro_rules | `(tactic| walk_at "compareOp NotEq ref ref") => `(tactic| (k_here; refine' ne_nilM ?k1 ?k2 ?k3 ?k4 ?_; (case k2 => walk_at "M list"); (case k1 => walk_at "M list"); (case k3 => exact Nat.lt_of_le_of_lt (Nat.le_add_right _ 4) (Amb.un (by assumption))); (case k4 => first | assumption | exact rfl); k_whole))
local macro_rules | `(tactic| walk_at "M size") => `(tactic| first | assumption | walk_at "M om" | ((simp only [refs_length, List.length_append, List.length_cons, List.length_nil, List.length_reverse, List.length_map]); walk_at "M om") | ((try simp only [refs_length, List.length_append, List.length_cons, List.length_nil, List.length_reverse, List.length_map] at *); omega))
local macro_rules | `(tactic| walk_at "call builtin:list.pop") => `(tactic| (k_here; k_dflt (refine' kl_pop ?F ?N ?e ?U ?z ?_; (case F => k_asm); (case N => k_asm); (case U => k_upd); (case e => exact kl_last_refs _ _); (case z => ((try rw [List.toList_toArray]); (try rw [sizeLine_eq]); walk_at "M size"))); intro h' F' N'; (try k_sweep)))
local macro_rules | `(tactic| walk_at "call builtin:list.extend") => `(tactic| (k_here; k_dflt (apply extendM; k_asm; k_asm; walk_at "M lst"; (intro kk; k_upd); walk_at "M size"); intro ke h' F' N'; (try k_sweep)))
local macro_rules | `(tactic| walk_at "binaryOp Add ref ref") => `(tactic| (k_here; k_dflt (apply addM; k_asm; k_asm; walk_at "M lst"; walk_at "M lst"; walk_at "M size"); intro D' h' F' N' l1; (try k_lt l1); (try k_sweep)))
local macro_rules | `(tactic| walk_at "M rev") => `(tactic| (k_here; k_dflt (apply revM; k_asm; k_asm; walk_at "M lst"; walk_at "M size"; rotate_left; with_unfolding_all rfl); intro D' h' F' N' l1; (try k_lt l1); (try k_sweep)))
local macro_rules | `(tactic| walk_at "subscriptTail Attribute Slice ref ref") => `(tactic| walk_at "M rev")
local macro_rules | `(tactic| walk_at "subscriptTail Call Slice ref ref") => `(tactic| walk_at "M rev")
local macro_rules | `(tactic| walk_at "subscriptTail Name Slice ref ref") => `(tactic| walk_at "M rev")
local macro_rules | `(tactic| walk_at "M amb") => `(tactic| exact Amb.down (Amb.inn (by assumption) (by assumption)) (by decide))
local macro_rules | `(tactic| walk_at "M hok") => `(tactic| exact HOK.inn (by assumption) (by assumption))
local macro_rules | `(tactic| walk_at "M back list") => `(tactic| (intro lr kr h' tk' st' fr' gt'; (with_reducible rename Fr _ _ _ _ => mF); (with_reducible rename News _ _ _ _ => mN); (have F' := Fr.keeps mF st'); (have N' := news_made mF mN st' fr' gt'); (have l1 := allNe_made fr' mN); (try simp only [AllNe, and_true] at l1); clear st' fr' gt'; (try k_sweep); (try dsimp only)))
local macro_rules | `(tactic| k_all) => `(tactic| first | exact List.forall_mem_nil _ | with_reducible assumption | (refine' allCons ?_ ?_; k_ne; k_all))
local macro_rules | `(tactic| walk_at "subscriptTail Name UnaryOp ref int") => `(tactic| (k_here; (with_reducible show wpAny _ _ (subscriptTail _ _ (Value.ref _) (Value.int (-1) _)) _ _ _); (with_unfolding_all refine' item_lastM ?k1 ?k0 ?k2 ?_ ?k6; (case k6 => with_unfolding_all rfl); (case k1 => walk_at "M lst"); (case k0 => assumption); (case k2 => walk_at "M size"); k_whole)))
local macro_rules | `(tactic| walk_at "M cj") => `(tactic| with_reducible (rename _ ∧ _ => z; first | exact cjA0 z | exact cjB0 z | exact cjA1 z | exact cjB1 z | exact cjA2 z | exact cjB2 z | exact cjA3 z | exact cjB3 z | exact cjA4 z | exact cjB4 z | exact cjA5 z | exact cjB5 z | exact cjB6 z | exact cjA7 z | exact cjB7 z | exact cjA8 z | exact cjB8 z | exact cjA9 z | exact cjB9 z | exact cjA10 z | exact cjB10 z | exact cjB11 z | exact cjA12 z | exact cjB12 z | (clear z; walk_at "M cj")))
local macro_rules | `(tactic| walk_at "M om") => `(tactic| first | with_reducible assumption | ((repeat ((with_reducible rename _ ∧ _ => kz); clear kz)); omega) | omega)
local macro_rules | `(tactic| k_ne) => `(tactic| (refine neN ?_; (try dsimp only); first | with_reducible assumption | exact Ne.symm (by with_reducible assumption) | exact Nat.ne_of_lt (by with_reducible assumption) | exact Nat.ne_of_gt (by with_reducible assumption) | walk_at "M cj" | ((repeat ((with_reducible rename @Ne _ _ _ => kNz); clear kNz)); omega)))
local macro_rules | `(tactic| walk_at "unpackItems ref") => `(tactic| (k_here; k_dflt (apply unpackItemsN_; k_asm; k_asm; walk_at "M tup"; assumption; exact rfl; k_whole); intro h' F' N'; (try k_sweep)))
local macro_rules | `(tactic| walk_at "ite") => `(tactic| (k_closed; first | rw [if_neg (by decide)] | rw [if_pos (by decide)]))
local macro_rules | `(tactic| walk_at "M kp") => `(tactic| first | exact ItemAt.keeps (by assumption) (Fr.keep (by assumption)) | exact Line.keeps (by assumption) (Fr.keep (by assumption)) | exact DataAt.keeps (by assumption) (Fr.keep (by assumption)))
local macro_rules | `(tactic| walk_at "execs cons") => `(tactic| first | (k_here; (with_reducible show wpAny _ _ _ _ _ _); k_gentoks) | ((with_reducible refine execs_consA ?_); try dsimp only))
section T_C1
set_option maxHeartbeats 1000000
set_option maxRecDepth 100000
section
variable {w : World} {A : Around} {base : Heap} {outer : List Env} {mean : ExcName → Option Value} {mg mb : Str → Option Value} {s : Shared} {n : Nat} {R : Result → Shared → Prop}
noncomputable def ldStep (qs : List Str) (k : Nat) (n : Str) : Nat := if qs[k]? = some n then k + 1 else k
noncomputable def leads (ns us : List Str) : Bool := ns.foldl (ldStep us) 0 == us.length
theorem ld_yes {us : List Str} {k : Nat} {nm : Str} (h1 : (k : Int) < us.length) (h2 : (nm == us.getD (k : Int).toNat Str.empty) = true) : ldStep us k nm = k + 1 := by
  w_top off
  have hk : k < us.length := by (walk_at "M om")
  unfold ldStep
  rw [if_pos]
  have := eq_of_beq h2
  rw [Int.toNat_natCast, List.getD_eq_getElem?_getD, List.getElem?_eq_getElem hk] at this
  rw [List.getElem?_eq_getElem hk, this]; rfl
theorem ld_no {us : List Str} {k : Nat} {nm : Str} (h1 : (k : Int) < us.length) (h2 : (nm == us.getD (k : Int).toNat Str.empty) = false) : ldStep us k nm = k := by
  have hk : k < us.length := by (walk_at "M om")
  unfold ldStep
  rw [if_neg]
  intro e
  rw [Int.toNat_natCast, List.getD_eq_getElem?_getD, e] at h2
  simp at h2
theorem ld_past {us : List Str} {k : Nat} {nm : Str} (h1 : ¬ (k : Int) < us.length) : ldStep us k nm = k := by
  unfold ldStep
  rw [if_neg]
  intro e
  obtain ⟨h, _⟩ := List.getElem?_eq_some_iff.mp e
  (walk_at "M om")
theorem leads_code {l t : Addr} {xs qs : List Value} {ns us : List Str}
   (M : Amb w A base outer mean mg mb s.heap 10) (H : HOK A s.heap) (hl : s.heap.IsList l xs.toArray) (ht : IsTup s.heap t qs.toArray) (hx : StrsAre xs ns) (hq : StrsAre qs us) (hb : us.length < 1000)
   (hR : ∀ h' tk, s.heap.StaysIn h' → R (.ok (.ret (.bool (leads ns us)))) { s with heap := h', toks := tk }) :
   codeAny (model PR w) A (.call (.ref 223) ⟨[.ref l, .ref t], []⟩) R s := by
  have X := M.X
  have T := M.T
  have B := M.B
  have hqn : qs.length = us.length := hq.len_eq
  refine enter (rb := [(Str.ofString "qualifiers", .ref t), (Str.ofString "around", .ref l)]) M (by with_unfolding_all rfl) (by k_is) (BindsTo.of_eq rfl) (locs rfl) (by decide) ?_
  intro L h₁ tk hL F N
  with_reducible refine post_gen ?_
  intro Q₀ hQ₀
  k_steps
  rename_i lF' N'
  refine iterH_list (nx₀ := []) (fun i m nx => nx = [] ∧ m (Str.ofString "qualifiers") = some (.ref t) ∧ ∃ tk, m (Str.ofString "at") = some (.int ((ns.take i).foldl (ldStep us) 0 : Nat) tk)) H (hl.at fun o e => lF'.keep _ o e) lF' N'
    (fun _ hp => nomatch hp) (fun _ hp => nomatch hp) ⟨rfl, rfl, _, rfl⟩ ?_ ?_
  · rintro i v m₁ nx h tk own hv - ⟨rfl, hm1, tka, hm2⟩ F1 N1
    obtain ⟨nm, t1, hn, rfl⟩ := strs_get hx hv
    replace F1 := Fr.upd [(Str.ofString "at", _), (Str.ofString "qualifiers", _)] F1 (allCons hm2 (allCons hm1 (List.forall_mem_nil _)))
    have htk : ns.take (i + 1) = ns.take i ++ [nm] := by rw [List.take_add_one, hn]; rfl
    have hfo : (ns.take (i + 1)).foldl (ldStep us) 0 = ldStep us ((ns.take i).foldl (ldStep us) 0) nm := by rw [htk, List.foldl_append]; rfl
    rw [hfo]
    generalize hk : (ns.take i).foldl (ldStep us) 0 = k at F1 ⊢
    clear hm1 hm2 lF' N' hfo htk hk
    k_steps
    all_goals refine InvEndG.intro (by assumption) (by assumption) ⟨rfl, by rfl, ?_⟩ (fun _ _ _ hb => nomatch hb) (fun _ hp => nomatch hp) (fun p hp => by simpa using hp)
    · rw [ld_yes (by assumption) (by assumption)]; exact ⟨_, rfl⟩
    · rw [ld_no (by assumption) (by assumption)]; exact ⟨_, rfl⟩
    · rw [ld_past (by assumption)]; exact ⟨_, rfl⟩
  · rintro m₁ nx h tk ⟨rfl, hm1, tka, hm2⟩ F1 N1
    replace F1 := Fr.upd0 [(Str.ofString "at", _), (Str.ofString "qualifiers", _)] F1 (allCons hm2 (allCons hm1 (List.forall_mem_nil _)))
    k_steps
    have e : List.take xs.length ns = ns := by rw [hx.len_eq]; exact List.take_length
    rw [e]
    have e2 : ((ns.foldl (ldStep us) 0 : Nat) == (us.length : Nat)) = (((ns.foldl (ldStep us) 0 : Nat) : Int) == (us.length : Int)) := by
      rw [Bool.eq_iff_iff, beq_iff_eq, beq_iff_eq]; (walk_at "M om")
    rw [← e2]
    refine hQ₀ _ _ ?_
    exact hR _ _ F1.keep
end
end T_C1
section T_C2
set_option maxHeartbeats 600000
set_option maxRecDepth 100000
inductive UpsJ (h : Heap) (l' : Addr) (ps : List Up) (k : Nat) (m : Str → Option Value) (nx : List (Addr × Obj)) : Prop
  | mk (done rest : List Up) (v : Value) (c : Nat) (e1 : ps = done ++ rest) (e2 : k = rest.length) (e3 : nx = [(l', listOf (refs (ups done)).toArray c)]) (m1 : m (Str.ofString "found") = some (.ref l')) (m2 : m (Str.ofString "above") = some v) (l : Line h v rest) : UpsJ h l' ps k m nx
section
variable {w : World} {A : Around} {base : Heap} {outer : List Env} {mean : ExcName → Option Value} {mg mb : Str → Option Value} {s : Shared} {n : Nat} {R : Result → Shared → Prop}
theorem around_code {x : Addr} {nm : Str} {par occ : Value} {kids : Addr} {shp : Value} {ps : List Up}
   (M : Amb w A base outer mean mg mb s.heap 5) (I : ItemAt s.heap x nm par occ kids shp) (hl : Line s.heap par ps) (hb : ps.length < 1000)
   (hR : ∀ l k h' tk, s.heap.StaysIn h' → s.heap.get? l = none → h'.get? l = some (listOf (refs (ups ps)).toArray k) → R (.ok (.ret (.ref l))) { s with heap := h', toks := tk }) :
   codeAny (model PR w) A (.call (.ref 194) ⟨[.ref x], []⟩) R s := by
  w_top off
  have X := M.X
  have T := M.T
  have B := M.B
  obtain ⟨ox, es, n0, t0, ⟨I1, I2, I3, I4, I5, I6⟩⟩ := I
  have hpar : par = .none ∨ ∃ p, par = .ref p := by cases hl with | nil => exact .inl rfl | cons _ _ _ _ => exact .inr ⟨_, rfl⟩
  have hh : handedIn par = true := by rcases hpar with rfl | ⟨p, rfl⟩ <;> rfl
  refine enter (rb := [(Str.ofString "item", .ref x)]) M (by with_unfolding_all rfl) (by k_is) (BindsTo.of_eq rfl) (locs rfl) (by decide) ?_
  intro L h₁ tk hL F N
  with_reducible refine post_gen ?_
  intro Q₀ hQ₀
  (repeat' ((((fail_if_success (with_reducible show wpAny _ _ (exec (Stmt.While _ _ _ _) _) _ _ _)); (fail_if_success (with_reducible show wpAny _ _ (pyIter _) (fun it s₂ => LoopAtV _ _ _ _ _ _ _ _ _ it s₂) _ _)); (fail_if_success (with_reducible show wpAny _ _ (eval (Expr.ListComp _ _ _ _) _) _ _ _)); (fail_if_success (with_reducible show Exists _)))); first | (k_unfold; (try dsimp only)) | walk1 | (dsimp only; walk1) | fail "no step"))
  rename_i l' _ _ _ _ _ F' N'
  clear I1 I2 I3 I4 I5 I6
  refine While_inv2 (UpsJ s.heap l' ps)
    (n₀ := ps.length) F' N' ⟨[], ps, par, 0, rfl, rfl, rfl, rfl, rfl, hl⟩ ?_
  rintro k m₁ nx h₂ tk₂ F₂ N₂ ⟨done, rest, v, c, rfl, rfl, rfl, hm1, hm2, hl'⟩
  clear F' N' hl hpar hh
  replace F₂ := Fr.upd0 [((Str.ofString "above"), _), ((Str.ofString "found"), _)] F₂ (allCons hm2 (allCons hm1 (List.forall_mem_nil _)))
  have hlen : (refs (ups done)).length < 1000 := by rw [refs_length]; simp [ups] at hb ⊢; (walk_at "M om")
  cases hl' with
  | nil =>
    (repeat' ((((fail_if_success (with_reducible show wpAny _ _ (exec (Stmt.While _ _ _ _) _) _ _ _)); (fail_if_success (with_reducible show wpAny _ _ (pyIter _) (fun it s₂ => LoopAtV _ _ _ _ _ _ _ _ _ it s₂) _ _)); (fail_if_success (with_reducible show wpAny _ _ (eval (Expr.ListComp _ _ _ _) _) _ _ _)); (fail_if_success (with_reducible show Exists _)))); first | (k_unfold; (try dsimp only)) | walk1 | (dsimp only; walk1) | fail "no step"))
    simp only [List.append_nil] at hR
    refine hQ₀ _ _ ?_
    exact hR l' _ _ _ F₂.keep (N₂.fresh (.head _)) (N₂.get (.head _))
  | @cons p nm' par' occ' kids' shp' r tb I' htb hho hl'' =>
    obtain ⟨ox, es, n0, t0, ⟨I1, I2, I3, I4, I5, I6⟩⟩ := I'
    have hpar : par' = .none ∨ ∃ p, par' = .ref p := by cases hl'' with | nil => exact .inl rfl | cons _ _ _ _ => exact .inr ⟨_, rfl⟩
    have hh : handedIn par' = true := by rcases hpar with rfl | ⟨p, rfl⟩ <;> rfl
    (repeat' ((((fail_if_success (with_reducible show wpAny _ _ (exec (Stmt.While _ _ _ _) _) _ _ _)); (fail_if_success (with_reducible show wpAny _ _ (pyIter _) (fun it s₂ => LoopAtV _ _ _ _ _ _ _ _ _ it s₂) _ _)); (fail_if_success (with_reducible show wpAny _ _ (eval (Expr.ListComp _ _ _ _) _) _ _ _)); (fail_if_success (with_reducible show Exists _)))); first | (k_unfold; (try dsimp only)) | walk1 | (dsimp only; walk1) | fail "no step"))
    rename_i F₃ N₃
    rw [refs_push, show ups done ++ [p] = ups (done ++ [⟨p, nm', tb⟩]) by simp [ups]] at N₃
    exact ⟨_, _, _, _, r.length, rfl, F₃, N₃, Nat.lt_succ_self _, done ++ [⟨p, nm', tb⟩], r, par', c + 1, by simp, rfl, rfl, rfl, rfl, hl''⟩
end
end T_C2
section T_C3
set_option maxHeartbeats 1000000
set_option maxRecDepth 100000
section
variable {w : World} {A : Around} {base : Heap} {outer : List Env} {mean : ExcName → Option Value} {mg mb : Str → Option Value} {s : Shared} {n : Nat} {R : Result → Shared → Prop}
theorem records_code {data root xd : Addr}
   (M : Amb w A base outer mean mg mb s.heap 5) (H : HOK A s.heap) (D : DataAt s.heap data root xd)
   (hR : ∀ l k h' tk, s.heap.StaysIn h' → s.heap.get? l = none → h'.get? l = some (listOf (refs [root]).toArray k) → R (.ok (.ret (.ref l))) { s with heap := h', toks := tk }) :
   codeAny (model PR w) A (.call (.ref 173) ⟨[.ref data], []⟩) R s := by
  w_top off
  have X := M.X
  have T := M.T
  have B := M.B
  obtain ⟨fd, wl, ll, ox, es, n0, ⟨D1, D2, D3, D4, D5, ⟨kd, D6⟩, D7, D8, D9⟩⟩ := D
  refine enter (rb := [(Str.ofString "data", .ref data)]) M (by with_unfolding_all rfl) (by k_is) (BindsTo.of_eq rfl) (locs rfl) (by decide) ?_
  intro L h₁ tk hL F N
  with_reducible refine post_gen ?_
  intro Q₀ hQ₀
  (repeat' ((((fail_if_success (with_reducible show wpAny _ _ (exec (Stmt.While _ _ _ _) _) _ _ _)); (fail_if_success (with_reducible show wpAny _ _ (pyIter _) (fun it s₂ => LoopAtV _ _ _ _ _ _ _ _ _ it s₂) _ _)); (fail_if_success (with_reducible show wpAny _ _ (eval (Expr.ListComp _ _ _ _) _) _ _ _)); (fail_if_success (with_reducible show Exists _)))); first | (k_unfold; (try dsimp only)) | walk1 | (dsimp only; walk1) | fail "no step"))
  rename_i F' N'
  refine iterH_dict0 H D6 D7 F' N' fun h₂ tk₂ F₂ N₂ => ?_
  clear F' N'
  (repeat' ((((fail_if_success (with_reducible show wpAny _ _ (exec (Stmt.While _ _ _ _) _) _ _ _)); (fail_if_success (with_reducible show wpAny _ _ (pyIter _) (fun it s₂ => LoopAtV _ _ _ _ _ _ _ _ _ it s₂) _ _)); (fail_if_success (with_reducible show wpAny _ _ (eval (Expr.ListComp _ _ _ _) _) _ _ _)); (fail_if_success (with_reducible show Exists _)))); first | (k_unfold; (try dsimp only)) | walk1 | (dsimp only; walk1) | fail "no step"))
  rename Fr _ _ _ _ => F₃
  rename News _ _ _ _ => N₃
  refine hQ₀ _ _ ?_
  exact hR _ _ _ _ F₃.keep (N₃.fresh (.head _)) (N₃.get (.head _))

/-- the items beneath a stack of items, each ahead of its kids: the top of the stack comes first -/
inductive Pre (h : Heap) : List Addr → List Addr → Prop
  | nil : Pre h [] []
  | step {st ks rest : List Addr} {x : Addr} {nm : Str} {par occ : Value} {kids : Addr} {shp : Value} : ItemAt h x nm par occ kids shp → Lst h kids (refs ks) → Pre h (st ++ ks.reverse) rest → Pre h (st ++ [x]) (x :: rest)
theorem Pre.keeps {g h : Heap} {st xs : List Addr} (p : Pre g st xs) (k : ∀ b o, g.get? b = some o → h.get? b = some o) : Pre h st xs := by
  induction p with
  | nil => exact .nil
  | step I l _ ih => exact .step (I.keeps k) (l.keeps k) ih
theorem Pre.stack_le {h : Heap} {st xs : List Addr} (p : Pre h st xs) : st.length ≤ xs.length := by
  induction p with
  | nil => exact Nat.le_refl _
  | step _ _ _ ih => simp only [List.length_append, List.length_reverse, List.length_cons, List.length_nil] at ih ⊢; (walk_at "M om")

inductive KidsJ (h : Heap) (f' l' : Addr) (xs : List Addr) (k : Nat) (m : Str → Option Value) (nx : List (Addr × Obj)) : Prop
  | mk (done rest st : List Addr) (c d : Nat) (e1 : xs = done ++ rest) (e2 : k = rest.length) (e3 : nx = [(l', listOf (refs st).toArray d), (f', listOf (refs done).toArray c)]) (m1 : m (Str.ofString "found") = some (.ref f')) (m2 : m (Str.ofString "line") = some (.ref l')) (P : Pre h st rest) : KidsJ h f' l' xs k m nx
theorem under_code {x : Addr} {xs : List Addr}
   (M : Amb w A base outer mean mg mb s.heap 5) (P : Pre s.heap [x] xs) (hb : xs.length < 500)
   (hR : ∀ l k h' tk, s.heap.StaysIn h' → s.heap.get? l = none → h'.get? l = some (listOf (refs xs).toArray k) → R (.ok (.ret (.ref l))) { s with heap := h', toks := tk }) :
   codeAny (model PR w) A (.call (.ref 180) ⟨[.ref x], []⟩) R s := by
  have X := M.X
  have T := M.T
  have B := M.B
  refine enter (rb := [(Str.ofString "item", .ref x)]) M (by with_unfolding_all rfl) (by k_is) (BindsTo.of_eq rfl) (locs rfl) (by decide) ?_
  intro L h₁ tk hL F N
  with_reducible refine post_gen ?_
  intro Q₀ hQ₀
  (repeat' ((((fail_if_success (with_reducible show wpAny _ _ (exec (Stmt.While _ _ _ _) _) _ _ _)); (fail_if_success (with_reducible show wpAny _ _ (pyIter _) (fun it s₂ => LoopAtV _ _ _ _ _ _ _ _ _ it s₂) _ _)); (fail_if_success (with_reducible show wpAny _ _ (eval (Expr.ListComp _ _ _ _) _) _ _ _)); (fail_if_success (with_reducible show Exists _)))); first | (k_unfold; (try dsimp only)) | walk1 | (dsimp only; walk1) | fail "no step"))

  rename_i f' _ _ _ _ l' _ l1 _ F' N'
  refine While_inv2 (KidsJ s.heap f' l' xs)
    (n₀ := xs.length) F' N' ⟨[], xs, [x], 0, 0, rfl, rfl, rfl, rfl, rfl, P⟩ ?_
  rintro k m₁ nx h₂ tk₂ F₂ N₂ ⟨done, rest, st, c, d, rfl, rfl, rfl, hm1, hm2, P'⟩
  clear F' N' P
  replace F₂ := Fr.upd0 [((Str.ofString "line"), _), ((Str.ofString "found"), _)] F₂ (allCons hm2 (allCons hm1 (List.forall_mem_nil _)))
  have hlen : (refs done).length < 500 := by rw [refs_length]; simp at hb; (walk_at "M om")
  have hlen2 : (refs st).length < 500 := by rw [refs_length]; have := P'.stack_le; simp at hb; (walk_at "M om")
  cases P' with
  | nil =>
    (repeat' ((((fail_if_success (with_reducible show wpAny _ _ (exec (Stmt.While _ _ _ _) _) _ _ _)); (fail_if_success (with_reducible show wpAny _ _ (pyIter _) (fun it s₂ => LoopAtV _ _ _ _ _ _ _ _ _ it s₂) _ _)); (fail_if_success (with_reducible show wpAny _ _ (eval (Expr.ListComp _ _ _ _) _) _ _ _)); (fail_if_success (with_reducible show Exists _)))); first | (k_unfold; (try dsimp only)) | walk1 | (dsimp only; walk1) | fail "no step"))
    rename Fr _ _ _ _ => F₃
    rename News _ _ _ _ => N₃
    simp only [List.append_nil] at hR
    refine hQ₀ _ _ ?_
    exact hR _ _ _ _ F₃.keep (N₃.fresh (mem2)) (N₃.get (mem2))
  | @step st ks rest x' nm' par' occ' kids' shp' I' hk P'' =>
    obtain ⟨ox, es, n0, t0, ⟨I1, I2, I3, I4, I5, I6⟩⟩ := I'
    have hlen3 : (refs st).length + (refs ks).length < 500 := by rw [refs_length, refs_length]; have := P''.stack_le; simp at hb this; (walk_at "M om")
    have he : (refs (st ++ [x'])).isEmpty = false := by simp [refs]
    (repeat' ((((fail_if_success (with_reducible show wpAny _ _ (exec (Stmt.While _ _ _ _) _) _ _ _)); (fail_if_success (with_reducible show wpAny _ _ (pyIter _) (fun it s₂ => LoopAtV _ _ _ _ _ _ _ _ _ it s₂) _ _)); (fail_if_success (with_reducible show wpAny _ _ (eval (Expr.ListComp _ _ _ _) _) _ _ _)); (fail_if_success (with_reducible show Exists _)))); first | (k_unfold; (try dsimp only)) | walk1 | (dsimp only; walk1) | fail "no step"))
    rename Fr _ _ _ _ => F₃
    rename News _ _ _ _ => N₃
    rw [refs_push, refs_reverse, refs_append] at N₃
    exact ⟨_, _, _, _, rest.length, rfl, F₃, news_tl (news_tl N₃), Nat.lt_succ_self _, done ++ [x'], rest, st ++ ks.reverse, _, _, by simp, rfl, rfl, rfl, rfl, P''⟩
end
end T_C3
section T_C4
set_option maxHeartbeats 8000000
set_option maxRecDepth 100000
local macro_rules | `(tactic| walk_at "call ref") => `(tactic| (k_here; apply wpAny_callA; apply records_code; walk_at "M amb"; walk_at "M hok"; walk_at "M kp"; walk_at "M back list"))
local macro_rules | `(tactic| walk_at "call ref") => `(tactic| (k_here; apply wpAny_callA; apply under_code; walk_at "M amb"; exact Pre.keeps (by assumption) (Fr.keep (by assumption)); assumption; walk_at "M back list"))
section
variable {w : World} {A : Around} {base : Heap} {outer : List Env} {mean : ExcName → Option Value} {mg mb : Str → Option Value} {s : Shared} {n : Nat} {R : Result → Shared → Prop}
theorem all_code {data root xd : Addr} {xs : List Addr}
   (M : Amb w A base outer mean mg mb s.heap 8) (H : HOK A s.heap) (D : DataAt s.heap data root xd) (P : Pre s.heap [root] xs) (hb : xs.length < 500)
   (hR : ∀ l k h' tk, s.heap.StaysIn h' → s.heap.get? l = none → h'.get? l = some (listOf (refs xs).toArray k) → R (.ok (.ret (.ref l))) { s with heap := h', toks := tk }) :
   codeAny (model PR w) A (.call (.ref 187) ⟨[.ref data], []⟩) R s := by
  w_top off
  have X := M.X
  have T := M.T
  have B := M.B
  refine enter (rb := [(Str.ofString "data", .ref data)]) M (by with_unfolding_all rfl) (by k_is) (BindsTo.of_eq rfl) (locs rfl) (by decide) ?_
  intro L h₁ tk hL F N
  with_reducible refine post_gen ?_
  intro Q₀ hQ₀
  (repeat' ((((fail_if_success (with_reducible show wpAny _ _ (exec (Stmt.While _ _ _ _) _) _ _ _)); (fail_if_success (with_reducible show wpAny _ _ (pyIter _) (fun it s₂ => LoopAtV _ _ _ _ _ _ _ _ _ it s₂) _ _)); (fail_if_success (with_reducible show wpAny _ _ (eval (Expr.ListComp _ _ _ _) _) _ _ _)); (fail_if_success (with_reducible show Exists _)))); first | (k_unfold; (try dsimp only)) | walk1 | (dsimp only; walk1) | fail "no step"))
  rename Fr _ _ _ _ => F₁
  rename News _ _ _ _ => N₁
  rename_i f' _ _ _ lr kr _ _ l1
  refine iterH_list (nx₀ := [(f', listOf (refs []).toArray 0)]) (fun i m nx => ∃ c, nx = [(f', listOf (refs (if i = 0 then [] else xs)).toArray c)] ∧ m (Str.ofString "found") = some (.ref f')) H (Lst.isList ⟨_, N₁.get (.head _)⟩) F₁ N₁
    (fun p hp => .tail _ hp) (fun p hp => by rw [List.mem_singleton.mp hp]; exact l1) ⟨0, rfl, rfl⟩ ?_ ?_
  · rintro i v m₁ nx h tk own hv ho ⟨c, rfl, hm1⟩ F2 N2
    have hi : i = 0 := by
      obtain ⟨hlt, _⟩ := List.getElem?_eq_some_iff.mp hv
      simp [refs] at hlt; exact hlt
    subst hi
    have hv' : v = .ref root := by simpa [refs] using hv.symm
    subst hv'
    replace F2 := Fr.upd [((Str.ofString "found"), _)] F2 (by simp only [List.mem_cons, List.not_mem_nil, or_false, forall_eq]; exact hm1)
    clear F₁ N₁
    have ho1 : ∀ p ∈ own, p.1 ≠ f' := ho.ne (.head _)
    simp only [if_true, List.cons_append, List.nil_append] at N2
    (repeat' ((((fail_if_success (with_reducible show wpAny _ _ (exec (Stmt.While _ _ _ _) _) _ _ _)); (fail_if_success (with_reducible show wpAny _ _ (pyIter _) (fun it s₂ => LoopAtV _ _ _ _ _ _ _ _ _ it s₂) _ _)); (fail_if_success (with_reducible show wpAny _ _ (eval (Expr.ListComp _ _ _ _) _) _ _ _)); (fail_if_success (with_reducible show Exists _)))); first | (k_unfold; (try dsimp only)) | walk1 | (dsimp only; walk1) | fail "no step"))
    rename Fr _ _ _ _ => F₃
    rename News _ _ _ _ => N₃
    rw [refs_append] at N₃
    exact InvEndG.intro F₃ (news_tl N₃) ⟨_, rfl, rfl⟩ ho (fun p hp => by rw [List.mem_singleton.mp hp]; exact .head _) (fun p hp => .tail _ hp)
  · rintro m₁ nx h tk ⟨c, rfl, hm1⟩ F2 N2
    replace F2 := Fr.upd0 [((Str.ofString "found"), _)] F2 (by simp only [List.mem_cons, List.not_mem_nil, or_false, forall_eq]; exact hm1)
    clear F₁ N₁
    (repeat' ((((fail_if_success (with_reducible show wpAny _ _ (exec (Stmt.While _ _ _ _) _) _ _ _)); (fail_if_success (with_reducible show wpAny _ _ (pyIter _) (fun it s₂ => LoopAtV _ _ _ _ _ _ _ _ _ it s₂) _ _)); (fail_if_success (with_reducible show wpAny _ _ (eval (Expr.ListComp _ _ _ _) _) _ _ _)); (fail_if_success (with_reducible show Exists _)))); first | (k_unfold; (try dsimp only)) | walk1 | (dsimp only; walk1) | fail "no step"))
    refine hQ₀ _ _ ?_
    exact hR _ _ _ _ F2.keep (N2.fresh (.head _)) (N2.get (.head _))
end
end T_C4
section T_C5
set_option maxHeartbeats 600000
set_option maxRecDepth 100000
local macro_rules | `(tactic| walk_at "call ref") => `(tactic| (k_here; apply wpAny_callA; apply around_code; walk_at "M amb"; walk_at "M kp"; walk_at "M kp"; assumption; walk_at "M back list"))
section
variable {w : World} {A : Around} {base : Heap} {outer : List Env} {mean : ExcName → Option Value} {mg mb : Str → Option Value} {s : Shared} {n : Nat} {R : Result → Shared → Prop}
theorem root_code {x : Addr} {nm : Str} {par occ : Value} {kids : Addr} {shp : Value} {ps : List Up}
   (M : Amb w A base outer mean mg mb s.heap 8) (I : ItemAt s.heap x nm par occ kids shp) (hl : Line s.heap par ps) (hb : ps.length < 1000)
   (hR : ∀ r h' tk, s.heap.StaysIn h' → R (.ok (.ret (.ref r))) { s with heap := h', toks := tk }) :
   codeAny (model PR w) A (.call (.ref 201) ⟨[.ref x], []⟩) R s := by
  w_top off
  have X := M.X
  have T := M.T
  have B := M.B
  have hlen : (refs (ups ps)).length < 1000 := by rw [refs_length]; simpa [ups] using hb
  have hc := List.eq_nil_or_concat ps
  simp only [List.concat_eq_append] at hc
  rcases hc with rfl | ⟨ps', u, rfl⟩
  · have he : (refs (ups [])).isEmpty = true := rfl
    refine enter (rb := [(Str.ofString "item", .ref x)]) M (by with_unfolding_all rfl) (by k_is) (BindsTo.of_eq rfl) (locs rfl) (by decide) ?_
    intro L h₁ tk hL F N
    with_reducible refine post_gen ?_
    intro Q₀ hQ₀
    (repeat' ((((fail_if_success (with_reducible show wpAny _ _ (exec (Stmt.While _ _ _ _) _) _ _ _)); (fail_if_success (with_reducible show wpAny _ _ (pyIter _) (fun it s₂ => LoopAtV _ _ _ _ _ _ _ _ _ it s₂) _ _)); (fail_if_success (with_reducible show wpAny _ _ (eval (Expr.ListComp _ _ _ _) _) _ _ _)); (fail_if_success (with_reducible show Exists _)))); first | (k_unfold; (try dsimp only)) | walk1 | (dsimp only; walk1) | fail "no step"))
    rename Fr _ _ _ _ => F₃
    refine hQ₀ _ _ ?_
    exact hR _ _ _ F₃.keep
  · have hcat : refs (ups (ps' ++ [u])) = refs (ups ps') ++ [.ref u.a] := by simp [refs, ups]
    have he : (refs (ups (ps' ++ [u]))).isEmpty = false := by rw [hcat]; simp
    have hlen' : (refs (ups ps')).length < 50000 := by rw [hcat] at hlen; simp at hlen; (walk_at "M om")
    refine enter (rb := [(Str.ofString "item", .ref x)]) M (by with_unfolding_all rfl) (by k_is) (BindsTo.of_eq rfl) (locs rfl) (by decide) ?_
    intro L h₁ tk hL F N
    with_reducible refine post_gen ?_
    intro Q₀ hQ₀
    (repeat' ((((fail_if_success (with_reducible show wpAny _ _ (exec (Stmt.While _ _ _ _) _) _ _ _)); (fail_if_success (with_reducible show wpAny _ _ (pyIter _) (fun it s₂ => LoopAtV _ _ _ _ _ _ _ _ _ it s₂) _ _)); (fail_if_success (with_reducible show wpAny _ _ (eval (Expr.ListComp _ _ _ _) _) _ _ _)); (fail_if_success (with_reducible show Exists _)))); first | (k_unfold; (try dsimp only)) | walk1 | (dsimp only; walk1) | fail "no step"))
    rename Fr _ _ _ _ => F₃
    refine hQ₀ _ _ ?_
    exact hR _ _ _ F₃.keep
theorem mem_ups {v : Value} {ps : List Up} (h : v ∈ refs (ups ps)) : ∃ u ∈ ps, v = .ref u.a := by
  simp only [refs, ups, List.mem_map] at h
  obtain ⟨a, ⟨u, hu, rfl⟩, rfl⟩ := h
  exact ⟨u, hu, rfl⟩
theorem paired_names {h : Heap} {v : Value} {all : List Up} (hl : Line h v all) : ∀ {ps : List Up} {ys : List Value}, Paired (fun v y => ∃ u ∈ all, v = .ref u.a ∧ ∃ t, y = Value.str u.nm t) (refs (ups ps)) ys → (∀ u ∈ ps, u ∈ all) → StrsAre ys (ps.map Up.nm)
  | [], ys, hP, _ => by cases hP; exact .nil
  | u :: r, ys, hP, hs => by
    cases hP with
    | cons h1 h2 =>
      obtain ⟨u', hu', e, t, rfl⟩ := h1
      have ea : u.a = u'.a := by injection e
      obtain ⟨_, _, _, _, I, _⟩ := hl.item u (hs u (.head _))
      obtain ⟨_, _, _, _, I', _⟩ := hl.item u' hu'
      rw [← ea] at I'
      have en := (I.inj I').1
      show StrsAre _ (u.nm :: r.map Up.nm)
      rw [en]
      exact .cons _ t (paired_names hl h2 fun u hu => hs u (.tail _ hu))
theorem names_code {x : Addr} {nm : Str} {par occ : Value} {kids : Addr} {shp : Value} {ps : List Up}
   (M : Amb w A base outer mean mg mb s.heap 8) (H : HOK A s.heap) (I : ItemAt s.heap x nm par occ kids shp) (hl : Line s.heap par ps) (hb : ps.length < 1000) (hf : ∀ u ∈ ps, u.nm ≠ (Str.ofString "FILLER"))
   (hR : ∀ l vs k h' tk, s.heap.StaysIn h' → s.heap.get? l = none → h'.get? l = some (listOf (List.toArray vs) k) → StrsAre vs (ps.map Up.nm) → R (.ok (.ret (.ref l))) { s with heap := h', toks := tk }) :
   codeAny (model PR w) A (.call (.ref 206) ⟨[.ref x], []⟩) R s := by
  have X := M.X
  have T := M.T
  have B := M.B
  have hlen : (refs (ups ps)).length < 1000 := by rw [refs_length]; simpa [ups] using hb
  refine enter (rb := [(Str.ofString "item", .ref x)]) M (by with_unfolding_all rfl) (by k_is) (BindsTo.of_eq rfl) (locs rfl) (by decide) ?_
  intro L h₁ tk hL F N
  with_reducible refine post_gen ?_
  intro Q₀ hQ₀
  (repeat' ((((fail_if_success (with_reducible show wpAny _ _ (exec (Stmt.While _ _ _ _) _) _ _ _)); (fail_if_success (with_reducible show wpAny _ _ (pyIter _) (fun it s₂ => LoopAtV _ _ _ _ _ _ _ _ _ it s₂) _ _)); (fail_if_success (with_reducible show wpAny _ _ (eval (Expr.ListComp _ _ _ _) _) _ _ _)); (fail_if_success (with_reducible show Exists _)))); first | (k_unfold; (try dsimp only)) | walk1 | (dsimp only; walk1) | fail "no step"))
  refine compM (L := L) (cl := []) (fun _ => true) (fun v y => ∃ u ∈ ps, v = .ref u.a ∧ ∃ t, y = Value.str u.nm t) (show HOK _ s.heap from H) (by with_unfolding_all rfl) (by decide) (by rfl) (by decide) (by rfl) (by intro _; with_unfolding_all rfl) ?_
  (repeat' ((((fail_if_success (with_reducible show wpAny _ _ (exec (Stmt.While _ _ _ _) _) _ _ _)); (fail_if_success (with_reducible show wpAny _ _ (pyIter _) (fun it s₂ => LoopAtV _ _ _ _ _ _ _ _ _ it s₂) _ _)); (fail_if_success (with_reducible show wpAny _ _ (eval (Expr.ListComp _ _ _ _) _) _ _ _)); (fail_if_success (with_reducible show Exists _)))); first | (k_unfold; (try dsimp only)) | walk1 | (dsimp only; walk1) | fail "no step"))
  rename Fr _ _ _ _ => F₁
  rename News _ _ _ _ => N₁
  refine ⟨_, _, _, _, rfl, Lst.isList ⟨_, N₁.get (.head _)⟩, by (walk_at "M om"), F₁, N₁, ?_, ?_, ?_⟩
  · intro C v s₃ m₃ E' hv hC hn hm hk F₃ N₃
    obtain ⟨u, hu, rfl⟩ := mem_ups hv
    obtain ⟨par', occ', kids', shp', ⟨ox, es, n0, t0, ⟨I1, I2, I3, I4, I5, I6⟩⟩, htb, hho⟩ := hl.item u hu
    have hnf : (!(u.nm == (Str.ofString "FILLER"))) = true := by simpa using hf u hu
    refine tests_one ?_
    (repeat' ((((fail_if_success (with_reducible show wpAny _ _ (exec (Stmt.While _ _ _ _) _) _ _ _)); (fail_if_success (with_reducible show wpAny _ _ (pyIter _) (fun it s₂ => LoopAtV _ _ _ _ _ _ _ _ _ it s₂) _ _)); (fail_if_success (with_reducible show wpAny _ _ (eval (Expr.ListComp _ _ _ _) _) _ _ _)); (fail_if_success (with_reducible show Exists _)))); first | (k_unfold; (try dsimp only)) | walk1 | (dsimp only; walk1) | fail "no step"))
    exact ⟨_, _, rfl, fun _ _ e => e⟩
  · intro C v s₃ m₃ E' hv hp hC hn hm hk F₃ N₃
    obtain ⟨u, hu, rfl⟩ := mem_ups hv
    obtain ⟨par', occ', kids', shp', ⟨ox, es, n0, t0, ⟨I1, I2, I3, I4, I5, I6⟩⟩, htb, hho⟩ := hl.item u hu
    (repeat' ((((fail_if_success (with_reducible show wpAny _ _ (exec (Stmt.While _ _ _ _) _) _ _ _)); (fail_if_success (with_reducible show wpAny _ _ (pyIter _) (fun it s₂ => LoopAtV _ _ _ _ _ _ _ _ _ it s₂) _ _)); (fail_if_success (with_reducible show wpAny _ _ (eval (Expr.ListComp _ _ _ _) _) _ _ _)); (fail_if_success (with_reducible show Exists _)))); first | (k_unfold; (try dsimp only)) | walk1 | (dsimp only; walk1) | fail "no step"))
    · exact ⟨u, hu, rfl, _, rfl⟩
    · exact ⟨_, _, rfl, fun _ _ e => e⟩
  · intro D k h' tk ys F₃ N₃ hD hP
    refine hQ₀ _ _ ?_
    refine hR D ys k h' tk F₃.keep (N₃.fresh (.head _)) (N₃.get (.head _)) ?_
    rw [List.filter_eq_self.mpr (fun _ _ => rfl)] at hP
    exact paired_names hl hP (fun _ h => h)
end
end T_C5
section T_C6
set_option maxHeartbeats 600000
set_option maxRecDepth 100000
local macro_rules | `(tactic| walk_at "call ref") => `(tactic| (k_here; apply wpAny_callA; apply around_code; walk_at "M amb"; walk_at "M kp"; walk_at "M kp"; assumption; walk_at "M back list"))
section
variable {w : World} {A : Around} {base : Heap} {outer : List Env} {mean : ExcName → Option Value} {mg mb : Str → Option Value} {s : Shared} {n : Nat} {R : Result → Shared → Prop}
noncomputable def tabAt (all : List Up) : Value → Bool
  | .ref a => (all.find? fun u => u.a == a).elim false Up.tab
  | _ => false
noncomputable def AllUp (h : Heap) (all : List Up) : Prop := ∀ u ∈ all, ∃ par occ kids shp, ItemAt h u.a u.nm par occ kids shp ∧ u.tab = (occ != .none) ∧ (occ = .none ∨ ∃ o, occ = .ref o)
theorem tabAt_is {h : Heap} {all : List Up} (ha : AllUp h all) {u : Up} (hu : u ∈ all) : tabAt all (.ref u.a) = u.tab := by
  w_top off
  cases e : all.find? fun u' => u'.a == u.a with
  | none => have := List.find?_eq_none.mp e u hu; simp at this
  | some u' =>
    have h1 := List.find?_some e
    have h2 := List.mem_of_find?_eq_some e
    simp only [tabAt, e, Option.elim]
    obtain ⟨_, _, _, _, I, t1, _⟩ := ha u hu
    obtain ⟨_, _, _, _, I', t2, _⟩ := ha u' h2
    have : u'.a = u.a := by simpa using h1
    rw [this] at I'
    obtain ⟨_, _, ho, _⟩ := I.inj I'
    rw [t1, t2, ho]
theorem filter_tab {h : Heap} {all : List Up} (ha : AllUp h all) : ∀ ps : List Up, (∀ u ∈ ps, u ∈ all) → ((refs (ups ps)).filter (tabAt all)).length = (ps.filter Up.tab).length
  | [], _ => rfl
  | u :: r, hs => by
    have e := tabAt_is ha (hs u (.head _))
    have ih := filter_tab ha r fun u hu => hs u (.tail _ hu)
    show (List.filter (tabAt all) (Value.ref u.a :: refs (ups r))).length = _
    rw [List.filter_cons, List.filter_cons, e]
    cases u.tab with
    | true => simp [ih]
    | false => simpa using ih
noncomputable def deepOf (ps : List Up) (b : Bool) : Nat := (ps.filter Up.tab).length + (if b then 1 else 0)
theorem tables_code {x : Addr} {nm : Str} {par occ : Value} {kids : Addr} {shp : Value} {ps : List Up}
   (M : Amb w A base outer mean mg mb s.heap 8) (H : HOK A s.heap) (I : ItemAt s.heap x nm par occ kids shp) (hho : (occ = .none ∨ ∃ o, occ = .ref o)) (hl : Line s.heap par ps) (hb : ps.length < 1000)
   (hR : ∀ l vs k h' tk, s.heap.StaysIn h' → s.heap.get? l = none → h'.get? l = some (listOf (List.toArray vs) k) → vs.length = deepOf ps (occ != .none) → R (.ok (.ret (.ref l))) { s with heap := h', toks := tk }) :
   codeAny (model PR w) A (.call (.ref 211) ⟨[.ref x], []⟩) R s := by
  have X := M.X
  have T := M.T
  have B := M.B
  have hlen : (refs (ups ps)).length < 1000 := by rw [refs_length]; simpa [ups] using hb
  have ha : AllUp s.heap (ps.reverse ++ [⟨x, nm, occ != .none⟩]) := by
    intro u hu
    rcases List.mem_append.mp hu with hu | hu
    · exact hl.item u (List.mem_reverse.mp hu)
    · rw [List.mem_singleton.mp hu]; exact ⟨_, _, _, _, I, rfl, hho⟩
  have hcat : (refs (ups ps)).reverse ++ [Value.ref x] = refs (ups (ps.reverse ++ [⟨x, nm, occ != .none⟩])) := by simp [refs, ups]
  have hdeep : ((refs (ups (ps.reverse ++ [⟨x, nm, occ != .none⟩]))).filter (tabAt (ps.reverse ++ [⟨x, nm, occ != .none⟩]))).length = deepOf ps (occ != .none) := by
    rw [filter_tab ha _ fun _ h => h, List.filter_append, List.length_append, List.filter_reverse, List.length_reverse]
    unfold deepOf
    cases occ != .none <;> rfl
  have hlen2 : (refs (ups (ps.reverse ++ [⟨x, nm, occ != .none⟩]))).length < 2000 := by rw [← hcat]; simp; (walk_at "M om")
  generalize ps.reverse ++ [⟨x, nm, occ != .none⟩] = all at ha hcat hdeep hlen2
  refine enter (rb := [(Str.ofString "item", .ref x)]) M (by with_unfolding_all rfl) (by k_is) (BindsTo.of_eq rfl) (locs rfl) (by decide) ?_
  intro L h₁ tk hL F N
  with_reducible refine post_gen ?_
  intro Q₀ hQ₀
  (repeat' ((((fail_if_success (with_reducible show wpAny _ _ (exec (Stmt.While _ _ _ _) _) _ _ _)); (fail_if_success (with_reducible show wpAny _ _ (pyIter _) (fun it s₂ => LoopAtV _ _ _ _ _ _ _ _ _ it s₂) _ _)); (fail_if_success (with_reducible show wpAny _ _ (eval (Expr.ListComp _ _ _ _) _) _ _ _)); (fail_if_success (with_reducible show Exists _)))); first | (k_unfold; (try dsimp only)) | walk1 | (dsimp only; walk1) | fail "no step"))
  rename Fr _ _ _ _ => F₁
  rename News _ _ _ _ => N₁
  rw [hcat] at N₁
  refine compM (L := L) (cl := []) (tabAt all) (fun v y => y = v) (show HOK _ s.heap from H) (by with_unfolding_all rfl) (by decide) (by rfl) (by decide) (by rfl) (by intro _; with_unfolding_all rfl) ?_
  (repeat' ((((fail_if_success (with_reducible show wpAny _ _ (exec (Stmt.While _ _ _ _) _) _ _ _)); (fail_if_success (with_reducible show wpAny _ _ (pyIter _) (fun it s₂ => LoopAtV _ _ _ _ _ _ _ _ _ it s₂) _ _)); (fail_if_success (with_reducible show wpAny _ _ (eval (Expr.ListComp _ _ _ _) _) _ _ _)); (fail_if_success (with_reducible show Exists _)))); first | (k_unfold; (try dsimp only)) | walk1 | (dsimp only; walk1) | fail "no step"))
  refine ⟨_, _, _, _, rfl, Lst.isList ⟨_, N₁.get (.head _)⟩, by (walk_at "M om"), F₁, N₁, ?_, ?_, ?_⟩
  · intro C v s₃ m₃ E' hv hC hn hm hk F₃ N₃
    obtain ⟨u, hu, rfl⟩ := mem_ups hv
    obtain ⟨par', occ', kids', shp', ⟨ox, es, n0, t0, ⟨I1, I2, I3, I4, I5, I6⟩⟩, htb, hho⟩ := ha u hu
    rw [tabAt_is ha hu, htb]
    refine tests_one ?_
    rcases hho with rfl | ⟨o, rfl⟩
    all_goals
      (repeat' ((((fail_if_success (with_reducible show wpAny _ _ (exec (Stmt.While _ _ _ _) _) _ _ _)); (fail_if_success (with_reducible show wpAny _ _ (pyIter _) (fun it s₂ => LoopAtV _ _ _ _ _ _ _ _ _ it s₂) _ _)); (fail_if_success (with_reducible show wpAny _ _ (eval (Expr.ListComp _ _ _ _) _) _ _ _)); (fail_if_success (with_reducible show Exists _)))); first | (k_unfold; (try dsimp only)) | walk1 | (dsimp only; walk1) | fail "no step"))
      exact ⟨_, _, rfl, fun _ _ e => e⟩
  · intro C v s₃ m₃ E' hv hp hC hn hm hk F₃ N₃
    (repeat' ((((fail_if_success (with_reducible show wpAny _ _ (exec (Stmt.While _ _ _ _) _) _ _ _)); (fail_if_success (with_reducible show wpAny _ _ (pyIter _) (fun it s₂ => LoopAtV _ _ _ _ _ _ _ _ _ it s₂) _ _)); (fail_if_success (with_reducible show wpAny _ _ (eval (Expr.ListComp _ _ _ _) _) _ _ _)); (fail_if_success (with_reducible show Exists _)))); first | (k_unfold; (try dsimp only)) | walk1 | (dsimp only; walk1) | fail "no step"))
    exact ⟨_, _, rfl, fun _ _ e => e⟩
  · intro D k h' tk ys F₃ N₃ hD hP
    refine hQ₀ _ _ ?_
    refine hR D ys k h' tk F₃.keep (N₃.fresh (.head _)) (N₃.get (.head _)) ?_
    rw [← hdeep, hP.length]
end
end T_C6
section T_C7
set_option maxHeartbeats 600000
set_option maxRecDepth 100000
local macro_rules | `(tactic| walk_at "M d") => `(tactic| skip)
local macro_rules | `(tactic| walk_at "call ref") => `(tactic| (k_here; apply wpAny_callA; apply root_code; (first | exact Amb.down (Amb.innC (by assumption) (by assumption) rfl rfl) (by decide) | walk_at "M amb"); walk_at "M kp"; walk_at "M kp"; assumption; intro rr h' tk' st'; (with_reducible rename Fr _ _ _ _ => mF); (with_reducible rename News _ _ _ _ => mN); (have F' := Fr.keeps mF st'); (have N' := News.grown mN st'); clear st'; (try k_sweep); (try dsimp only)))
section
variable {w : World} {A : Around} {base : Heap} {outer : List Env} {mean : ExcName → Option Value} {mg mb : Str → Option Value} {s : Shared} {n : Nat} {R : Result → Shared → Prop}
theorem file_code {data root xd : Addr} {x : Addr} {nm : Str} {par occ : Value} {kids : Addr} {shp : Value} {ps : List Up}
   (M : Amb w A base outer mean mg mb s.heap 10) (H : HOK A s.heap) (D : DataAt s.heap data root xd) (I : ItemAt s.heap x nm par occ kids shp) (hl : Line s.heap par ps) (hb : ps.length < 1000)
   (hR : ∀ h' tk t, s.heap.StaysIn h' → R (.ok (.ret (.str (Str.ofString "") t))) { s with heap := h', toks := tk }) :
   codeAny (model PR w) A (.call (.ref 216) ⟨[.ref data, .ref x], []⟩) R s := by
  w_top off
  have X := M.X
  have T := M.T
  have B := M.B
  obtain ⟨fd, wl, ll, ox, es, n0, ⟨D1, D2, D3, D4, D5, ⟨kd, D6⟩, D7, D8, D9⟩⟩ := D
  refine enterC (binds := [(Str.ofString "data", .ref data), (Str.ofString "item", .ref x)]) M (by with_unfolding_all rfl) (by k_is) (BindsTo.of_eq rfl) (by exact rfl) (by decide +kernel) rfl rfl rfl ?_
  intro L h₁ tk cells' hL F N' Y'
  k_cells Y'
  with_reducible refine post_gen ?_
  intro Q₀ hQ₀
  (repeat' ((((fail_if_success (with_reducible show wpAny _ _ (exec (Stmt.While _ _ _ _) _) _ _ _)); (fail_if_success (with_reducible show wpAny _ _ (pyIter _) (fun it s₂ => LoopAtV _ _ _ _ _ _ _ _ _ it s₂) _ _)); (fail_if_success (with_reducible show wpAny _ _ (eval (Expr.ListComp _ _ _ _) _) _ _ _)); (fail_if_success (with_reducible show Exists _)))); first | (k_unfold; (try dsimp only)) | walk1 | (dsimp only; walk1) | fail "no step"))
  rename Fr _ _ _ _ => F₁
  rename News _ _ _ _ => N₁
  refine iterH_dict0 H D6 D7 F₁ N₁ fun h₂ tk₂ F₂ N₂ => ?_
  clear F₁ N₁
  (repeat' ((((fail_if_success (with_reducible show wpAny _ _ (exec (Stmt.While _ _ _ _) _) _ _ _)); (fail_if_success (with_reducible show wpAny _ _ (pyIter _) (fun it s₂ => LoopAtV _ _ _ _ _ _ _ _ _ it s₂) _ _)); (fail_if_success (with_reducible show wpAny _ _ (eval (Expr.ListComp _ _ _ _) _) _ _ _)); (fail_if_success (with_reducible show Exists _)))); first | (k_unfold; (try dsimp only)) | walk1 | (dsimp only; walk1) | fail "no step"))
  refine hQ₀ _ _ ?_
  exact hR _ _ _ F₂.keep
end
end T_C7
section T_E2
set_option maxHeartbeats 600000
set_option maxRecDepth 100000
section
variable {prog : Program} {w : World} {A : Around} {E : Value → Shared → Prop} {s : Shared} {K : Frag} {C D : Addr}
theorem exc_init_check {M : Model} {hh : Heap} {g : Array GenState} {d : Drawn} {t : Nat} {os : OsState} {nm q : Str} {N : Addr} {bs : List Value} {hdct : Bool} {sn : List Str} {sub : List Value} {ab : Bool} {col : Option Bool} {dd : Option Addr} {k0 k1 k2 k3 k5 : Option Value}
    {e : Addr} {oe : Obj} {rest : List Value} {Q : Unit → Shared → Prop} (hC : hh.get? C = some (excClassObj nm q C N bs (excMro C D).tail hdct sn sub ab col dd k0 k1 k2 k3 k5 "Exception.__new__")) (he : hh.get? e = some oe) (hcls : oe.cls = .ref C) (hq : Q () ⟨hh, g, d, t, os⟩) :
    wpAny M A (checkBuiltinCall "Exception.__init__" ⟨.ref e :: rest, []⟩) Q E ⟨hh, g, d, t, os⟩ := by
  w_top off
  have F := PySem.F.excBase_Exception
  have hcB : (Value.ref C :: (excMro C D).tail).contains (.type "Exception") = true := only_exc (by decide +kernel)
  have hshort := F.noStar
  simp only [checkBuiltinCall, F.initKind, F.initSplit, F.initRow]
  repeat (first | (with_reducible refine wpAny_loadPart_at he ?_; rw [hcls]) | with_reducible refine wpAny_loadPart_at hC ?_ | (with_reducible refine wpAny_isSubtype_exc hC ?_; rw [hcB]) | wp_step)
  refine wpAny_onRaise ?_
  rw [show ∀ (a b : String) (n : Nat), Bind.check ⟨.positional, "*", "Exception", .self, [⟨"args", .varPos, false⟩]⟩ a b n (List.map (fun x => x.fst) ({ pos := Value.ref e :: rest } : Args).kw) = pure () from
    fun a b n => check_star_args _ _ _ _ _ _]
  exact wpAny_pure hq
theorem exc_init_call {h₀ : Heap} {L e : Addr} {m : Str → Option Value} {t0 : Addr} {a : Value} {nm q : Str} {N' : Addr} {bs : List Value} {hdct : Bool} {sn : List Str} {sub : List Value} {ab : Bool} {col : Option Bool} {dd : Option Addr} {k0 k1 k2 k3 k5 : Option Value} {Q : Value → Shared → Prop} (F : Fr h₀ L s.heap m) (N : News h₀ L s.heap [(e, { cls := .ref C, data := .fields #[.ref t0, .none, .none, .none, .bool false, .none] })])
    (hC : s.heap.get? C = some (excClassObj nm q C N' bs (excMro C D).tail hdct sn sub ab col dd k0 k1 k2 k3 k5 "Exception.__new__"))
    (h : ∀ h' t1, Fr h₀ L h' m → News h₀ L h' [(e, { cls := .ref C, data := .fields #[.ref t1, .none, .none, .none, .bool false, .none] })] → Q .none { s with heap := h' }) :
    wpAny (model prog w) A (call (.builtin "Exception.__init__") [.ref e, a]) Q E s := by
  obtain ⟨hh, g, d, t, os⟩ := s
  have Fn := PySem.F.excBase_Exception
  refine wpAny_callA (codeAny_call_builtin Fn.init.plain Fn.initEntry (exc_init_check hC (N _ (.head _)).1 rfl ?_))
  show wpAny _ _ (newTuple [a] >>= _) _ _ _
  refine wpAny_bind (newTuple_N F N (fun h' F' N' => ?_))
  have hne : hh.objs.size ≠ e := Nat.ne_of_gt (Heap.lt_size (N _ (.head _)).1)
  obtain ⟨U1, U2⟩ := news_upd (f := Obj.mapFields (·.setIfInBounds 0 (.ref hh.objs.size))) (pre := [(hh.objs.size, { cls := .type "tuple", data := .seq [a].toArray })]) (post := []) (o' := { cls := .ref C, data := .fields #[.ref hh.objs.size, .none, .none, .none, .bool false, .none] }) F' N' (by simpa using hne) (by simp) (by rfl) rfl
  have he1 := (N' _ (mem1)).1
  unfold Builtin.BaseException.bexcPut
  refine wpAny_bind (wpAny_bind (wpAny_field he1 rfl (x := .ref t0) rfl ?_))
  refine wpAny_bind (wpAny_setField he1 rfl (by show 0 < 6; decide) ?_)
  refine wpAny_letGo ?_
  exact wpAny_pure (h _ _ U1 (news_tl U2))
end
section
variable {w : World} {A : Around} {base : Heap} {outer : List Env} {mean : ExcName → Option Value} {mg mb : Str → Option Value} {s : Shared} {n : Nat} {R : Result → Shared → Prop}
theorem init_code {h₀ : Heap} {e t0 : Addr} {what : Str} {tw : Tok}
   (M : Amb w A base outer mean mg mb s.heap 2) (X₀ : (hd.heap_39 w.params).In h₀) (T₀ : Top hd.view_39 lso mean mg mb h₀) (k₀ : h₀.StaysIn s.heap) (n₀ : h₀.get? e = none)
   (he : s.heap.get? e = some { cls := .ref 60, data := .fields #[.ref t0, .none, .none, .none, .bool false, .none] })
   (hR : ∀ h' tk dx t1 es k tt, (∀ b o, b ≠ e → s.heap.get? b = some o → h'.get? b = some o) → h'.get? e = some { cls := .ref 60, dict := some dx, data := .fields #[.ref t1, .none, .none, .none, .bool false, .none] } →
     s.heap.get? dx = none → h'.get? dx = some (dictOf es k) → getL (Str.ofString "what") es = some (some (.str what tt)) → R (.ok (.ret .none)) { s with heap := h', toks := tk }) :
   codeAny (model PR w) A (.call (.ref 37) ⟨[.ref e, .str what tw], []⟩) R s := by
  refine enter (rb := [((Str.ofString "at"), _), ((Str.ofString "what"), .str what tw), ((Str.ofString "self"), .ref e)]) M (by with_unfolding_all rfl) (by k_is) (BindsTo.of_defaults rfl (M.X _ _ (by with_unfolding_all rfl)) rfl rfl (by with_unfolding_all rfl)) (locs rfl) (by decide) ?_
  intro L h₁ tk hL F N
  with_reducible refine post_gen ?_
  intro Q₀ hQ₀
  have B := M.B
  have nc : ∀ a ∈ [e], h₀.get? a = none := by simpa using n₀
  have X := X₀.keeps (stays_cut k₀ nc)
  have T := T₀.keeps (stays_cut k₀ nc)
  have N₁ : News (cut s.heap [e]) L h₁ [(e, { cls := .ref 60, data := .fields #[.ref t0, .none, .none, .none, .bool false, .none] })] := News.ofCut F (by simpa using he)
  have F₁ := Fr.cut F [e]
  clear F N
  (repeat' ((((fail_if_success (with_reducible show wpAny _ _ (exec (Stmt.While _ _ _ _) _) _ _ _)); (fail_if_success (with_reducible show wpAny _ _ (pyIter _) (fun it s₂ => LoopAtV _ _ _ _ _ _ _ _ _ it s₂) _ _)); (fail_if_success (with_reducible show wpAny _ _ (eval (Expr.ListComp _ _ _ _) _) _ _ _)); (fail_if_success (with_reducible show Exists _)))); first | (k_unfold; (try dsimp only)) | walk1 | (dsimp only; walk1) | fail "no step"))
  refine' method_type (v := .builtin "Exception.__init__") F₁ X (by kernel_rfl) (by decide +kernel) (by k_is) rfl ?_
  (repeat' ((((fail_if_success (with_reducible show wpAny _ _ (exec (Stmt.While _ _ _ _) _) _ _ _)); (fail_if_success (with_reducible show wpAny _ _ (pyIter _) (fun it s₂ => LoopAtV _ _ _ _ _ _ _ _ _ it s₂) _ _)); (fail_if_success (with_reducible show wpAny _ _ (eval (Expr.ListComp _ _ _ _) _) _ _ _)); (fail_if_success (with_reducible show Exists _)))); first | (k_unfold; (try dsimp only)) | walk1 | (dsimp only; walk1) | fail "no step"))
  refine exc_init_call F₁ N₁ (X.keeps F₁.keep _ _ (by with_unfolding_all rfl)) fun h₂ t1 F₂ N₂ => ?_
  clear F₁ N₁
  (repeat' ((((fail_if_success (with_reducible show wpAny _ _ (exec (Stmt.While _ _ _ _) _) _ _ _)); (fail_if_success (with_reducible show wpAny _ _ (pyIter _) (fun it s₂ => LoopAtV _ _ _ _ _ _ _ _ _ it s₂) _ _)); (fail_if_success (with_reducible show wpAny _ _ (eval (Expr.ListComp _ _ _ _) _) _ _ _)); (fail_if_success (with_reducible show Exists _)))); first | (k_unfold; (try dsimp only)) | walk1 | (dsimp only; walk1) | fail "no step"))
  rename_i a1
  have I₂ : InstAt _ e _ 60 none := ⟨(N₂ _ (.head _)).1, rfl, rfl, trivial⟩
  refine setE_new (pre := []) (post := []) F₂ N₂ (X.keeps F₂.keep) I₂ rfl (by k_is) rfl rfl (by k_is) rfl (by simp) (by simp) fun dx h₃ F₃ N₃ d3 => ?_
  clear F₂ N₂
  dsimp only [List.nil_append] at N₃ d3
  (repeat' ((((fail_if_success (with_reducible show wpAny _ _ (exec (Stmt.While _ _ _ _) _) _ _ _)); (fail_if_success (with_reducible show wpAny _ _ (pyIter _) (fun it s₂ => LoopAtV _ _ _ _ _ _ _ _ _ it s₂) _ _)); (fail_if_success (with_reducible show wpAny _ _ (eval (Expr.ListComp _ _ _ _) _) _ _ _)); (fail_if_success (with_reducible show Exists _)))); first | (k_unfold; (try dsimp only)) | walk1 | (dsimp only; walk1) | fail "no step"))
  have I₃ : InstAt h₃ e _ 60 (some (dictOf _ 1)) := ⟨(N₃ _ (mem1)).1, rfl, rfl, (N₃ _ (.head _)).1⟩
  have ed : e ≠ dx := d3 _ (.head _)
  refine setE_more (pre := []) F₃ N₃ (X.keeps F₃.keep) I₃ rfl (by k_is) rfl rfl (by k_is) rfl (by with_unfolding_all rfl) (by simp) (by simpa using ed) rfl (Nat.le_of_ble_eq_true rfl) fun h₄ F₄ N₄ => ?_
  clear F₃ N₃
  dsimp only [List.nil_append] at N₄
  (repeat' ((((fail_if_success (with_reducible show wpAny _ _ (exec (Stmt.While _ _ _ _) _) _ _ _)); (fail_if_success (with_reducible show wpAny _ _ (pyIter _) (fun it s₂ => LoopAtV _ _ _ _ _ _ _ _ _ it s₂) _ _)); (fail_if_success (with_reducible show wpAny _ _ (eval (Expr.ListComp _ _ _ _) _) _ _ _)); (fail_if_success (with_reducible show Exists _)))); first | (k_unfold; (try dsimp only)) | walk1 | (dsimp only; walk1) | fail "no step"))
  refine hQ₀ _ _ ?_
  refine hR _ _ dx t1 _ _ _ (fun b o hb e => F₄.keep b o ((cut_of (by simpa using hb)).trans e)) (N₄ _ (mem1)).1 ?_ (N₄ _ (.head _)).1 rfl
  rw [← cut_of (h := s.heap) (S := [e]) (by simpa using ed.symm)]
  exact (N₄ _ (.head _)).2.2
end
end T_E2
section T_E4
open PySem PySem.W PyProof.Rows PySem.Calls PySem.Spec
set_option maxHeartbeats 600000
section
variable {M : Model} {A : Around} {E : Value → Shared → Prop} {s : Shared} {env : Env}
variable {nm q : Str} {C D N : Addr} {bs : List Value} {hdct : Bool} {sn : List Str} {sub : List Value} {ab : Bool} {col : Option Bool} {dd : Option Addr} {k0 k1 k2 k3 k5 : Option Value} {newId : String}
theorem raiseE {prog : Program} {w : World} {x : Sem Value} {Q : Flow → Shared → Prop}
    (h : wpAny (model prog w) A x (fun v s₁ => ∃ e oe vs, v = .ref e ∧ s₁.heap.get? C = some (excClassObj nm q C N bs (excMro C D).tail hdct sn sub ab col dd k0 k1 k2 k3 k5 newId) ∧
      s₁.heap.get? e = some oe ∧ oe.cls = .ref C ∧ oe.data = .fields vs ∧ vs[1]? = some .none ∧ wpAny (model prog w) A (raiseNew (.ref e) : Sem Flow) Q E s₁) E s) :
    wpAny (model prog w) A (raiseStmt env (some x) none) Q E s := by
  have hcB : (Value.ref C :: (excMro C D).tail).contains (.type "BaseException") = true := only_exc (by decide +kernel)
  unfold raiseStmt
  refine wpAny_bind (wpAny_mono h (fun v s₁ h₁ => ?_) fun _ _ x => x)
  obtain ⟨e, oe, vs, rfl, hC, he, hcl, hd, h1, hE⟩ := h₁
  obtain ⟨hp, g, d, tk, os⟩ := s₁
  obtain ⟨oc, od, odt, osl⟩ := oe
  dsimp only at hcl hd
  subst hcl hd
  repeat (first | with_reducible refine wpAny_loadPart_at he ?_ | with_reducible refine wpAny_loadPart_at hC ?_ | (with_reducible refine wpAny_isSubtype_exc hC ?_; rw [hcB]) | wp_step)
  rw [h1]
  refine wpAny_pure ?_
  rw [if_neg (by decide)]
  exact wpAny_pure hE

theorem raise_ev {prog : Program} {w : World} {c : Expr} {pos : Pos} {Q : Flow → Shared → Prop}
    (h : wpAny (model prog w) A (eval c env) (fun v s₁ => ∃ e oe vs, v = .ref e ∧ s₁.heap.get? C = some (excClassObj nm q C N bs (excMro C D).tail hdct sn sub ab col dd k0 k1 k2 k3 k5 newId) ∧
      s₁.heap.get? e = some oe ∧ oe.cls = .ref C ∧ oe.data = .fields vs ∧ vs[1]? = some .none ∧ wpAny (model prog w) A (raiseNew (.ref e) : Sem Flow) Q E s₁) E s) :
    wpAny (model prog w) A (exec (.Raise (some c) none pos) env) Q E s := by
  rw [arm_exec_Raise]
  exact wpAny_bind (wpAny_standAt (raiseE (wpAny_bind (wpAny_mono h (fun v s h => wpAny_bind (wpAny_standAt (wpAny_pure h))) fun _ _ x => x))))
end
section
variable {w : World} {A : Around} {base : Heap} {outer : List Env} {mean : ExcName → Option Value} {mg mb : Str → Option Value} {s : Shared} {n : Nat} {R : Result → Shared → Prop}
theorem Amb.underT {h : Heap} {C : Addr} {rest : List Value} (M : Amb w A base outer mean mg mb h (n + 1)) : Amb w (A.under (.builtin "type.__call__" ⟨.ref C :: rest, []⟩)) base outer mean mg mb h n :=
  ⟨M.X, M.T, ⟨M.B.stack, M.B.stays, M.B.frames⟩, by have := M.depth; show A.depth + 1 + n < _; omega, by have := M.units; show A.units + 1 + 8 * n < _; omega⟩
theorem Amb.keeps {h h' : Heap} (M : Amb w A base outer mean mg mb h n) (k : h.StaysIn h') : Amb w A base outer mean mg mb h' n :=
  ⟨M.X.keeps k, M.T.keeps k, ⟨M.B.stack, fun b o e => k b o (M.B.stays b o e), M.B.frames.of_keeps fun b o e _ => ⟨o, k b o e, rfl⟩⟩, M.depth, M.units⟩

theorem raise_fault {E : Value → Shared → Prop} {env : Env} {c : Expr} {pos : Pos} {Q : Flow → Shared → Prop}
    (h : wpAny (model PR w) A (eval c env) (fun v s₁ => ∃ e oe vs, v = .ref e ∧ (hd.heap_39 w.params).In s₁.heap ∧
      s₁.heap.get? e = some oe ∧ oe.cls = .ref 60 ∧ oe.data = .fields vs ∧ vs[1]? = some .none ∧ wpAny (model PR w) A (raiseNew (.ref e) : Sem Flow) Q E s₁) E s) :
    wpAny (model PR w) A (exec (.Raise (some c) none pos) env) Q E s :=
  raise_ev (wpAny_mono h (fun v s₁ ⟨e, oe, vs, h1, X, h2⟩ => ⟨e, oe, vs, h1, X _ _ (by with_unfolding_all rfl), h2⟩) fun _ _ x => x)

theorem raise_leave {env : Env} {b : Heap} {L e dx t1 : Addr} {m : Str → Option Value} {es : List DictEntry} {k : Nat} {what : Str} {tt : Tok} {α : Type} {Q : α → Shared → Prop}
    (B : Below A base outer b) (H : HOK A b) (F : Fr b L s.heap m) (hf : env.frame = some L) (hk : env.scope.kind = .function)
    (he : s.heap.get? e = some { cls := .ref 60, dict := some dx, data := .fields #[.ref t1, .none, .none, .none, .bool false, .none] }) (hd : s.heap.get? dx = some (dictOf es k)) (hw : getL (Str.ofString "what") es = some (some (.str what tt)))
    (be : b.get? e = none) (bd : b.get? dx = none) (dL : dx ≠ L)
    (hR : ∀ h', UpTo (fsOf outer) b h' → h'.FunFrames base outer → Fly A.handled b h' (fsOf outer) e what (some .none) → R (.error (.ref e)) { s with heap := h' }) :
    wpAny (model PR w) (A.deeper env) (raiseNew (.ref e) : Sem α) Q (fun e' s' => wpAny (model PR w) (A.deeper env) (leaving env e') (fun _ s'' => R (.error e') s'') (fun e'' s'' => R (.error e'') s'') s') s := by
  have hL : base.get? L = none := by
    cases hq : base.get? L with
    | none => rfl
    | some o => exact absurd (Nat.lt_of_lt_of_le (Heap.lt_size (B.stays L o hq)) F.above) (Nat.lt_irrefl _)
  have bL : b.get? L = none := by
    cases hq : b.get? L with
    | none => rfl
    | some o => exact absurd (Nat.lt_of_lt_of_le (Heap.lt_size hq) F.above) (Nat.lt_irrefl _)
  have ff : s.heap.FunFrames base (env :: outer) := .cons (by rw [hk]; decide) hf F.ns hL (B.frames.of_keeps fun b o e _ => ⟨o, F.keep b o e, rfl⟩)
  have dn : dx ∉ fsOf (env :: outer) := by
    rw [show fsOf (env :: outer) = L :: fsOf outer from by simp [fsOf, hf]]
    intro hm
    rcases List.mem_cons.mp hm with q | q
    · exact dL q
    · obtain ⟨_, o, ho, _⟩ := B.frames.mem q
      rw [bd] at ho; cases ho
  refine wpAny_raiseNewH (A := A.deeper env) (g := b) H F.keep be he rfl (by show 2 < 6; decide) fun h' hs hc _ => ?_
  have ne : ∀ a o, s.heap.get? a = some o → (∀ vs, o.data ≠ .fields vs) → a ≠ e := fun a o ha hnf q => by
    rw [q, he] at ha; injection ha with ha; subst ha; exact hnf _ rfl
  have hdx := (hs dx (ne dx _ hd (by intro vs z; cases z))).trans hd
  have U : UpTo (fsOf outer) b h' := .of_stays fun a o ha => (hs a fun z => by rw [z, be] at ha; cases ha).trans (F.keep a o ha)
  have Y : Fly A.handled b h' (fsOf (env :: outer)) e what none := by
    rcases hc with hc | ⟨c, hA, hc⟩
    · exact ⟨_, _, dx, es, k, tt, .none, .none, hc, rfl, rfl, rfl, rfl, rfl, hdx, hw, dn, be, bd, .inl rfl, rfl⟩
    · obtain ⟨e', rfl, ch⟩ := H c hA
      exact ⟨_, _, dx, es, k, tt, .none, .ref e', hc, rfl, rfl, rfl, rfl, rfl, hdx, hw, dn, be, bd, .inr hA, rfl⟩
  refine leave_made (g := base) (b := b) (S := fsOf outer) (Around.frames_deeper B.stack) (ff.of_keeps fun a o ha hnf => ⟨o, (hs a (ne a o ha hnf)).trans ha, rfl⟩) hf (fun a ha => ?_) U Y fun h'' U'' l'' Y'' => hR h'' U'' l'' Y''
  rw [show fsOf (env :: outer) = L :: fsOf outer from by simp [fsOf, hf]] at ha
  rcases List.mem_cons.mp ha with q | q
  · exact .inr (q ▸ bL)
  · exact .inl q

/-- a fault that came out of a call leaves this frame too -/
theorem leave_through {M : Model} {env : Env} {b h : Heap} {L e : Addr} {m : Str → Option Value} {what : Str} {hnd : Option Value} {Q : Unit → Shared → Prop} {E : Value → Shared → Prop}
    (B : Below A base outer b) (F : Fr b L h m) (hf : env.frame = some L)
    (U : UpTo (fsOf (env :: outer)) h s.heap) (l : s.heap.FunFrames base (env :: outer)) (Y : Fly hnd h s.heap (fsOf (env :: outer)) e what (some .none))
    (hR : ∀ h', UpTo (fsOf outer) b h' → h'.FunFrames base outer → Fly hnd b h' (fsOf outer) e what (some .none) → Q () { s with heap := h' }) :
    wpAny M (A.deeper env) (leaving env (.ref e)) Q E s := by
  have hfs : fsOf (env :: outer) = L :: fsOf outer := by simp [fsOf, hf]
  have bL : b.get? L = none := by
    cases hq : b.get? L with
    | none => rfl
    | some o => exact absurd (Nat.lt_of_lt_of_le (Heap.lt_size hq) F.above) (Nat.lt_irrefl _)
  have hS : ∀ a ∈ fsOf (env :: outer), a ∈ fsOf outer ∨ b.get? a = none := by
    intro a ha
    rw [hfs] at ha
    rcases List.mem_cons.mp ha with q | q
    · exact .inr (q ▸ bL)
    · exact .inl q
  have U' := ((UpTo.of_stays (S := fsOf (env :: outer)) F.keep).trans U).mono hS
  refine leave_on (g := base) (b := b) (S := fsOf outer) (Around.frames_deeper B.stack) l hf hS U' (Y.base fun a q => ?_) hR
  cases z : b.get? a with
  | none => rfl
  | some o => have := F.keep _ _ z; rw [q] at this; cases this
end
end T_E4
section T_E5
set_option maxHeartbeats 600000
set_option maxRecDepth 100000
section
variable {prog : Program} {w : World} {A : Around} {E : Value → Shared → Prop} {s : Shared} {Q : Value → Shared → Prop}
theorem item_firstM {value slice : PySem.Expr} {l : Addr} {vs : List Value} {x : Value} {u : Tok} (hl : Lst s.heap l (x :: vs)) (h : Q x s)
    (hs : subscripted slice false (.ref l) (.int 0 u) = operate [.ref l, .int 0 u] (getItem (.ref l) (.int 0 u))) :
    wpAny (model prog w) A (subscriptTail value slice (.ref l) (.int 0 u)) Q E s :=
  tail_any hl.isList.typeIs slot_list_getitem.lookup (wpAny_getItem_list (k := 0) hl.isList (by decide) (by decide) (by simp) h) hs
end
section
variable {w : World} {A : Around} {base : Heap} {outer : List Env} {mean : ExcName → Option Value} {mg mb : Str → Option Value} {s : Shared} {n : Nat} {R : Result → Shared → Prop}
theorem make_fault {E : Value → Shared → Prop} {Q : Value → Shared → Prop} {what : Str} {tw : Tok} (M : Amb w A base outer mean mg mb s.heap 3)
   (h : ∀ h' tk e dx t1 es k tt, s.heap.StaysIn h' → s.heap.get? e = none → s.heap.get? dx = none → h'.get? e = some { cls := .ref 60, dict := some dx, data := .fields #[.ref t1, .none, .none, .none, .bool false, .none] } →
     h'.get? dx = some (dictOf es k) → getL (Str.ofString "what") es = some (some (.str what tt)) → Q (.ref e) { s with heap := h', toks := tk }) :
   wpAny (model PR w) A (call (.ref 60) [.str what tw]) Q E s := by
  w_top off
  obtain ⟨hh, g, d, t, os⟩ := s
  have M' := M
  obtain ⟨X, T, B, _, _⟩ := M'
  dsimp only at X T B
  refine call_excI (D := 47) X (by k_is) (by k_is) (X _ _ (by with_unfolding_all rfl)) fun h' e hm => ?_
  obtain ⟨tt, he, _, _⟩ := hm.there
  refine init_code (s := ⟨h', g, d, t, os⟩) (h₀ := hh) (Amb.underT (Amb.keeps M hm.keeps)) X T hm.keeps hm.new he fun h'' tk dx t1 es k tt k1 k2 k3 k4 k5 => ⟨rfl, ?_⟩
  refine h h'' tk e dx t1 es k tt (fun b o q => k1 b o (fun z => by rw [z, hm.new] at q; cases q) (hm.keeps b o q)) hm.new ?_ k2 k4 k5
  show hh.get? dx = none
  cases q : hh.get? dx with
  | none => rfl
  | some o => have := hm.keeps dx o q; rw [k3] at this; cases this
theorem only_code {l : Addr} {vs : List Value} {nm : Str} {tn : Tok}
   (M : Amb w A base outer mean mg mb s.heap 8) (H : HOK A s.heap) (hl : Lst s.heap l vs) (hb : vs.length < 1000) (hn : nm.length ≤ 100)
   (hOk : ∀ v h' tk, vs = [v] → s.heap.StaysIn h' → R (.ok (.ret v)) { s with heap := h', toks := tk })
   (hEx : ∀ e what h' tk, vs.length ≠ 1 → UpTo (fsOf outer) s.heap h' → h'.FunFrames base outer → Fly A.handled s.heap h' (fsOf outer) e what (some .none) → R (.error (.ref e)) { s with heap := h', toks := tk }) :
   codeAny (model PR w) A (.call (.ref 230) ⟨[.ref l, .str nm tn], []⟩) R s := by
  have X := M.X
  have T := M.T
  have B := M.B
  refine enter (rb := [(Str.ofString "name", .str nm tn), (Str.ofString "found", .ref l)]) M (by with_unfolding_all rfl) (by k_is) (BindsTo.of_eq rfl) (locs rfl) (by decide) ?_
  intro L h₁ tk hL F N
  (repeat' ((((fail_if_success (with_reducible show wpAny _ _ (exec (Stmt.While _ _ _ _) _) _ _ _)); (fail_if_success (with_reducible show wpAny _ _ (pyIter _) (fun it s₂ => LoopAtV _ _ _ _ _ _ _ _ _ it s₂) _ _)); (fail_if_success (with_reducible show wpAny _ _ (eval (Expr.ListComp _ _ _ _) _) _ _ _)); (fail_if_success (with_reducible show Exists _)))); first | (k_unfold; (try dsimp only)) | walk1 | (dsimp only; walk1) | fail "no step"))
  · rename_i hlen
    refine raise_fault ?_
    (repeat' ((((fail_if_success (with_reducible show wpAny _ _ (exec (Stmt.While _ _ _ _) _) _ _ _)); (fail_if_success (with_reducible show wpAny _ _ (pyIter _) (fun it s₂ => LoopAtV _ _ _ _ _ _ _ _ _ it s₂) _ _)); (fail_if_success (with_reducible show wpAny _ _ (eval (Expr.ListComp _ _ _ _) _) _ _ _)); (fail_if_success (with_reducible show Exists _)))); first | (k_unfold; (try dsimp only)) | walk1 | (dsimp only; walk1) | fail "no step"))
    rename Fr _ _ _ _ => F₁
    rename News _ _ _ _ => N₁
    refine make_fault (Amb.down (Amb.inn M F₁) (by decide)) fun h' tk' e dx t1 es k tt k1 k2 k3 k4 k5 k6 => ⟨e, _, _, rfl, X.keeps fun b o q => k1 b o (F₁.keep b o q), k4, rfl, rfl, rfl, ?_⟩
    have F₂ := Fr.keeps F₁ k1
    refine raise_leave B H F₂ rfl rfl k4 k5 k6 ?_ ?_ ?_ fun h'' U l Y => hEx _ _ _ _ (by (walk_at "M om")) U l Y
    · cases q : s.heap.get? e with
      | none => rfl
      | some o => have := F₁.keep _ _ q; rw [k2] at this; cases this
    · cases q : s.heap.get? dx with
      | none => rfl
      | some o => have := F₁.keep _ _ q; rw [k3] at this; cases this
    · rintro rfl
      obtain ⟨o, _, _, q, _⟩ := F₁.ns
      rw [k3] at q; cases q
  · rename_i hlen
    refine raise_fault ?_
    (repeat' ((((fail_if_success (with_reducible show wpAny _ _ (exec (Stmt.While _ _ _ _) _) _ _ _)); (fail_if_success (with_reducible show wpAny _ _ (pyIter _) (fun it s₂ => LoopAtV _ _ _ _ _ _ _ _ _ it s₂) _ _)); (fail_if_success (with_reducible show wpAny _ _ (eval (Expr.ListComp _ _ _ _) _) _ _ _)); (fail_if_success (with_reducible show Exists _)))); first | (k_unfold; (try dsimp only)) | walk1 | (dsimp only; walk1) | fail "no step"))
    rename Fr _ _ _ _ => F₁
    rename News _ _ _ _ => N₁
    refine make_fault (Amb.down (Amb.inn M F₁) (by decide)) fun h' tk' e dx t1 es k tt k1 k2 k3 k4 k5 k6 => ⟨e, _, _, rfl, X.keeps fun b o q => k1 b o (F₁.keep b o q), k4, rfl, rfl, rfl, ?_⟩
    have F₂ := Fr.keeps F₁ k1
    refine raise_leave B H F₂ rfl rfl k4 k5 k6 ?_ ?_ ?_ fun h'' U l Y => hEx _ _ _ _ (by (walk_at "M om")) U l Y
    · cases q : s.heap.get? e with
      | none => rfl
      | some o => have := F₁.keep _ _ q; rw [k2] at this; cases this
    · cases q : s.heap.get? dx with
      | none => rfl
      | some o => have := F₁.keep _ _ q; rw [k3] at this; cases this
    · rintro rfl
      obtain ⟨o, _, _, q, _⟩ := F₁.ns
      rw [k3] at q; cases q
  · rename_i hl0 _ _ _ hl1
    match vs, hl, hb, hl0, hl1, hOk with
    | [v], hl, _, _, _, hOk =>
      refine item_firstM (hl.keeps F.keep) ?_ ?_
      · exact hOk v _ _ rfl F.keep
      · with_unfolding_all rfl
    | [], _, _, hl0, _, _ => exact absurd rfl hl0
    | _ :: _ :: _, _, _, _, hl1, _ => exact absurd (by simp only [List.length_cons]; (walk_at "M om")) hl1
end
end T_E5
section T_E6
set_option maxHeartbeats 800000
set_option maxRecDepth 100000
theorem stays_to {g h : Heap} {b : Addr} {o : Obj} (k : g.StaysIn h) (e : g.get? b = some o) : h.get? b = some o := k b o e
/-- an item of the record and what stands around it -/
structure It where
  a : Addr
  nm : Str
  us : List Up
  tab : Bool
  cat : Str
/-- its shape tells its category -/
noncomputable def ShapeAt (h : Heap) (v : Value) (c : Str) : Prop := ∃ x ox es n t, v = .ref x ∧ InstAt h x ox 331 (some (dictOf es n)) ∧ getL (Str.ofString "category") es = some (some (.str c t))
theorem ShapeAt.keeps {g h : Heap} {v : Value} {c : Str} (I : ShapeAt g v c) (k : ∀ b o, g.get? b = some o → h.get? b = some o) : ShapeAt h v c := by
  w_top off
  obtain ⟨x, ox, es, n, t, a, b, d⟩ := I
  exact ⟨x, ox, es, n, t, a, inst_keeps b k, d⟩
structure ItOk (h : Heap) (it : It) (par occ : Value) (kids : Addr) (shp : Value) : Prop where
  at_ : ItemAt h it.a it.nm par occ kids shp
  tab : it.tab = (occ != .none)
  occ : occ = .none ∨ ∃ o, occ = .ref o
  line : Line h par it.us
  short : it.us.length < 500
  plain : ∀ u ∈ it.us, u.nm ≠ (Str.ofString "FILLER")
  shape : ShapeAt h shp it.cat
noncomputable def ItAt (h : Heap) (it : It) : Prop := ∃ par occ kids shp, ItOk h it par occ kids shp
theorem ItAt.keeps {g h : Heap} {it : It} (I : ItAt g it) (k : ∀ b o, g.get? b = some o → h.get? b = some o) : ItAt h it := by
  obtain ⟨par, occ, kids, shp, ⟨a, b, c, d, e, f, q⟩⟩ := I
  exact ⟨par, occ, kids, shp, ⟨a.keeps k, b, c, d.keeps k, e, f, q.keeps k⟩⟩
theorem Line.inj {h : Heap} {v : Value} {us us' : List Up} (l : Line h v us) (l' : Line h v us') : us = us' := by
  induction l generalizing us' with
  | nil => cases l'; rfl
  | cons I e f _ ih =>
    cases l' with
    | cons I' e' f' r' =>
      obtain ⟨a, b, c, d, _⟩ := I.inj I'
      subst a b c
      rw [ih r', e, e']
theorem ItAt.inj {h : Heap} {it it' : It} (I : ItAt h it) (J : ItAt h it') (e : it.a = it'.a) : it.nm = it'.nm ∧ it.us = it'.us := by
  obtain ⟨par, occ, kids, shp, I⟩ := I
  obtain ⟨par', occ', kids', shp', J⟩ := J
  have a := I.at_
  rw [e] at a
  obtain ⟨h1, h2, _⟩ := a.inj J.at_
  subst h2
  exact ⟨h1, I.line.inj J.line⟩
structure Tree (h : Heap) (root : Addr) (its : List It) : Prop where
  pre : Pre h [root] (its.map It.a)
  ok : ∀ it ∈ its, ItAt h it
  short : its.length < 500
theorem Tree.keeps {g h : Heap} {root : Addr} {its : List It} (I : Tree g root its) (k : ∀ b o, g.get? b = some o → h.get? b = some o) : Tree h root its :=
  ⟨I.pre.keeps k, fun it hi => (I.ok it hi).keeps k, I.short⟩
/-- a question asked of items, put to their addresses -/
noncomputable def by_ (its : List It) (f : It → Bool) : Value → Bool
  | .ref a => (its.find? (·.a == a)).elim false f
  | _ => false
theorem by_is {its : List It} {f : It → Bool} (hc : ∀ it ∈ its, ∀ it' ∈ its, it.a = it'.a → f it = f it') {it : It} (hi : it ∈ its) : by_ its f (.ref it.a) = f it := by
  show (its.find? (·.a == it.a)).elim false f = _
  cases e : its.find? (·.a == it.a) with
  | none => have := List.find?_eq_none.mp e it hi; simp at this
  | some it' =>
    have h1 := List.find?_some e
    have h2 := List.mem_of_find?_eq_some e
    exact hc it' h2 it hi (by simpa using h1)
noncomputable def itsV (its : List It) : List Value := refs (its.map It.a)
theorem itsV_mem {its : List It} {v : Value} (h : v ∈ itsV its) : ∃ it ∈ its, v = .ref it.a := by
  simp only [itsV, refs, List.mem_map] at h
  obtain ⟨a, ⟨it, hi, rfl⟩, rfl⟩ := h
  exact ⟨it, hi, rfl⟩
theorem itsV_filter {all : List It} {f : It → Bool} (hc : ∀ it ∈ all, ∀ it' ∈ all, it.a = it'.a → f it = f it') : ∀ its : List It, (∀ it ∈ its, it ∈ all) → (itsV its).filter (by_ all f) = itsV (its.filter f)
  | [], _ => rfl
  | it :: r, hs => by
    have ih := itsV_filter hc r fun x hx => hs x (.tail _ hx)
    show List.filter _ (Value.ref it.a :: itsV r) = _
    rw [List.filter_cons, List.filter_cons, by_is hc (hs it (.head _)), ih]
    cases f it <;> rfl
theorem paired_eq : ∀ {vs ys : List Value}, Paired (fun v y => y = v) vs ys → ys = vs
  | [], ys, h => by cases h; rfl
  | v :: r, ys, h => by
    cases h with
    | cons h1 h2 => rw [h1, paired_eq h2]
noncomputable def hits (its : List It) (nm : Str) (qs : List Str) : List It := (its.filter (·.nm == nm)).filter fun it => leads (it.us.map Up.nm ++ [(Str.ofString "")]) qs

local macro_rules | `(tactic| walk_at "M amb") => `(tactic| first | exact Amb.down (Amb.innC (by assumption) (by assumption) rfl rfl) (by decide) | exact Amb.down (Amb.inn (by assumption) (by assumption)) (by decide))
local macro_rules | `(tactic| walk_at "M back list") => `(tactic| (intro lr kr h' tk' st' fr' gt'; (with_reducible rename Fr _ _ _ _ => mF); (with_reducible rename News _ _ _ _ => mN); (have F' := Fr.keeps mF st'); (have N' := news_made mF mN st' fr' gt'); (have l1 := allNe_made fr' mN); (try simp only [AllNe, and_true] at l1); walk_at "M ns"; clear fr' gt'; (try k_sweep); (try dsimp only)))
local macro_rules | `(tactic| walk_at "M back") => `(tactic| ((with_reducible rename Fr _ _ _ _ => mF); (with_reducible rename News _ _ _ _ => mN); (with_reducible rename Heap.StaysIn _ _ => mK); (have F' := Fr.keeps mF mK); (have N' := News.grown mN mK); walk_at "M ns"; (try k_sweep); (try dsimp only)))
local macro_rules | `(tactic| walk_at "call ref") => `(tactic| (k_here; apply wpAny_callA; apply all_code; walk_at "M amb"; walk_at "M hok"; walk_at "M kp"; exact Pre.keeps (by assumption) (Fr.keep (by assumption)); assumption; walk_at "M back list"))
local macro_rules | `(tactic| walk_at "call ref") => `(tactic| (k_here; apply wpAny_callA; apply file_code; walk_at "M amb"; walk_at "M hok"; walk_at "M kp"; walk_at "M kp"; walk_at "M kp"; (walk_at "M om"); intro h' tk' t' st'; walk_at "M back"))
local macro_rules | `(tactic| walk_at "call ref") => `(tactic| (k_here; apply wpAny_callA; apply leads_code; walk_at "M amb"; walk_at "M hok"; walk_at "M list"; walk_at "M tup"; walk_at "M strs"; assumption; assumption; intro h' tk' st'; walk_at "M back"))
local macro_rules | `(tactic| walk_at "M ns") => `(tactic| try ((with_reducible rename Heap.Ns _ _ _ => mS); (with_reducible rename Heap.StaysIn _ _ => mK); (have hS' := Heap.Ns.keeps mS mK); clear mS))
theorem strs_snoc {n : Str} {t : Tok} {xs : List Value} {ns : List Str} (h : StrsAre xs ns) : StrsAre (xs ++ [.str n t]) (ns ++ [n]) := by
  induction h with
  | nil => exact .cons _ t .nil
  | cons n' t' _ ih => exact .cons n' t' ih
local macro_rules | `(tactic| walk_at "M strs") => `(tactic| first | assumption | exact strs_snoc (by assumption))
local macro_rules | `(tactic| walk_at "newList") => `(tactic| (k_here; k_dflt (apply newListS; k_asm; k_asm; rotate_left; (show _ ≤ sizeLine; rw [sizeLine_eq]; exact Nat.le_of_ble_eq_true rfl); k_whole); intro l' h' st' F' N' l1; (try k_lt l1); walk_at "M ns"; (try k_sweep)))
local macro_rules | `(tactic| walk_at "binaryOp Add ref ref") => `(tactic| (k_here; k_dflt (apply addS; k_asm; k_asm; walk_at "M list"; walk_at "M list"; rotate_left; walk_at "M size"); intro D' h' st' F' N' l1; (try k_lt l1); walk_at "M ns"; (try k_sweep)))
local macro_rules | `(tactic| walk_at "call ref") => `(tactic| (k_here; apply wpAny_callA; apply names_code; walk_at "M amb"; walk_at "M hok"; walk_at "M kp"; walk_at "M kp"; (walk_at "M om"); assumption; intro lr ys kr h' tk' st' fr' gt' hst'; (have hz' := StrsAre.len_eq hst'; simp only [List.length_map] at hz'); revert lr kr h' tk' st' fr' gt'; walk_at "M back list"))
section
variable {w : World} {A : Around} {base : Heap} {outer : List Env} {mean : ExcName → Option Value} {mg mb : Str → Option Value} {s : Shared} {n : Nat} {R : Result → Shared → Prop}
theorem find_code {data root xd q : Addr} {its : List It} {nm : Str} {tn : Tok} {qs : List Value} {us : List Str}
   (M : Amb w A base outer mean mg mb s.heap 12) (H : HOK A s.heap) (D : DataAt s.heap data root xd) (TR : Tree s.heap root its) (hn : nm.length ≤ 100) (hq : Tpl s.heap q qs) (hqs : StrsAre qs us) (hu : us.length < 1000)
   (hOk : ∀ it h' tk, hits its nm us = [it] → s.heap.StaysIn h' → R (.ok (.ret (.ref it.a))) { s with heap := h', toks := tk })
   (hEx : ∀ e what h' tk, (hits its nm us).length ≠ 1 → UpTo (fsOf outer) s.heap h' → h'.FunFrames base outer → Fly A.handled s.heap h' (fsOf outer) e what (some .none) → R (.error (.ref e)) { s with heap := h', toks := tk }) :
   codeAny (model PR w) A (.call (.ref 235) ⟨[.ref data, .str nm tn, .ref q], []⟩) R s := by
  have X := M.X
  have T := M.T
  have B := M.B
  have P := TR.pre
  have hxl : (its.map It.a).length < 500 := by simpa using TR.short
  have c1 : ∀ it ∈ its, ∀ it' ∈ its, it.a = it'.a → (it.nm == nm) = (it'.nm == nm) := fun it hi it' hi' e => by rw [((TR.ok it hi).inj (TR.ok it' hi') e).1]
  have c2 : ∀ it ∈ its, ∀ it' ∈ its, it.a = it'.a → leads (it.us.map Up.nm ++ [(Str.ofString "")]) us = leads (it'.us.map Up.nm ++ [(Str.ofString "")]) us := fun it hi it' hi' e => by rw [((TR.ok it hi).inj (TR.ok it' hi') e).2]
  refine enterC (binds := [(Str.ofString "data", .ref data), (Str.ofString "name", .str nm tn), (Str.ofString "qualifiers", .ref q)]) M (by with_unfolding_all rfl) (by k_is) (BindsTo.of_eq rfl) (by exact rfl) (by decide +kernel) rfl rfl rfl ?_
  intro L h₁ tk cells' hL F N' Y'
  k_cells Y'
  (repeat' (first | (k_unmd; k_unfold; (try dsimp only)) | ((((fail_if_success (with_reducible show wpAny _ _ (exec (Stmt.While _ _ _ _) _) _ _ _)); (fail_if_success (with_reducible show wpAny _ _ (pyIter _) (fun it s₂ => LoopAtV _ _ _ _ _ _ _ _ _ it s₂) _ _)); (fail_if_success (with_reducible show wpAny _ _ (eval (Expr.ListComp _ _ _ _) _) _ _ _)); (fail_if_success (with_reducible show Exists _)))); first | walk1 | (dsimp only; walk1) | fail "no step")))
  refine compA (by_ its (·.nm == nm)) (fun v y => y = v) (show HOK _ s.heap from H) (by with_unfolding_all rfl) (by with_unfolding_all rfl) (by decide) (by rfl) (by decide) (by rfl) (by with_unfolding_all rfl) (by rfl) (by intro _; with_unfolding_all rfl) ?_
  (repeat' (first | (k_unmd; k_unfold; (try dsimp only)) | ((((fail_if_success (with_reducible show wpAny _ _ (exec (Stmt.While _ _ _ _) _) _ _ _)); (fail_if_success (with_reducible show wpAny _ _ (pyIter _) (fun it s₂ => LoopAtV _ _ _ _ _ _ _ _ _ it s₂) _ _)); (fail_if_success (with_reducible show wpAny _ _ (eval (Expr.ListComp _ _ _ _) _) _ _ _)); (fail_if_success (with_reducible show Exists _)))); first | walk1 | (dsimp only; walk1) | fail "no step")))
  rename Fr _ _ _ _ => F₁
  rename News _ _ _ _ => N₁
  refine ⟨_, _, _, _, rfl, Lst.isList ⟨_, N₁.get (.head _)⟩, by rw [refs_length]; (walk_at "M om"), F₁, N₁, ?_, ?_, ?_⟩
  · intro C v s₃ m₃ E' hv hC hn' hm hk F₃ N₃
    obtain ⟨it, hi, rfl⟩ := itsV_mem hv
    obtain ⟨par', occ', kids', shp', ⟨⟨ox, es, n0, t0, ⟨I1, I2, I3, I4, I5, I6⟩⟩, htb, hho, hli, hsh, hpl, hsp⟩⟩ := TR.ok it hi
    rw [by_is c1 hi]
    refine tests_one ?_
    (repeat' (first | (k_unmd; k_unfold; (try dsimp only)) | ((((fail_if_success (with_reducible show wpAny _ _ (exec (Stmt.While _ _ _ _) _) _ _ _)); (fail_if_success (with_reducible show wpAny _ _ (pyIter _) (fun it s₂ => LoopAtV _ _ _ _ _ _ _ _ _ it s₂) _ _)); (fail_if_success (with_reducible show wpAny _ _ (eval (Expr.ListComp _ _ _ _) _) _ _ _)); (fail_if_success (with_reducible show Exists _)))); first | walk1 | (dsimp only; walk1) | fail "no step")))
    exact ⟨_, _, rfl, fun _ _ e => e⟩
  · intro C v s₃ m₃ E' hv hp hC hn' hm hk F₃ N₃
    (repeat' (first | (k_unmd; k_unfold; (try dsimp only)) | ((((fail_if_success (with_reducible show wpAny _ _ (exec (Stmt.While _ _ _ _) _) _ _ _)); (fail_if_success (with_reducible show wpAny _ _ (pyIter _) (fun it s₂ => LoopAtV _ _ _ _ _ _ _ _ _ it s₂) _ _)); (fail_if_success (with_reducible show wpAny _ _ (eval (Expr.ListComp _ _ _ _) _) _ _ _)); (fail_if_success (with_reducible show Exists _)))); first | walk1 | (dsimp only; walk1) | fail "no step")))
    exact ⟨_, _, rfl, fun _ _ e => e⟩
  · intro D k h' tk ys F₃ N₃ hD hP
    have hys := paired_eq hP
    rw [show refs (its.map It.a) = itsV its from rfl, itsV_filter c1 its fun _ h => h] at hys
    subst hys
    clear F₁ N₁
    have hal : ∀ it ∈ its.filter (·.nm == nm), it ∈ its := fun it hi => (List.mem_filter.mp hi).1
    have hl2 : (its.filter (·.nm == nm)).length ≤ its.length := List.length_filter_le _ _
    have hsh2 := TR.short
    (repeat' (first | (k_unmd; k_unfold; (try dsimp only)) | ((((fail_if_success (with_reducible show wpAny _ _ (exec (Stmt.While _ _ _ _) _) _ _ _)); (fail_if_success (with_reducible show wpAny _ _ (pyIter _) (fun it s₂ => LoopAtV _ _ _ _ _ _ _ _ _ it s₂) _ _)); (fail_if_success (with_reducible show wpAny _ _ (eval (Expr.ListComp _ _ _ _) _) _ _ _)); (fail_if_success (with_reducible show Exists _)))); first | walk1 | (dsimp only; walk1) | fail "no step")))
    refine compM (L := L) (by_ its fun it => leads (it.us.map Up.nm ++ [Str.ofString ""]) us) (fun v y => y = v) (show HOK _ s.heap from H) (by with_unfolding_all rfl) (by decide) (by rfl) (by decide) (by rfl) (by intro _; with_unfolding_all rfl) ?_
    (repeat' (first | (k_unmd; k_unfold; (try dsimp only)) | ((((fail_if_success (with_reducible show wpAny _ _ (exec (Stmt.While _ _ _ _) _) _ _ _)); (fail_if_success (with_reducible show wpAny _ _ (pyIter _) (fun it s₂ => LoopAtV _ _ _ _ _ _ _ _ _ it s₂) _ _)); (fail_if_success (with_reducible show wpAny _ _ (eval (Expr.ListComp _ _ _ _) _) _ _ _)); (fail_if_success (with_reducible show Exists _)))); first | walk1 | (dsimp only; walk1) | fail "no step")))
    rename Fr _ _ _ _ => F₁
    rename News _ _ _ _ => N₁
    refine ⟨_, _, _, _, rfl, Lst.isList ⟨_, N₁.get (.head _)⟩, by simp only [itsV, refs_length, List.length_map]; (walk_at "M om"), F₁, N₁, ?_, ?_, ?_⟩
    · intro C v s₃ m₃ E' hv hC hn' hm hk F₃ N₃
      obtain ⟨it, hi, rfl⟩ := itsV_mem hv
      obtain ⟨par', occ', kids', shp', ⟨hIt, htb, hho, hli, hsh, hpl, hsp⟩⟩ := TR.ok it (hal it hi)
      rw [by_is c2 (hal it hi)]
      refine tests_one ?_
      (repeat' (first | (k_unmd; k_unfold; (try dsimp only)) | ((((fail_if_success (with_reducible show wpAny _ _ (exec (Stmt.While _ _ _ _) _) _ _ _)); (fail_if_success (with_reducible show wpAny _ _ (pyIter _) (fun it s₂ => LoopAtV _ _ _ _ _ _ _ _ _ it s₂) _ _)); (fail_if_success (with_reducible show wpAny _ _ (eval (Expr.ListComp _ _ _ _) _) _ _ _)); (fail_if_success (with_reducible show Exists _)))); first | walk1 | (dsimp only; walk1) | fail "no step")))
      refine ⟨_, _, rfl, fun b o e => ?_⟩
      repeat (first | with_reducible exact e | (with_reducible rename Heap.StaysIn _ _ => kk; with_reducible refine stays_to kk ?_; clear kk))
    · intro C v s₃ m₃ E' hv hp hC hn' hm hk F₃ N₃
      (repeat' (first | (k_unmd; k_unfold; (try dsimp only)) | ((((fail_if_success (with_reducible show wpAny _ _ (exec (Stmt.While _ _ _ _) _) _ _ _)); (fail_if_success (with_reducible show wpAny _ _ (pyIter _) (fun it s₂ => LoopAtV _ _ _ _ _ _ _ _ _ it s₂) _ _)); (fail_if_success (with_reducible show wpAny _ _ (eval (Expr.ListComp _ _ _ _) _) _ _ _)); (fail_if_success (with_reducible show Exists _)))); first | walk1 | (dsimp only; walk1) | fail "no step")))
      exact ⟨_, _, rfl, fun _ _ e => e⟩
    · intro D k h' tk ys F₃ N₃ hD hP
      have hys := paired_eq hP
      rw [itsV_filter c2 _ hal] at hys
      subst hys
      clear F₁ N₁
      (repeat' (first | (k_unmd; k_unfold; (try dsimp only)) | ((((fail_if_success (with_reducible show wpAny _ _ (exec (Stmt.While _ _ _ _) _) _ _ _)); (fail_if_success (with_reducible show wpAny _ _ (pyIter _) (fun it s₂ => LoopAtV _ _ _ _ _ _ _ _ _ it s₂) _ _)); (fail_if_success (with_reducible show wpAny _ _ (eval (Expr.ListComp _ _ _ _) _) _ _ _)); (fail_if_success (with_reducible show Exists _)))); first | walk1 | (dsimp only; walk1) | fail "no step")))
      have hl3 : (hits its nm us).length ≤ its.length := Nat.le_trans (List.length_filter_le _ _) hl2
      refine wpAny_callA (only_code (vs := itsV (hits its nm us)) (Amb.down (Amb.innC M F₃ rfl rfl) (by decide)) (HOK.keeps (show HOK _ s.heap from H) F₃.keep) ⟨_, N₃.get (.head _)⟩ (by simp only [itsV, refs_length, List.length_map]; (walk_at "M om")) hn ?_ ?_)
      · intro v h₅ tk₅ hv st
        match hh : hits its nm us, hv with
        | [it], hv =>
          have : v = .ref it.a := by
            rw [show itsV [it] = [Value.ref it.a] from rfl] at hv
            injection hv with hv; exact hv.symm
          subst this
          exact hOk it _ _ hh fun b o e => st b o (F₃.keep b o e)
      · intro e what h₅ tk₅ hv U l Y
        have hlen : (hits its nm us).length ≠ 1 := by simpa [itsV, refs_length] using hv
        exact leave_through B F₃ rfl U l Y fun h'' U'' l'' Y'' => hEx e what h'' _ hlen U'' l'' Y''
end
end T_E6
section T_E7
open PySem PySem.W PyProof.Rows PySem.Calls PySem.Spec
set_option maxHeartbeats 600000

/-- what stands at every call of a function that handles a fault: the ground g holds no frame -/
structure AmbF (w : World) (A : Around) (g : Heap) (outer : List Env) (mean : ExcName → Option Value) (mg mb : Str → Option Value) (h : Heap) (n : Nat) : Prop where
  M : Amb w A g outer mean mg mb h n
  X : (hd.heap_39 w.params).In g
  T : Top hd.view_39 lso mean mg mb g
  dicts : ∀ a ∈ fsOf outer, ∃ o, h.get? a = some o ∧ ∃ es ep, o.data = .dict es ep
/-- the outer frames, as the ledger holds them: as they were but for their slots -/
noncomputable def FrsOf (s₀ : Heap) (outer : List Env) (frs : List (Addr × Obj)) : Prop :=
  frs.map (·.1) = fsOf outer ∧ ∀ p ∈ frs, ∃ o, s₀.get? p.1 = some o ∧ (∃ es ep, o.data = .dict es ep) ∧ ∃ sl, p.2 = { o with slots := sl }

section
variable {w : World} {A : Around} {g b s₀ h h' : Heap} {outer : List Env} {mean : ExcName → Option Value} {mg mb : Str → Option Value} {n : Nat} {L : Addr} {m : Str → Option Value} {nx frs news : List (Addr × Obj)} {env : Env}

theorem fsOf_cons (hf : env.frame = some L) : fsOf (env :: outer) = L :: fsOf outer := by simp [fsOf, hf]

theorem AmbF.down {k : Nat} (MF : AmbF w A g outer mean mg mb h n) (hk : k ≤ n) : AmbF w A g outer mean mg mb h k := ⟨MF.M.down hk, MF.X, MF.T, MF.dicts⟩

theorem frs_list : ∀ fs : List Addr, (∀ a ∈ fs, ∃ o, s₀.get? a = some o ∧ ∃ es ep, o.data = .dict es ep) →
    ∃ frs : List (Addr × Obj), frs.map (·.1) = fs ∧ ∀ p ∈ frs, s₀.get? p.1 = some p.2 ∧ (∃ es ep, p.2.data = .dict es ep)
  | [], _ => ⟨[], rfl, fun _ h => nomatch h⟩
  | a :: r, hs => by
    obtain ⟨o, e, d⟩ := hs a (.head _)
    obtain ⟨frs, h1, h2⟩ := frs_list r fun x hx => hs x (.tail _ hx)
    refine ⟨(a, o) :: frs, by rw [List.map_cons, h1], fun p hp => ?_⟩
    rcases List.mem_cons.mp hp with rfl | hp
    · exact ⟨e, d⟩
    · exact h2 p hp
theorem frs_start (MF : AmbF w A g outer mean mg mb s₀ n) (F : Fr s₀ L h m) : ∃ frs, FrsOf s₀ outer frs ∧ Fr (cut s₀ (fsOf outer)) L h m ∧ News (cut s₀ (fsOf outer)) L h frs ∧ g.StaysIn (cut s₀ (fsOf outer)) := by
  obtain ⟨frs, h1, h2⟩ := frs_list (s₀ := s₀) (fsOf outer) MF.dicts
  refine ⟨frs, ⟨h1, fun p hp => ⟨p.2, (h2 p hp).1, (h2 p hp).2, p.2.slots, rfl⟩⟩, Fr.cut F _, News.ofCut F fun p hp => ⟨(h2 p hp).1, h1 ▸ List.mem_map.mpr ⟨p, hp, rfl⟩⟩, stays_cut MF.M.B.stays fun a ha => (MF.M.B.frames.mem ha).1⟩
theorem frs_end (F : Fr (cut s₀ (fsOf outer)) L h m) (N : News (cut s₀ (fsOf outer)) L h news) (hf : FrsOf s₀ outer frs) (hs : ∀ p ∈ frs, p ∈ news) : UpTo (fsOf outer) s₀ h := by
  have k1 : ∀ a o, s₀.get? a = some o → a ∉ fsOf outer → h.get? a = some o := fun a o e m => F.keep a o ((cut_of m).trans e)
  refine ⟨k1, fun a o e => ?_⟩
  by_cases c : a ∈ fsOf outer
  · rw [← hf.1] at c
    obtain ⟨p, hp, rfl⟩ := List.mem_map.mp c
    obtain ⟨o', e', _, sl, q⟩ := hf.2 p hp
    rw [e] at e'; cases e'
    exact ⟨sl, q ▸ (N p (hs p hp)).1⟩
  · exact ⟨o.slots, k1 a o e c⟩
theorem frs_dict (hf : FrsOf s₀ outer frs) {a : Addr} (ha : a ∈ fsOf outer) : ∃ o, (a, o) ∈ frs ∧ ∃ es ep, o.data = .dict es ep := by
  rw [← hf.1] at ha
  obtain ⟨p, hp, rfl⟩ := List.mem_map.mp ha
  obtain ⟨o, _, ⟨es, ep, d⟩, sl, q⟩ := hf.2 p hp
  exact ⟨p.2, hp, es, ep, by rw [q]; exact d⟩
/-- lists and tuples are no frames -/
theorem frs_off (N : News b L h news) (hf : FrsOf s₀ outer frs) (hs : ∀ p ∈ frs, p ∈ news) {p : Addr × Obj} (hp : p ∈ news) (hd : ∀ es ep, p.2.data ≠ .dict es ep) : p.1 ∉ fsOf outer := fun m => by
  obtain ⟨o, ho, es, ep, d⟩ := frs_dict hf m
  have h1 := (N _ (hs _ ho)).1
  have h2 := (N p hp).1
  rw [h2] at h1
  cases h1
  exact hd es ep d
theorem frs_back (F : Fr b L h m) (N : News b L h (nx ++ frs)) (hf : FrsOf s₀ outer frs) (hnx : ∀ p ∈ nx, p.1 ∉ fsOf outer) (bf : ∀ a ∈ fsOf outer, b.get? a = none) (U : UpTo (L :: fsOf outer) h h') :
    ∃ frs', FrsOf s₀ outer frs' ∧ Fr b L h' m ∧ News b L h' (nx ++ frs') := by
  have hN : ∀ p ∈ frs, News b L h [p] := fun p hp q hq => by
    rw [List.mem_singleton.mp hq]; exact N p (List.mem_append_right _ hp)
  have hU : ∀ p ∈ frs, ∃ sl, h'.get? p.1 = some { p.2 with slots := sl } := fun p hp => U.2 _ _ (N p (List.mem_append_right _ hp)).1
  refine ⟨frs.map fun p => (p.1, (h'.get? p.1).getD p.2), ⟨?_, ?_⟩, ⟨U.ns F.ns, fun a o e => U.1 a o (F.keep a o e) ?_, F.above⟩, ?_⟩
  · rw [List.map_map]; exact hf.1
  · intro p hp
    obtain ⟨q, hq, rfl⟩ := List.mem_map.mp hp
    obtain ⟨o, e, d, sl, z⟩ := hf.2 q hq
    obtain ⟨sl', e'⟩ := hU q hq
    refine ⟨o, e, d, sl', ?_⟩
    dsimp only
    rw [e', z]; rfl
  · intro hm
    rcases List.mem_cons.mp hm with rfl | hm
    · exact absurd (Nat.lt_of_lt_of_le (Heap.lt_size e) F.above) (Nat.lt_irrefl _)
    · rw [bf a hm] at e; cases e
  · intro p hp
    rcases List.mem_append.mp hp with hp | hp
    · have Np := N p (List.mem_append_left _ hp)
      exact ⟨U.1 _ _ Np.1 (fun hm => (List.mem_cons.mp hm).elim Np.2.1 (hnx p hp)), Np.2⟩
    · obtain ⟨q, hq, rfl⟩ := List.mem_map.mp hp
      obtain ⟨sl', e'⟩ := hU q hq
      refine ⟨?_, (N q (List.mem_append_right _ hq)).2⟩
      dsimp only
      rw [e']; rfl
theorem funFrames_dicts {s₀ : Heap} : ∀ {l : List Env}, s₀.FunFrames g l → (∀ a ∈ fsOf l, ∃ o, h.get? a = some o ∧ ∃ es ep, o.data = .dict es ep) → h.FunFrames g l := by
  intro l
  induction l with
  | nil => exact fun _ _ => trivial
  | cons env l ih =>
    intro hF hs
    obtain ⟨hk, ⟨L, o, hf, hn, ho, hd⟩, hr⟩ := hF
    rw [fsOf_cons hf] at hs
    obtain ⟨o', e', es, ep, d⟩ := hs L (.head _)
    exact ⟨hk, ⟨L, o', hf, hn, e', fun vs z => by rw [d] at z; cases z⟩, ih hr fun a ha => hs a (.tail _ ha)⟩
theorem AmbF.inn {f : Addr} {qual : Str} {scope : Scope} {cdv : Value} (MF : AmbF w A g outer mean mg mb s₀ (n + 1)) (F : Fr b L h m) (N : News b L h news) (hf : FrsOf s₀ outer frs) (hs : ∀ p ∈ frs, p ∈ news) (gb : g.StaysIn b) (hk : scope.kind = .function := by rfl) :
    AmbF w (A.deeper (envOf qual scope L f cdv)) g (envOf qual scope L f cdv :: outer) mean mg mb h n := by
  have gh : g.StaysIn h := fun a o e => F.keep a o (gb a o e)
  have hL : g.get? L = none := by
    cases hq : g.get? L with
    | none => rfl
    | some o => exact absurd (Nat.lt_of_lt_of_le (Heap.lt_size (gb L o hq)) F.above) (Nat.lt_irrefl _)
  have dd : ∀ a ∈ fsOf outer, ∃ o, h.get? a = some o ∧ ∃ es ep, o.data = .dict es ep := fun a ha => by
    obtain ⟨o, ho, z⟩ := frs_dict hf ha
    exact ⟨o, (N _ (hs _ ho)).1, z⟩
  refine ⟨⟨MF.X.keeps gh, MF.T.keeps gh, ⟨Around.frames_deeper MF.M.B.stack, gh, .cons (by show scope.kind ≠ .module; rw [hk]; decide) rfl F.ns hL (funFrames_dicts MF.M.B.frames dd)⟩, by have := MF.M.depth; show A.depth + 1 + n < _; omega, by have := MF.M.units; show A.units + 3 + 8 * n < _; omega⟩, MF.X, MF.T, ?_⟩
  intro a ha
  rw [fsOf_cons (L := L) rfl] at ha
  rcases List.mem_cons.mp ha with rfl | ha
  · obtain ⟨o, es, ep, ho, hd, _⟩ := F.ns
    exact ⟨o, ho, es, ep, hd⟩
  · exact dd a ha
theorem Chain.cut {e : Addr} {fs : List Addr} (hfs : ∀ a ∈ fs, ∃ o, s₀.get? a = some o ∧ ∀ vs, o.data ≠ .fields vs) (c : Chain s₀ e) : Chain (Mine.cut s₀ fs) e := by
  have lk : ∀ {e : Addr} {c : Value}, Lnk s₀ e c → Lnk (Mine.cut s₀ fs) e c := by
    rintro e c ⟨oe, vs, h1, h2, h3⟩
    refine ⟨oe, vs, (cut_of fun m => ?_).trans h1, h2, h3⟩
    obtain ⟨o, ho, hn⟩ := hfs e m
    rw [h1] at ho; cases ho; exact hn vs h2
  induction c with
  | last l => exact .last (lk l)
  | next l _ ih => exact .next (lk l) ih
theorem HOK.cut {fs : List Addr} (hfs : ∀ a ∈ fs, ∃ o, s₀.get? a = some o ∧ ∀ vs, o.data ≠ .fields vs) (c : HOK A s₀) : HOK A (Mine.cut s₀ fs) := fun v hv => by
  obtain ⟨e, r, c⟩ := c v hv; exact ⟨e, r, c.cut hfs⟩
theorem HOK.cutF (MF : AmbF w A g outer mean mg mb s₀ n) (c : HOK A s₀) : HOK A (Mine.cut s₀ (fsOf outer)) := c.cut fun _ ha => (MF.M.B.frames.mem ha).2

/-- the fault, as the suite of an except clause finds it -/
structure Caught (h : Heap) (hnd : Option Value) (e : Addr) (what : Str) : Prop where
  inst : ∃ oe es k t, InstAt h e oe 60 (some (dictOf es k)) ∧ getL (Str.ofString "what") es = some (some (.str what t))
  link : Lnk h e .none ∨ ∃ c, hnd = some c ∧ Lnk h e c
theorem Fly.caught {hnd : Option Value} {b h : Heap} {fs : List Addr} {e : Addr} {what : Str} {fl : Option Value} (Y : Fly hnd b h fs e what fl) : Caught h hnd e what := by
  obtain ⟨oe, vs, dx, es, k, t, tb, c, Y⟩ := Y
  refine ⟨⟨oe, es, k, t, ⟨Y.at_, Y.cls, ?_, ?_⟩, Y.what⟩, ?_⟩
  · unfold notCls; rw [Y.data]
  · rw [Y.dict]; exact Y.dat
  · rcases Y.chain with rfl | q
    · exact .inl ⟨oe, vs, Y.at_, Y.data, Y.ctx⟩
    · exact .inr ⟨c, q, oe, vs, Y.at_, Y.data, Y.ctx⟩
end

section
variable {w : World} {A : Around} {g b h : Heap} {outer : List Env} {mean : ExcName → Option Value} {mg mb : Str → Option Value} {s' : Shared} {L a e : Addr} {m : Str → Option Value} {name : Str} {scope : Scope} {cd : Value} {what : Str}
  {E : Value → Shared → Prop} {Q : Flow → Shared → Prop} {n : Str} {b₀ : Stmt} {suite : List Stmt} {pos np : Pos} {rest : List ExceptHandler}
theorem handle0 (hst : A.frames = some outer) (F : Fr b L h m) (X : (hd.heap_39 w.params).In b) (T : Top hd.view_39 lso mean mg mb b) (bf : ∀ a ∈ fsOf outer, b.get? a = none)
    (U : UpTo (fsOf (envOf name scope L a cd :: outer)) h s'.heap) (l : s'.heap.FunFrames g (envOf name scope L a cd :: outer)) (Y : Fly A.handled h s'.heap (fsOf (envOf name scope L a cd :: outer)) e what (some .none))
    (k : ∀ h', UpTo (fsOf (envOf name scope L a cd :: outer)) h h' → Caught h' A.handled e what → h'.get? e ≠ none ∧ h.get? e = none →
      wpAny (model PR w) ((A.deeper (envOf name scope L a cd)).mark (some (.ref e))) (execs (b₀ :: suite) (envOf name scope L a cd)) Q (fun _ _ => False) { s' with heap := h' })
    (hk : scope.kind = .function := by rfl) (hx : (envOf name scope L a cd).kindOf (Str.ofString "CheckFault") = some .globalImplicit := by rfl) :
    wpAny (model PR w) (A.deeper (envOf name scope L a cd)) (noteFrame (.ref e) (envOf name scope L a cd))
      (fun _ s₂ => wpAny (model PR w) (A.deeper (envOf name scope L a cd)) (setFlight (.ref e) none) (fun _ s₃ =>
        wpAny (model PR w) (A.deeper (envOf name scope L a cd)) (handleBy (.ref e) (envOf name scope L a cd) (.ExceptHandler (some (.Name (Str.ofString "CheckFault") np)) none (b₀ :: suite) pos :: rest)) Q E s₃) E s₂) E s' := by
  have hfr : (A.deeper (envOf name scope L a cd)).frames = some (envOf name scope L a cd :: outer) := Around.frames_deeper hst
  have hS : ∀ x ∈ fsOf (envOf name scope L a cd :: outer), x ∈ fsOf (envOf name scope L a cd :: outer) ∨ h.get? x = none := fun x hx => .inl hx
  have fr : ∀ h', UpTo (fsOf (envOf name scope L a cd :: outer)) h h' → Fr b L h' m := fun h' u => ⟨u.ns F.ns, u.stays F.keep fun x hx => by
    rw [fsOf_cons (L := L) rfl] at hx
    rcases List.mem_cons.mp hx with rfl | hx
    · cases hq : b.get? x with
      | none => rfl
      | some o => exact absurd (Nat.lt_of_lt_of_le (Heap.lt_size hq) F.above) (Nat.lt_irrefl _)
    · exact bf x hx, F.above⟩
  refine note_on hfr l rfl hS U Y fun h₁ U₁ l₁ Y₁ _ => ?_
  refine land l₁ U₁ Y₁ fun h₂ U₂ l₂ Y₂ _ => ?_
  have F₂ := fr h₂ U₂
  have X₂ := X.keeps F₂.keep
  obtain ⟨⟨oe, es, kk, t, I, hw⟩, lk⟩ := Y₂.caught
  refine wpAny_handleBy_cons (codeAny_handlers_test (name_K F₂ X (topRead_of T) (by k_is) ?_ hk hx)) (by intro q; cases q)
  refine wpAny_excMatches_sub_self (C := 60) (X₂ _ _ (by with_unfolding_all rfl)) I.at_ I.cls (by decide +kernel) (codeAny_handlers_suite ?_)
  refine land l₂ U₂ Y₂ fun h₃ U₃ l₃ Y₃ _ => ?_
  have ne : h.get? e = none := by obtain ⟨_, _, _, _, _, _, _, _, Z⟩ := Y₃; exact Z.fe
  have al : h₃.get? e ≠ none := by obtain ⟨_, _, _, _, _, _, _, _, Z⟩ := Y₃; rw [Z.at_]; simp
  exact wpAny_mono (k h₃ U₃ Y₃.caught ⟨al, ne⟩) (fun _ _ x => x) fun _ _ x => x.elim

theorem handleB (hst : A.frames = some outer) (F : Fr b L h m) (X : (hd.heap_39 w.params).In b) (T : Top hd.view_39 lso mean mg mb b) (bf : ∀ a ∈ fsOf outer, b.get? a = none)
    (U : UpTo (fsOf (envOf name scope L a cd :: outer)) h s'.heap) (l : s'.heap.FunFrames g (envOf name scope L a cd :: outer)) (Y : Fly A.handled h s'.heap (fsOf (envOf name scope L a cd :: outer)) e what (some .none))
    (k : ∀ h', UpTo (fsOf (envOf name scope L a cd :: outer)) h h' → Fly A.handled h h' (fsOf (envOf name scope L a cd :: outer)) e what (some .none) →
      wpAny (model PR w) ((A.deeper (envOf name scope L a cd)).mark (some (.ref e))) (storeName (envOf name scope L a cd) n (.ref e)) (fun _ s₂ =>
        wpAny (model PR w) ((A.deeper (envOf name scope L a cd)).mark (some (.ref e))) (execs (b₀ :: suite) (envOf name scope L a cd))
          (fun f s₃ => wpAny (model PR w) (A.deeper (envOf name scope L a cd)) (do bindName (envOf name scope L a cd) n .none; unbindBehindTheSuite (envOf name scope L a cd) n pos) (fun _ s₄ => Q f s₄) E s₃) (fun _ _ => False) s₂) (fun _ _ => False) { s' with heap := h' })
    (hk : scope.kind = .function := by rfl) (hx : (envOf name scope L a cd).kindOf (Str.ofString "CheckFault") = some .globalImplicit := by rfl) :
    wpAny (model PR w) (A.deeper (envOf name scope L a cd)) (noteFrame (.ref e) (envOf name scope L a cd))
      (fun _ s₂ => wpAny (model PR w) (A.deeper (envOf name scope L a cd)) (setFlight (.ref e) none) (fun _ s₃ =>
        wpAny (model PR w) (A.deeper (envOf name scope L a cd)) (handleBy (.ref e) (envOf name scope L a cd) (.ExceptHandler (some (.Name (Str.ofString "CheckFault") np)) (some n) (b₀ :: suite) pos :: rest)) Q E s₃) E s₂) E s' := by
  have hfr : (A.deeper (envOf name scope L a cd)).frames = some (envOf name scope L a cd :: outer) := Around.frames_deeper hst
  have hS : ∀ x ∈ fsOf (envOf name scope L a cd :: outer), x ∈ fsOf (envOf name scope L a cd :: outer) ∨ h.get? x = none := fun x hx => .inl hx
  have fr : ∀ h', UpTo (fsOf (envOf name scope L a cd :: outer)) h h' → Fr b L h' m := fun h' u => ⟨u.ns F.ns, u.stays F.keep fun x hx => by
    rw [fsOf_cons (L := L) rfl] at hx
    rcases List.mem_cons.mp hx with rfl | hx
    · cases hq : b.get? x with
      | none => rfl
      | some o => exact absurd (Nat.lt_of_lt_of_le (Heap.lt_size hq) F.above) (Nat.lt_irrefl _)
    · exact bf x hx, F.above⟩
  refine note_on hfr l rfl hS U Y fun h₁ U₁ l₁ Y₁ _ => ?_
  refine land l₁ U₁ Y₁ fun h₂ U₂ l₂ Y₂ _ => ?_
  have F₂ := fr h₂ U₂
  have X₂ := X.keeps F₂.keep
  obtain ⟨⟨oe, es, kk, t, I, hw⟩, lk⟩ := Y₂.caught
  refine wpAny_handleBy_cons (codeAny_handlers_test (name_K F₂ X (topRead_of T) (by k_is) ?_ hk hx)) (by intro q; cases q)
  refine wpAny_excMatches_sub_self (C := 60) (X₂ _ _ (by with_unfolding_all rfl)) I.at_ I.cls (by decide +kernel) (codeAny_handlers_suite_as ?_)
  refine land l₂ U₂ Y₂ fun h₃ U₃ l₃ Y₃ _ => ?_
  exact wpAny_mono (k h₃ U₃ Y₃) (fun _ _ x => wpAny_mono x (fun _ _ x => x) fun _ _ x => x.elim) fun _ _ x => x.elim
end
section
variable {w : World} {A : Around} {g h s₀ b : Heap} {outer : List Env} {mean : ExcName → Option Value} {mg mb : Str → Option Value} {n : Nat} {L : Addr} {m : Str → Option Value} {nx frs news : List (Addr × Obj)}
theorem Amb.mark {v : Option Value} {base : Heap} (M : Amb w A base outer mean mg mb h n) : Amb w (A.mark v) base outer mean mg mb h n := ⟨M.X, M.T, ⟨M.B.stack, M.B.stays, M.B.frames⟩, M.depth, M.units⟩
theorem AmbF.mark {v : Option Value} (M : AmbF w A g outer mean mg mb h n) : AmbF w (A.mark v) g outer mean mg mb h n := ⟨M.M.mark, M.X, M.T, M.dicts⟩

noncomputable abbrev tupObj (x y : Value) (k : Nat) : Obj := { cls := .type "tuple", data := .seq #[x, y] k }
/-- the faults of a list: pairs in the ledger, whose second parts are these names -/
inductive FaultsIn (tps : List (Addr × Obj)) : List Value → List Str → Prop
  | nil : FaultsIn tps [] []
  | cons {a : Addr} {wt : Str} {tw tn : Tok} {k : Nat} {nm : Str} {vs : List Value} {ns : List Str} : (a, tupObj (.str wt tw) (.str nm tn) k) ∈ tps → FaultsIn tps vs ns → FaultsIn tps (.ref a :: vs) (nm :: ns)
theorem FaultsIn.mono {tps tps' : List (Addr × Obj)} {vs : List Value} {ns : List Str} (f : FaultsIn tps vs ns) (k : ∀ p ∈ tps, p ∈ tps') : FaultsIn tps' vs ns := by
  induction f with
  | nil => exact .nil
  | cons h _ ih => exact .cons (k _ h) ih
theorem FaultsIn.append {tps : List (Addr × Obj)} {vs vs' : List Value} {ns ns' : List Str} (f : FaultsIn tps vs ns) (f' : FaultsIn tps vs' ns') : FaultsIn tps (vs ++ vs') (ns ++ ns') := by
  induction f with
  | nil => exact f'
  | cons h _ ih => exact .cons h ih
theorem FaultsIn.len {tps : List (Addr × Obj)} {vs : List Value} {ns : List Str} (f : FaultsIn tps vs ns) : vs.length = ns.length := by
  induction f with
  | nil => rfl
  | cons h _ ih => simp [ih]
/-- a call gave a new list of faults with these names -/
structure Gave (s₀ h : Heap) (l : Addr) (names : List Str) (vs : List Value) (k : Nat) (tps : List (Addr × Obj)) : Prop where
  at_ : h.get? l = some (listOf vs.toArray k)
  new : s₀.get? l = none
  faults : FaultsIn tps vs names
  pairs : ∀ p ∈ tps, h.get? p.1 = some p.2 ∧ s₀.get? p.1 = none ∧ ∃ x y j, p.2 = tupObj x y j
/-- what the caller's frame holds after such a call -/
theorem Gave.back {s₁ h' : Heap} {l : Addr} {names : List Str} {vs : List Value} {k : Nat} {tps : List (Addr × Obj)} (G : Gave s₁ h' l names vs k tps) (F : Fr b L s₁ m) (N : News b L s₁ (nx ++ frs)) (hf : FrsOf s₀ outer frs) (hnx : ∀ p ∈ nx, p.1 ∉ fsOf outer) (bf : ∀ a ∈ fsOf outer, b.get? a = none) (U : UpTo (L :: fsOf outer) s₁ h') :
    ∃ frs', FrsOf s₀ outer frs' ∧ Fr b L h' m ∧ News b L h' ((l, listOf vs.toArray k) :: (nx ++ (tps ++ frs'))) ∧ (∀ p ∈ nx, p.1 ≠ l) ∧ (∀ p ∈ tps, ∀ q ∈ nx, q.1 ≠ p.1) ∧ ∀ p ∈ tps ++ frs', p.1 ≠ l := by
  obtain ⟨frs', hf', F', N'⟩ := frs_back F N hf hnx bf U
  have new : ∀ a o, h'.get? a = some o → s₁.get? a = none → News b L h' [(a, o)] := by
    intro a o e n p hp
    rw [List.mem_singleton.mp hp]
    refine ⟨e, ?_, ?_⟩
    · rintro rfl
      obtain ⟨o', _, _, q, _⟩ := F.ns
      rw [n] at q; cases q
    · cases q : b.get? a with
      | none => rfl
      | some o' => have := F.keep _ _ q; rw [n] at this; cases this
  refine ⟨frs', hf', F', ?_, ?_, ?_, ?_⟩
  · intro p hp
    rcases List.mem_cons.mp hp with rfl | hp
    · exact new _ _ G.at_ G.new _ (.head _)
    · rcases List.mem_append.mp hp with hp | hp
      · exact N' p (List.mem_append_left _ hp)
      · rcases List.mem_append.mp hp with hp | hp
        · exact new _ _ (G.pairs p hp).1 (G.pairs p hp).2.1 _ (.head _)
        · exact N' p (List.mem_append_right _ hp)
  · intro p hp e
    have := (N p (List.mem_append_left _ hp)).1
    rw [e, G.new] at this; cases this
  · intro p hp q hq e
    have := (N q (List.mem_append_left _ hq)).1
    rw [e, (G.pairs p hp).2.1] at this; cases this
  · intro p hp e
    rcases List.mem_append.mp hp with hp | hp
    · obtain ⟨h1, _, x, y, j, q⟩ := G.pairs p hp
      rw [e, G.at_, q] at h1
      have h2 := congrArg Obj.cls (Option.some.inj h1)
      have h3 := Value.type.inj h2
      exact absurd h3 (by decide)
    · have h1 := (N' p (List.mem_append_right _ hp)).1
      obtain ⟨o, _, ⟨es, ep, d⟩, sl, z⟩ := hf'.2 p hp
      rw [e, G.at_] at h1
      have : p.2.data = .dict es ep := by rw [z]; exact d
      rw [← Option.some.inj h1] at this
      cases this
end
end T_E7
section T_E8
set_option maxHeartbeats 600000
set_option maxRecDepth 100000
structure Ix (w : World) (h : Heap) (xd : Addr) (kvs : List (Str × Value)) : Prop where
  lo : (xd == sysModules) = false
  tab : h.DictOf (strKind PR w) xd kvs
theorem Ix.keeps {w : World} {g h : Heap} {xd : Addr} {kvs : List (Str × Value)} (I : Ix w g xd kvs) (k : ∀ b o, g.get? b = some o → h.get? b = some o) : Ix w h xd kvs :=
  ⟨I.lo, by obtain ⟨o, es, ep, e, r⟩ := I.tab; exact ⟨o, es, ep, k _ _ e, r⟩⟩
noncomputable def hasIx (kvs : List (Str × Value)) (nm : Str) : Bool := (valueAt kvs nm).isSome
theorem in_ix {w : World} {A : Around} {s : Shared} {E : Value → Shared → Prop} {xd : Addr} {kvs : List (Str × Value)} {x : Str} {t : Tok} {Q : Value → Shared → Prop} (I : Ix w s.heap xd kvs) (h : Q (.bool (hasIx kvs x)) { s with toks := s.toks + 1 }) :
    wpAny (model PR w) A (compareOp .In (.str x t) (.ref xd)) Q E s :=
  wpAny_in_of (strKind_is PR w x t) I.lo I.tab.mapOf h
/-- a reference, as the text reads it -/
structure RefAt (h : Heap) (a : Addr) (nm : Str) (tn : Tok) (q sb : Addr) (us : List Str) (sv : List Value) (part : Value) : Prop where
  tup : ∃ t0, Tpl h a [.str (Str.ofString "ref") t0, .str nm tn, .ref q, .ref sb, part]
  quals : ∃ qv, Tpl h q qv ∧ StrsAre qv us
  subs : Tpl h sb sv
  short : us.length < 1000
  name : nm.length ≤ 100
  few : sv.length < 1000
theorem RefAt.keeps {g h : Heap} {a : Addr} {nm : Str} {tn : Tok} {q sb : Addr} {us : List Str} {sv : List Value} {part : Value} (I : RefAt g a nm tn q sb us sv part) (k : ∀ b o, g.get? b = some o → h.get? b = some o) : RefAt h a nm tn q sb us sv part := by
  w_top off
  obtain ⟨⟨t0, a⟩, ⟨qv, b, c⟩, d, e, f, z⟩ := I
  exact ⟨⟨t0, a.keeps k⟩, ⟨qv, b.keeps k, c⟩, d.keeps k, e, f, z⟩
theorem strs_empty {vs : List Value} {us : List Str} (h : StrsAre vs us) : vs.isEmpty = us.isEmpty := by cases h <;> rfl
noncomputable def isIx (kvs : List (Str × Value)) (nm : Str) (us : List Str) : Bool := us.isEmpty && hasIx kvs nm
local macro_rules | `(tactic| walk_at "compareOp In str ref") => `(tactic| (k_here; refine in_ix (Ix.keeps (by assumption) (Fr.keep (by assumption))) ?_))
section
variable {w : World} {A : Around} {base : Heap} {outer : List Env} {mean : ExcName → Option Value} {mg mb : Str → Option Value} {s : Shared} {n : Nat} {R : Result → Shared → Prop}
theorem isix_code {data root xd a q sb : Addr} {nm : Str} {tn : Tok} {us : List Str} {sv : List Value} {part : Value} {kvs : List (Str × Value)}
   (M : Amb w A base outer mean mg mb s.heap 5) (D : DataAt s.heap data root xd) (I : Ix w s.heap xd kvs) (RF : RefAt s.heap a nm tn q sb us sv part)
   (hR : ∀ h' tk, s.heap.StaysIn h' → R (.ok (.ret (.bool (isIx kvs nm us)))) { s with heap := h', toks := tk }) :
   codeAny (model PR w) A (.call (.ref 249) ⟨[.ref data, .ref a], []⟩) R s := by
  have X := M.X
  have T := M.T
  have B := M.B
  obtain ⟨fd, wl, ll, ox, es, n0, ⟨D1, D2, D3, D4, D5, ⟨kd, D6⟩, D7, D8, D9⟩⟩ := D
  obtain ⟨⟨t0, RT⟩, ⟨qv, RQ, RS⟩, RB, _, _, _⟩ := RF
  have he := strs_empty RS
  cases hu : us.isEmpty with
  | true =>
    rw [hu] at he
    refine enter (rb := [(Str.ofString "operand", .ref a), (Str.ofString "data", .ref data)]) M (by with_unfolding_all rfl) (by k_is) (BindsTo.of_eq rfl) (locs rfl) (by decide) ?_
    intro L h₁ tk hL F N
    with_reducible refine post_gen ?_
    intro Q₀ hQ₀
    (repeat' ((((fail_if_success (with_reducible show wpAny _ _ (exec (Stmt.While _ _ _ _) _) _ _ _)); (fail_if_success (with_reducible show wpAny _ _ (pyIter _) (fun it s₂ => LoopAtV _ _ _ _ _ _ _ _ _ it s₂) _ _)); (fail_if_success (with_reducible show wpAny _ _ (eval (Expr.ListComp _ _ _ _) _) _ _ _)); (fail_if_success (with_reducible show Exists _)))); first | (k_unfold; (try dsimp only)) | walk1 | (dsimp only; walk1) | fail "no step"))
    rename Fr _ _ _ _ => F₃
    have e : isIx kvs nm us = hasIx kvs nm := by unfold isIx; rw [hu]; rfl
    rw [← e]
    refine hQ₀ _ _ ?_
    exact hR _ _ F₃.keep
  | false =>
    rw [hu] at he
    refine enter (rb := [(Str.ofString "operand", .ref a), (Str.ofString "data", .ref data)]) M (by with_unfolding_all rfl) (by k_is) (BindsTo.of_eq rfl) (locs rfl) (by decide) ?_
    intro L h₁ tk hL F N
    with_reducible refine post_gen ?_
    intro Q₀ hQ₀
    (repeat' ((((fail_if_success (with_reducible show wpAny _ _ (exec (Stmt.While _ _ _ _) _) _ _ _)); (fail_if_success (with_reducible show wpAny _ _ (pyIter _) (fun it s₂ => LoopAtV _ _ _ _ _ _ _ _ _ it s₂) _ _)); (fail_if_success (with_reducible show wpAny _ _ (eval (Expr.ListComp _ _ _ _) _) _ _ _)); (fail_if_success (with_reducible show Exists _)))); first | (k_unfold; (try dsimp only)) | walk1 | (dsimp only; walk1) | fail "no step"))
    rename Fr _ _ _ _ => F₃
    have e : isIx kvs nm us = false := by unfold isIx; rw [hu]; rfl
    rw [← e]
    refine hQ₀ _ _ ?_
    exact hR _ _ F₃.keep
end
end T_E8
section T_E8g
open PySem PySem.W PyProof.Rows PySem.Calls PySem.Spec
open Builtin Builtin.ObjectAttr
set_option maxRecDepth 100000
set_option maxHeartbeats 600000
section
variable {prog : Program} {w : World} {A : Around} {K : Frag} {C D x : Addr} {s : Shared} {E : Value → Shared → Prop}
theorem getE {ox : Obj} {od : Option Obj} {name : Str} {v : Value} {expr : Bool} {cd : ClassData} {Q : Value → Shared → Prop} (X : K.In s.heap) (I : InstAt s.heap x ox C od) (hga : findIn K (.ref C) "__getattribute__" = some (some (.builtin "BaseException.__getattribute__")))
    (hk : findIn K (.ref C) "__getattr__" = some none) (hc : clsIn K C = some cd) (hcm : cd.mro = excMro C D)
    (hf : findObj K C od name = some (.value v)) (hh : handedIn v = true) (h : Q v { s with toks := s.toks + 1 }) : wpAny (model prog w) A (getAttr (.ref x) name expr) Q E s := by
  obtain ⟨hp, g, d, t, os⟩ := s
  have FX := PySem.F.attr_Exception
  have L0 := I.type (M := model prog w)
  have L1 := looks_findIn (M := model prog w) X hga
  have L2 := looks_findIn (M := model prog w) X hk
  have L3 := looks_find (M := model prog w) X I hf
  have ne : cd.mro.isEmpty = false := by rw [hcm]; rfl
  have sub : Looks (model prog w) hp (isInstance (.ref x) (.type "BaseException")) true := I.type.andThen (looks_mroIn X (by unfold mroIn; rw [hc, Option.bind_some, if_neg (by rw [ne]; decide), hcm, only_exc (by decide +kernel)]))
  have hx0 : (expr && onTheHeap (Value.builtin "BaseException.__getattribute__")) = false := by cases expr <;> rfl
  have hx2 : (Value.builtin "BaseException.__getattribute__" == Value.builtin "object.__getattribute__") = false := by decide +kernel
  unfold getAttr getAttrBy
  refine wpAny_bind (wpAny_mkText (wpAny_holding (wpAny_bind (L0.at (wpAny_bind (L1.at ?_))))))
  dsimp only
  rw [if_neg (by rw [hx2, Bool.and_false]; decide)]
  unfold getAttrByItsOwn
  refine wpAny_bind (show wpAny _ _ (typeLookup (.ref C) "__getattr__") _ _ _ from L2.at ?_)
  refine wpAny_bind (wpAny_attempt (wpAny_holding ?_))
  unfold callGetattribute
  rw [hx0, if_neg (by decide)]
  unfold boundAndCalled
  rw [FX.ga.bind]
  refine wpAny_bind (wpAny_pure ?_)
  have hkd : builtinKind "BaseException.__getattribute__" = some .slot := by decide +kernel
  have hsp : splitId "BaseException.__getattribute__" = some ("BaseException", "__getattribute__") := by decide +kernel
  refine wpAny_call (codeAny_call_builtin FX.ga.plain PySem.F.entry_bexc_ga (@check_slot (model prog w) _ _ ⟨hp, g, d, t + 1, os⟩ "BaseException.__getattribute__" "BaseException" "__getattribute__" (.ref x) [.str name t] [] _ hkd hsp sub (PySem.F.args_bexc_ga _ _) ?_))
  unfold Builtin.«object.__getattribute__»
  refine wpAny_bind (wpAny_of_eq (a := (.ref x, [.str name t])) (by kernel_rfl) ?_)
  refine wpAny_bind (wpAny_of_eq (a := name) (by kernel_rfl) ?_)
  refine wpAny_bind (L0.at (wpAny_bind (L3.at ?_)))
  refine wpAny_pure ?_
  show wpAny _ _ (handedOut v) _ _ _
  rw [handedOut_of hh]; exact wpAny_pure h
end
end T_E8g
local macro_rules | `(tactic| walk_at "M sub") => `(tactic| (intro pf hpf; repeat (first | exact hpf | refine List.mem_append_right _ ?_ | refine List.Mem.tail _ ?_)))
local macro_rules | `(tactic| walk_at "M ambF") => `(tactic| (refine AmbF.inn (by assumption) (by assumption) (by assumption) (by assumption) ?_ (by assumption); walk_at "M sub"))
section T_E9
set_option maxHeartbeats 600000
set_option maxRecDepth 100000
noncomputable def found (its : List It) (nm : Str) (us : List Str) : Value := match hits its nm us with | [it] => .ref it.a | _ => .none
section
variable {w : World} {A : Around} {g : Heap} {outer : List Env} {mean : ExcName → Option Value} {mg mb : Str → Option Value} {s : Shared} {n : Nat} {R : Result → Shared → Prop}
theorem itemof_code {data root xd a q sb : Addr} {nm : Str} {tn : Tok} {us : List Str} {sv : List Value} {part : Value} {its : List It}
   (MF : AmbF w A g outer mean mg mb s.heap 14) (H : HOK A s.heap) (D : DataAt g data root xd) (TR : Tree g root its) (RF : RefAt g a nm tn q sb us sv part)
   (hR : ∀ h' tk, UpTo (fsOf outer) s.heap h' → R (.ok (.ret (found its nm us))) { s with heap := h', toks := tk }) :
   codeAny (model PR w) A (.call (.ref 242) ⟨[.ref data, .ref a], []⟩) R s := by
  w_top off
  have M := MF.M
  have B := M.B
  refine enter (rb := [((Str.ofString "ref"), .ref a), ((Str.ofString "data"), .ref data)]) M (by with_unfolding_all rfl) (by k_is) (BindsTo.of_eq rfl) (locs rfl) (by decide) ?_
  intro L h₁ tk hL F N
  with_reducible refine post_gen ?_
  intro Q₀ hQ₀
  obtain ⟨frs, hf, F₁, N₁, gb⟩ := frs_start MF F
  clear F N
  have X := MF.X.keeps gb
  have T := MF.T.keeps gb
  replace D := D.keeps gb
  replace TR := TR.keeps gb
  obtain ⟨⟨t0, RT⟩, ⟨qv, RQ, RS⟩, RB, hsh, hnl, _⟩ := RF.keeps gb
  (repeat' ((((fail_if_success (with_reducible show wpAny _ _ (exec (Stmt.While _ _ _ _) _) _ _ _)); (fail_if_success (with_reducible show wpAny _ _ (pyIter _) (fun it s₂ => LoopAtV _ _ _ _ _ _ _ _ _ it s₂) _ _)); (fail_if_success (with_reducible show wpAny _ _ (eval (Expr.ListComp _ _ _ _) _) _ _ _)); (fail_if_success (with_reducible show Exists _)))); first | (k_unfold; (try dsimp only)) | walk1 | (dsimp only; walk1) | fail "no step"))
  have bf : ∀ a ∈ fsOf outer, (cut s.heap (fsOf outer)).get? a = none := fun a ha => cut_none ha
  refine wpAny_callA (find_code (Amb.down (AmbF.M (AmbF.inn MF F₁ N₁ hf (fun _ h => h) gb)) (by decide)) (HOK.inn (HOK.cutF MF H) F₁) (D.keeps F₁.keep) (TR.keeps F₁.keep) hnl (RQ.keeps F₁.keep) RS hsh ?_ ?_)
  · intro it h' tk' hh st
    have F' := Fr.keeps F₁ st
    have N' := News.grown N₁ st
    have e : found its nm us = .ref it.a := by unfold found; rw [hh]
    rw [← e]
    refine hQ₀ _ _ ?_
    exact hR _ _ (frs_end F' N' hf fun _ h => h)
  · intro e what h' tk' hne U l Y
    have en : found its nm us = .none := by
      unfold found
      split
      · rename_i it hh; rw [hh] at hne; exact absurd rfl hne
      · rfl
    refine handle0 B.stack F₁ X T bf U l Y fun h₂ U₂ C₂ _ => ?_
    obtain ⟨frs₂, hf₂, F₂, N₂⟩ := frs_back (nx := []) F₁ N₁ hf (by simp) bf U₂
    clear F₁ N₁
    dsimp only [List.nil_append] at N₂
    (repeat' ((((fail_if_success (with_reducible show wpAny _ _ (exec (Stmt.While _ _ _ _) _) _ _ _)); (fail_if_success (with_reducible show wpAny _ _ (pyIter _) (fun it s₂ => LoopAtV _ _ _ _ _ _ _ _ _ it s₂) _ _)); (fail_if_success (with_reducible show wpAny _ _ (eval (Expr.ListComp _ _ _ _) _) _ _ _)); (fail_if_success (with_reducible show Exists _)))); first | (k_unfold; (try dsimp only)) | walk1 | (dsimp only; walk1) | fail "no step"))
    rw [← en]
    refine hQ₀ _ _ ?_
    exact hR _ _ (frs_end F₂ N₂ hf₂ fun _ h => h)
end
end T_E9
section T_EA
set_option maxHeartbeats 800000
set_option maxRecDepth 100000
/-- what part_faults gives for this reference -/
noncomputable def PartGives (w : World) (g : Heap) (mean : ExcName → Option Value) (mg mb : Str → Option Value) (d : Nat) (data a : Addr) (names : List Str) : Prop :=
  ∀ {A : Around} {outer : List Env} {s : Shared} {R : Result → Shared → Prop}, AmbF w A g outer mean mg mb s.heap d → HOK A s.heap →
    (∀ h' tk l vs k tps, UpTo (fsOf outer) s.heap h' → Gave s.heap h' l names vs k tps → R (.ok (.ret (.ref l))) { s with heap := h', toks := tk }) → codeAny (model PR w) A (.call (.ref 256) ⟨[.ref data, .ref a], []⟩) R s
/-- the names of the faults of a reference -/
noncomputable def refNames (its : List It) (kvs : List (Str × Value)) (nm : Str) (us : List Str) (subs : Nat) (part : Bool) (inner : List Str) (less : Int) : List Str :=
  if isIx kvs nm us then (if subs == 0 && !part then [] else [nm])
  else match hits its nm us with
    | [it] => inner ++ (if (subs : Int) = (deepOf it.us it.tab : Int) - less then [] else [nm])
    | _ => nm :: inner
theorem cut_fresh {s₀ h : Heap} {outer : List Env} {L : Addr} {news frs : List (Addr × Obj)} {p : Addr × Obj} (N : News (cut s₀ (fsOf outer)) L h news) (hf : FrsOf s₀ outer frs) (hs : ∀ p ∈ frs, p ∈ news) (hp : p ∈ news) (hd : ∀ es ep, p.2.data ≠ .dict es ep) : s₀.get? p.1 = none := by
  w_top off
  rw [← cut_of (frs_off N hf hs hp hd)]
  exact (N p hp).2.2
theorem Gave.of {s₀ h : Heap} {outer : List Env} {L l : Addr} {news frs tps : List (Addr × Obj)} {vs : List Value} {k : Nat} {names : List Str} (N : News (cut s₀ (fsOf outer)) L h news) (hf : FrsOf s₀ outer frs) (hs : ∀ p ∈ frs, p ∈ news)
    (hl : (l, listOf vs.toArray k) ∈ news) (ht : ∀ p ∈ tps, p ∈ news ∧ ∃ x y j, p.2 = tupObj x y j) (f : FaultsIn tps vs names) : Gave s₀ h l names vs k tps :=
  ⟨(N _ hl).1, cut_fresh N hf hs hl (by intro es ep e; cases e), f, fun p hp => ⟨(N p (ht p hp).1).1, cut_fresh N hf hs (ht p hp).1 (by obtain ⟨_, x, y, j, q⟩ := ht p hp; rw [q]; intro es ep e; cases e), (ht p hp).2⟩⟩
theorem deepOf_le (ps : List Up) (b : Bool) : deepOf ps b ≤ ps.length + 1 := by
  unfold deepOf
  have := List.length_filter_le Up.tab ps
  cases b <;> simp <;> (walk_at "M om")
theorem news_new {b h h' : Heap} {L a : Addr} {o : Obj} {m : Str → Option Value} (F : Fr b L h m) (e : h'.get? a = some o) (n : h.get? a = none) : News b L h' [(a, o)] := by
  intro p hp
  rw [List.mem_singleton.mp hp]
  refine ⟨e, ?_, ?_⟩
  · rintro rfl
    obtain ⟨o', _, _, q, _⟩ := F.ns
    rw [n] at q; cases q
  · cases q : b.get? a with
    | none => rfl
    | some o' => have := F.keep _ _ q; rw [n] at this; cases this
theorem Gave.snoc {s₀ h : Heap} {outer : List Env} {L l t : Addr} {q : Addr × Obj} {frs tps : List (Addr × Obj)} {vs : List Value} {names : List Str} {wt nm : Str} {tw tn : Tok} {k j : Nat}
    (N : News (cut s₀ (fsOf outer)) L h ((t, tupObj (.str wt tw) (.str nm tn) j) :: q :: (l, listOf (vs ++ [Value.ref t]).toArray k) :: (tps ++ frs))) (hf : FrsOf s₀ outer frs) (hp : ∀ p ∈ tps, ∃ x y j, p.2 = tupObj x y j) (f : FaultsIn tps vs names) :
    Gave s₀ h l (names ++ [nm]) (vs ++ [.ref t]) k ((t, tupObj (.str wt tw) (.str nm tn) j) :: tps) :=
  Gave.of N hf (fun p hp => memT3 (List.mem_append_right _ hp)) (mem2) (fun p hq => by
    rcases List.mem_cons.mp hq with rfl | hq
    · exact ⟨.head _, _, _, _, rfl⟩
    · exact ⟨memT3 (List.mem_append_left _ hq), hp p hq⟩) ((f.mono fun p hp => .tail _ hp).append (.cons (.head _) .nil))
theorem Gave.cons {s₀ h : Heap} {outer : List Env} {L l t : Addr} {q q' : Addr × Obj} {frs tps : List (Addr × Obj)} {vs : List Value} {names : List Str} {wt nm : Str} {tw tn : Tok} {k j : Nat}
    (N : News (cut s₀ (fsOf outer)) L h ((l, listOf (Value.ref t :: vs).toArray k) :: q :: q' :: (t, tupObj (.str wt tw) (.str nm tn) j) :: (tps ++ frs))) (hf : FrsOf s₀ outer frs) (hp : ∀ p ∈ tps, ∃ x y j, p.2 = tupObj x y j) (f : FaultsIn tps vs names) :
    Gave s₀ h l (nm :: names) (.ref t :: vs) k ((t, tupObj (.str wt tw) (.str nm tn) j) :: tps) :=
  Gave.of N hf (fun p hp => memT4 (List.mem_append_right _ hp)) (.head _) (fun p hq => by
    rcases List.mem_cons.mp hq with rfl | hq
    · exact ⟨mem3, _, _, _, rfl⟩
    · exact ⟨memT4 (List.mem_append_left _ hq), hp p hq⟩) (.cons (.head _) (f.mono fun p hp => .tail _ hp))
theorem Gave.one {s₀ h : Heap} {outer : List Env} {L l t : Addr} {frs rest : List (Addr × Obj)} {wt nm : Str} {tw tn : Tok} {k j : Nat} (N : News (cut s₀ (fsOf outer)) L h ((l, listOf (List.toArray [.ref t]) k) :: (t, tupObj (.str wt tw) (.str nm tn) j) :: rest)) (hf : FrsOf s₀ outer frs)
    (hs : ∀ p ∈ frs, p ∈ (l, listOf (List.toArray [.ref t]) k) :: (t, tupObj (.str wt tw) (.str nm tn) j) :: rest) : Gave s₀ h l [nm] [.ref t] k [(t, tupObj (.str wt tw) (.str nm tn) j)] :=
  Gave.of N hf hs (.head _) (fun p hp => by rw [List.mem_singleton.mp hp]; exact ⟨mem1, _, _, _, rfl⟩) (.cons (.head _) .nil)
local macro_rules | `(tactic| walk_at "call ref") => `(tactic| (k_here; apply wpAny_callA; apply isix_code; (refine' Amb.down (AmbF.M (n := _) ?X) ?y; (case X => walk_at "M ambF"); (case y => (walk_at "M om"))); walk_at "M kp"; exact Ix.keeps (by assumption) (Fr.keep (by assumption)); exact RefAt.keeps (by assumption) (Fr.keep (by assumption)); intro h' tk' st'; (with_reducible rename Fr _ _ _ _ => mF); (with_reducible rename News _ _ _ _ => mN); (have F' := Fr.keeps mF st'); (have N' := News.grown mN st'); clear st'; (try k_sweep); (try dsimp only)))
local macro_rules | `(tactic| walk_at "call ref") => `(tactic| (k_here; apply wpAny_callA; apply tables_code; (refine' Amb.down (AmbF.M (n := _) ?X) ?y; (case X => walk_at "M ambF"); (case y => (walk_at "M om"))); exact HOK.inn (HOK.cutF (by assumption) (by assumption)) (by assumption); walk_at "M kp"; assumption; walk_at "M kp"; (walk_at "M om"); intro lr ys kr h' tk' st' fr' gt' hlen'; revert lr kr h' tk' st' fr' gt'; walk_at "M back list"))
local macro_rules | `(tactic| walk_at "call builtin:list.append") => `(tactic| (k_here; k_dflt (apply append_K; k_asm; k_asm; k_upd; rotate_left; ((try rw [List.size_toArray]); rw [sizeLine_eq]; (walk_at "M om")); k_whole); intro h' F' N'; (try k_sweep)))
section
variable {w : World} {A : Around} {g : Heap} {outer : List Env} {mean : ExcName → Option Value} {mg mb : Str → Option Value} {s : Shared} {n : Nat} {R : Result → Shared → Prop}
theorem ref_code {data root xd a q sb : Addr} {nm : Str} {tn : Tok} {us : List Str} {sv : List Value} {part : Value} {its : List It} {kvs : List (Str × Value)} {args : Args} {less : Int} {tl : Tok} {inner : List Str} {d : Nat}
   (hargs : (args = ⟨[.ref data, .ref a], []⟩ ∧ less = 0 ∧ tl = 536) ∨ args = ⟨[.ref data, .ref a, .int less tl], []⟩)
   (MF : AmbF w A g outer mean mg mb s.heap (14 + d)) (H : HOK A s.heap) (D : DataAt g data root xd) (TR : Tree g root its) (I : Ix w g xd kvs) (RF : RefAt g a nm tn q sb us sv part) (hpt : part = .none ∨ ∃ p, part = .ref p)
   (hP : PartGives w g mean mg mb d data a inner) (hi : inner.length < 10000)
   (hR : ∀ h' tk l vs k tps, UpTo (fsOf outer) s.heap h' → Gave s.heap h' l (refNames its kvs nm us sv.length (part != .none) inner less) vs k tps → R (.ok (.ret (.ref l))) { s with heap := h', toks := tk }) :
   codeAny (model PR w) A (.call (.ref 264) args) R s := by
  have M := MF.M
  have B := M.B
  refine enter (rb := [((Str.ofString "less"), .int less tl), ((Str.ofString "ref"), .ref a), ((Str.ofString "data"), .ref data)]) (n := 13 + d) (by rw [show 13 + d + 1 = 14 + d by (walk_at "M om")]; exact M) (by with_unfolding_all rfl) (by k_is) ?hb (locs rfl) (by decide) ?_
  case hb =>
    rcases hargs with ⟨rfl, rfl, rfl⟩ | rfl
    · exact BindsTo.of_defaults rfl (M.X _ _ (by with_unfolding_all rfl)) rfl rfl (by with_unfolding_all rfl)
    · exact BindsTo.of_defaults rfl (M.X _ _ (by with_unfolding_all rfl)) rfl rfl (by with_unfolding_all rfl)
  intro L h₁ tk hL F N
  with_reducible refine post_gen ?_
  intro Q₀ hQ₀
  obtain ⟨frs, hf, F₁, N₁, gb⟩ := frs_start MF F
  clear F N
  have X := MF.X.keeps gb
  have T := MF.T.keeps gb
  have MF' : AmbF w A g outer mean mg mb s.heap (13 + d + 1) := by rw [show 13 + d + 1 = 14 + d by (walk_at "M om")]; exact MF
  replace D := D.keeps gb
  replace TR := TR.keeps gb
  replace I := I.keeps gb
  replace RF := RF.keeps gb
  have RF' := RF
  obtain ⟨⟨t0, RT⟩, ⟨qv, RQ, RS⟩, RB, hsh, hnl, _⟩ := RF'
  replace M := MF'.M
  cases hix : isIx kvs nm us with
  | true =>
    have hno : (sv.isEmpty = true ∧ part = .none ∧ refNames its kvs nm us sv.length (part != .none) inner less = []) ∨ (sv.isEmpty = true ∧ ∃ p, part = .ref p) ∧ refNames its kvs nm us sv.length (part != .none) inner less = [nm] ∨ sv.isEmpty = false ∧ refNames its kvs nm us sv.length (part != .none) inner less = [nm] := by
      unfold refNames
      rw [if_pos hix]
      cases sv with
      | nil =>
        rcases hpt with rfl | ⟨p, rfl⟩
        · exact .inl ⟨rfl, rfl, rfl⟩
        · exact .inr (.inl ⟨⟨rfl, p, rfl⟩, rfl⟩)
      | cons x r => exact .inr (.inr ⟨rfl, rfl⟩)
    rcases hno with ⟨he, rfl, hno⟩ | ⟨⟨he, p, rfl⟩, hno⟩ | ⟨he, hno⟩
    · (repeat' ((((fail_if_success (with_reducible show wpAny _ _ (exec (Stmt.While _ _ _ _) _) _ _ _)); (fail_if_success (with_reducible show wpAny _ _ (pyIter _) (fun it s₂ => LoopAtV _ _ _ _ _ _ _ _ _ it s₂) _ _)); (fail_if_success (with_reducible show wpAny _ _ (eval (Expr.ListComp _ _ _ _) _) _ _ _)); (fail_if_success (with_reducible show Exists _)))); first | (k_unfold; (try dsimp only)) | walk1 | (dsimp only; walk1) | fail "no step"))
      rename Fr _ _ _ _ => F₂
      rename News _ _ _ _ => N₂
      refine hQ₀ _ _ ?_
      refine hR _ _ _ [] 0 [] (frs_end F₂ N₂ hf ?_) (Gave.of N₂ hf ?_ (.head _) (by simp) ?_)
      · walk_at "M sub"
      · walk_at "M sub"
      · rw [hno]; exact .nil
    · (repeat' ((((fail_if_success (with_reducible show wpAny _ _ (exec (Stmt.While _ _ _ _) _) _ _ _)); (fail_if_success (with_reducible show wpAny _ _ (pyIter _) (fun it s₂ => LoopAtV _ _ _ _ _ _ _ _ _ it s₂) _ _)); (fail_if_success (with_reducible show wpAny _ _ (eval (Expr.ListComp _ _ _ _) _) _ _ _)); (fail_if_success (with_reducible show Exists _)))); first | (k_unfold; (try dsimp only)) | walk1 | (dsimp only; walk1) | fail "no step"))
      rename Fr _ _ _ _ => F₂
      rename News _ _ _ _ => N₂
      rw [hno] at hR
      refine hQ₀ _ _ ?_
      exact hR _ _ _ _ _ _ (frs_end F₂ N₂ hf (by walk_at "M sub")) (Gave.one N₂ hf (by walk_at "M sub"))
    · (repeat' ((((fail_if_success (with_reducible show wpAny _ _ (exec (Stmt.While _ _ _ _) _) _ _ _)); (fail_if_success (with_reducible show wpAny _ _ (pyIter _) (fun it s₂ => LoopAtV _ _ _ _ _ _ _ _ _ it s₂) _ _)); (fail_if_success (with_reducible show wpAny _ _ (eval (Expr.ListComp _ _ _ _) _) _ _ _)); (fail_if_success (with_reducible show Exists _)))); first | (k_unfold; (try dsimp only)) | walk1 | (dsimp only; walk1) | fail "no step"))
      rename Fr _ _ _ _ => F₂
      rename News _ _ _ _ => N₂
      rw [hno] at hR
      refine hQ₀ _ _ ?_
      exact hR _ _ _ _ _ _ (frs_end F₂ N₂ hf (by walk_at "M sub")) (Gave.one N₂ hf (by walk_at "M sub"))
  | false =>
    (repeat' ((((fail_if_success (with_reducible show wpAny _ _ (exec (Stmt.While _ _ _ _) _) _ _ _)); (fail_if_success (with_reducible show wpAny _ _ (pyIter _) (fun it s₂ => LoopAtV _ _ _ _ _ _ _ _ _ it s₂) _ _)); (fail_if_success (with_reducible show wpAny _ _ (eval (Expr.ListComp _ _ _ _) _) _ _ _)); (fail_if_success (with_reducible show Exists _)))); first | (k_unfold; (try dsimp only)) | walk1 | (dsimp only; walk1) | fail "no step"))
    rename Fr _ _ _ _ => F₂
    rename News _ _ _ _ => N₂
    have bf : ∀ a ∈ fsOf outer, (cut s.heap (fsOf outer)).get? a = none := fun a ha => cut_none ha
    refine wpAny_callA (find_code (Amb.down (AmbF.M (AmbF.inn MF' F₂ N₂ hf (fun _ h => h) gb)) (by (walk_at "M om"))) (HOK.inn (HOK.cutF MF H) F₂) (D.keeps F₂.keep) (TR.keeps F₂.keep) hnl (RQ.keeps F₂.keep) RS hsh ?_ ?_)
    · intro it h' tk' hh st
      have F₃ := Fr.keeps F₂ st
      have N₃ := News.grown N₂ st
      clear F₂ N₂ st
      have hni : refNames its kvs nm us sv.length (part != .none) inner less = inner ++ (if (sv.length : Int) = (deepOf it.us it.tab : Int) - less then [] else [nm]) := by
        unfold refNames; rw [if_neg (by rw [hix]; decide), hh]
      (repeat' ((((fail_if_success (with_reducible show wpAny _ _ (exec (Stmt.While _ _ _ _) _) _ _ _)); (fail_if_success (with_reducible show wpAny _ _ (pyIter _) (fun it s₂ => LoopAtV _ _ _ _ _ _ _ _ _ it s₂) _ _)); (fail_if_success (with_reducible show wpAny _ _ (eval (Expr.ListComp _ _ _ _) _) _ _ _)); (fail_if_success (with_reducible show Exists _)))); first | (k_unfold; (try dsimp only)) | walk1 | (dsimp only; walk1) | fail "no step"))
      rename Fr _ _ _ _ => F₄
      rename News _ _ _ _ => N₄
      refine wpAny_callA (hP (AmbF.down (AmbF.inn MF' F₄ N₄ hf (fun _ h => h) gb) (by (walk_at "M om"))) (HOK.inn (HOK.cutF MF H) F₄) fun h₅ tk₅ l vs k tps U G => ?_)
      obtain ⟨frs₅, hf₅, F₅, N₅, _, _, hoff⟩ := G.back (nx := []) F₄ N₄ hf (by simp) bf U
      have hvl := G.faults.len
      have hit : it ∈ its := by
        have : it ∈ hits its nm us := by rw [hh]; exact .head _
        exact (List.mem_filter.mp (List.mem_filter.mp this).1).1
      obtain ⟨par', occ', kids', shp', ⟨hIt, htb, hho, hli, hsh', hpl, hsp⟩⟩ := TR.ok it hit
      have hdp : deepOf it.us (occ' != .none) < 1000 := by have := deepOf_le it.us (occ' != .none); (walk_at "M om")
      have hpairs := G.pairs
      have hflt := G.faults
      clear F₄ N₄ hf U G
      dsimp only [List.nil_append] at N₅
      (repeat' ((((fail_if_success (with_reducible show wpAny _ _ (exec (Stmt.While _ _ _ _) _) _ _ _)); (fail_if_success (with_reducible show wpAny _ _ (pyIter _) (fun it s₂ => LoopAtV _ _ _ _ _ _ _ _ _ it s₂) _ _)); (fail_if_success (with_reducible show wpAny _ _ (eval (Expr.ListComp _ _ _ _) _) _ _ _)); (fail_if_success (with_reducible show Exists _)))); first | (k_unfold; (try dsimp only)) | walk1 | (dsimp only; walk1) | fail "no step"))
      · rename Fr _ _ _ _ => F₆
        rename News _ _ _ _ => N₆
        rename (sv.length : Int) ≠ _ => hcmp
        have hni2 : refNames its kvs nm us sv.length (part != .none) inner less = inner ++ [nm] := by
          rw [hni, if_neg (by rw [htb]; exact hcmp)]
        rw [hni2] at hR
        rw [show vs.toArray.push _ = (vs ++ [_]).toArray from (List.push_toArray _ _)] at N₆
        refine hQ₀ _ _ ?_
        exact hR _ _ l _ _ _ (frs_end F₆ N₆ hf₅ (by walk_at "M sub")) (Gave.snoc N₆ hf₅ (fun p hp => (hpairs p hp).2.2) hflt)
      · rename Fr _ _ _ _ => F₆
        rename News _ _ _ _ => N₆
        rename (sv.length : Int) = _ => hcmp
        have hni2 : refNames its kvs nm us sv.length (part != .none) inner less = inner := by
          rw [hni, if_pos (by rw [htb]; exact hcmp), List.append_nil]
        rw [hni2] at hR
        refine hQ₀ _ _ ?_
        exact hR _ _ l vs k tps (frs_end F₆ N₆ hf₅ (by walk_at "M sub")) (Gave.of N₆ hf₅ (by walk_at "M sub") (mem1) (fun p hp => ⟨memT2 (List.mem_append_left _ hp), (hpairs p hp).2.2⟩) hflt)
    · intro e what h' tk' hne U l Y
      have hni : refNames its kvs nm us sv.length (part != .none) inner less = nm :: inner := by
        unfold refNames
        rw [if_neg (by rw [hix]; decide)]
        split
        · rename_i it hh; rw [hh] at hne; exact absurd rfl hne
        · rfl
      refine handleB B.stack F₂ X T bf U l Y fun h₂ U₂ Y₂ => ?_
      obtain ⟨frs₂, hf₂, F₃, N₃⟩ := frs_back (nx := []) F₂ N₂ hf (by simp) bf U₂
      obtain ⟨oe, evs, dx, es, ek, et, tb, ec, Z⟩ := Y₂
      dsimp only [List.nil_append] at N₃
      replace N₃ := News.app (news_new F₂ Z.at_ Z.fe) (News.app (news_new F₂ Z.dat Z.fd) N₃)
      dsimp only [List.cons_append, List.nil_append] at N₃
      have hokE : ∀ h₆, (∀ a o, (cut s.heap (fsOf outer)).get? a = some o → h₆.get? a = some o) → h₆.get? e = some oe → HOK (A.mark (some (.ref e))) h₆ := by
        intro h₆ F₆ he v hv
        have : v = .ref e := by
          have z : (some (Value.ref e)).or A.handled = some v := hv
          cases z; rfl
        subst this
        refine ⟨e, rfl, ?_⟩
        rcases Z.chain with rfl | q
        · exact .last ⟨oe, evs, he, Z.data, Z.ctx⟩
        · obtain ⟨e', rfl, ch⟩ := HOK.cutF MF H ec q
          exact .next ⟨oe, evs, he, Z.data, Z.ctx⟩ (ch.keeps F₆)
      have hoeC : notCls oe = true := by unfold notCls; rw [Z.data]
      clear F₂ N₂ hf U₂ U
      (repeat' ((((fail_if_success (with_reducible show wpAny _ _ (exec (Stmt.While _ _ _ _) _) _ _ _)); (fail_if_success (with_reducible show wpAny _ _ (pyIter _) (fun it s₂ => LoopAtV _ _ _ _ _ _ _ _ _ it s₂) _ _)); (fail_if_success (with_reducible show wpAny _ _ (eval (Expr.ListComp _ _ _ _) _) _ _ _)); (fail_if_success (with_reducible show Exists _)))); first | (k_unfold; (try dsimp only)) | walk1 | (dsimp only; walk1) | fail "no step"))
      rename Fr _ _ _ _ => F₄
      rename News _ _ _ _ => N₄
      have I₄ : InstAt _ e oe 60 (some (dictOf es ek)) := ⟨(N₄ _ (.head _)).1, Z.cls, hoeC, by rw [Z.dict]; exact (N₄ _ (mem1)).1⟩
      refine getE (X.keeps F₄.keep) I₄ (by k_is) (by k_is) rfl rfl (findObj_own (by k_is) (by k_is) (by k_is) Z.what) rfl ?_
      (repeat' ((((fail_if_success (with_reducible show wpAny _ _ (exec (Stmt.While _ _ _ _) _) _ _ _)); (fail_if_success (with_reducible show wpAny _ _ (pyIter _) (fun it s₂ => LoopAtV _ _ _ _ _ _ _ _ _ it s₂) _ _)); (fail_if_success (with_reducible show wpAny _ _ (eval (Expr.ListComp _ _ _ _) _) _ _ _)); (fail_if_success (with_reducible show Exists _)))); first | (k_unfold; (try dsimp only)) | walk1 | (dsimp only; walk1) | fail "no step"))
      rename Fr _ _ _ _ => F₆
      rename News _ _ _ _ => N₆
      rename_i ti _ _ li _ _
      have he6 := (N₆ (e, oe) (mem2)).1
      have hH := hokE _ F₆.keep he6
      replace N₆ := news_sub N₆ (l' := [(li, listOf (List.toArray [.ref ti]) 0), (ti, tupObj (.str what et) (.str nm tn) 0)] ++ frs₂) (by
        intro p hp
        dsimp only [List.cons_append, List.nil_append] at hp
        rcases List.mem_cons.mp hp with rfl | hp
        · exact .head _
        · rcases List.mem_cons.mp hp with rfl | hp
          · exact mem1
          · exact memT4 hp)
      have hsub : ∀ p ∈ frs₂, p ∈ [(li, listOf (List.toArray [.ref ti]) 0), (ti, tupObj (.str what et) (.str nm tn) 0)] ++ frs₂ := fun p hp => List.mem_append_right _ hp
      refine wpAny_callA (hP (AmbF.down (AmbF.mark (AmbF.inn MF' F₆ N₆ hf₂ hsub gb)) (by (walk_at "M om"))) (HOK.keeps (A := ((A.deeper _).mark _)) hH fun _ _ e => e) fun h₅ tk₅ l vs k tps U G => ?_)
      obtain ⟨frs₅, hf₅, F₅, N₅, hl5, _, hoff⟩ := G.back F₆ N₆ hf₂ (fun p hp => frs_off N₆ hf₂ hsub (List.mem_append_left _ hp) (by
        rcases List.mem_cons.mp hp with rfl | hp
        · intro es ep z; cases z
        · rw [List.mem_singleton.mp hp]; intro es ep z; cases z)) bf U
      have hvl := G.faults.len
      have hpairs := G.pairs
      have hflt := G.faults
      clear F₆ N₆ hf₂ U G
      dsimp only [List.cons_append, List.nil_append] at N₅
      (repeat' ((((fail_if_success (with_reducible show wpAny _ _ (exec (Stmt.While _ _ _ _) _) _ _ _)); (fail_if_success (with_reducible show wpAny _ _ (pyIter _) (fun it s₂ => LoopAtV _ _ _ _ _ _ _ _ _ it s₂) _ _)); (fail_if_success (with_reducible show wpAny _ _ (eval (Expr.ListComp _ _ _ _) _) _ _ _)); (fail_if_success (with_reducible show Exists _)))); first | (k_unfold; (try dsimp only)) | walk1 | (dsimp only; walk1) | fail "no step"))
      rename Fr _ _ _ _ => F₇'
      rename News _ _ _ _ => N₇'
      refine name_goes_keeps F₇' N₇' ?_
      intro h₇ tk₇ F₇ N₇
      rw [hni] at hR
      refine hQ₀ _ _ ?_
      exact hR _ _ _ _ _ _ (frs_end F₇ N₇ hf₅ (by walk_at "M sub")) (Gave.cons N₇ hf₅ (fun p hp => (hpairs p hp).2.2) hflt)
end
end T_EA
section T_EB
set_option maxHeartbeats 800000
set_option maxRecDepth 100000
/-- what number_faults gives for this expression -/
noncomputable def NumGives (w : World) (g : Heap) (mean : ExcName → Option Value) (mg mb : Str → Option Value) (d : Nat) (data : Addr) (v : Value) (names : List Str) : Prop :=
  ∀ {A : Around} {outer : List Env} {s : Shared} {R : Result → Shared → Prop}, AmbF w A g outer mean mg mb s.heap d → HOK A s.heap →
    (∀ h' tk l vs k tps, UpTo (fsOf outer) s.heap h' → Gave s.heap h' l names vs k tps → R (.ok (.ret (.ref l))) { s with heap := h', toks := tk }) → codeAny (model PR w) A (.call (.ref 292) ⟨[.ref data, v], []⟩) R s
theorem ne_kind {b h : Heap} {L : Addr} {news : List (Addr × Obj)} {p q : Addr × Obj} (N : News b L h news) (hp : p ∈ news) (hq : q ∈ news) (hd : p.2 ≠ q.2) : p.1 ≠ q.1 := fun e => by
  have h1 := (N p hp).1
  rw [e, (N q hq).1] at h1
  exact hd (Option.some.inj h1).symm
theorem tup_ne_list {x y : Value} {j k : Nat} {vs : Array Value} : tupObj x y j ≠ listOf vs k := fun e => by
  have h2 := congrArg Obj.cls e
  have h3 := Value.type.inj h2
  exact absurd h3 (by decide)
theorem frs_ne_list {s₀ : Heap} {outer : List Env} {frs : List (Addr × Obj)} (hf : FrsOf s₀ outer frs) {p : Addr × Obj} (hp : p ∈ frs) {vs : Array Value} {k : Nat} : p.2 ≠ listOf vs k := fun e => by
  obtain ⟨o, _, ⟨es, ep, d⟩, sl, q⟩ := hf.2 p hp
  have : p.2.data = .dict es ep := by rw [q]; exact d
  rw [e] at this; cases this
/-- the list of faults in the making, with its pairs -/
structure Making (s₀ : Heap) (outer : List Env) (f' : Addr) (names : List Str) (nx : List (Addr × Obj)) (vs : List Value) (k : Nat) (tps frs : List (Addr × Obj)) : Prop where
  eq : nx = (f', listOf vs.toArray k) :: (tps ++ frs)
  frs : FrsOf s₀ outer frs
  faults : FaultsIn tps vs names
  pairs : ∀ p ∈ tps, ∃ x y j, p.2 = tupObj x y j
section
variable {w : World} {A : Around} {g b h h' s₀ : Heap} {outer : List Env} {L f' l : Addr} {m : Str → Option Value} {nx own tps tps' frs : List (Addr × Obj)} {vs vs' : List Value} {k k' : Nat} {names names' : List Str}
theorem Making.sub (K : Making s₀ outer f' names nx vs k tps frs) : ∀ p ∈ frs, p ∈ nx ++ own := fun p hp => by rw [K.eq]; exact List.mem_append_left _ (.tail _ (List.mem_append_right _ hp))
inductive MoreBy (s₀ : Heap) (outer : List Env) (own tps tps' : List (Addr × Obj)) (f' l : Addr) (vs vs' : List Value) (k k' : Nat) (b : Heap) (L : Addr) (m : Str → Option Value) (h' : Heap) : Prop
  | mk (frs' rest : List (Addr × Obj)) (e : rest = (tps ++ own) ++ (tps' ++ frs')) (f : FrsOf s₀ outer frs') (F : Fr b L h' m) (N : News b L h' ((l, listOf vs'.toArray k') :: (f', listOf vs.toArray k) :: rest)) (n1 : l ≠ f') (n2 : ∀ p ∈ rest, p.1 ≠ f') (n3 : ∀ p ∈ rest, p.1 ≠ l) (ho : OwnOff own (((f', listOf (vs ++ vs').toArray 0) :: ((tps ++ tps') ++ frs')).map (·.1))) : MoreBy s₀ outer own tps tps' f' l vs vs' k k' b L m h'
/-- behind the call that gives more faults -/
theorem Making.more (K : Making s₀ outer f' names nx vs k tps frs) (F : Fr b L h m) (N : News b L h (nx ++ own)) (ho : OwnOff own (nx.map (·.1))) (bf : ∀ a ∈ fsOf outer, b.get? a = none) (G : Gave h h' l names' vs' k' tps') (U : UpTo (L :: fsOf outer) h h') :
    MoreBy s₀ outer own tps tps' f' l vs vs' k k' b L m h' := by
  w_top off
  have hnx := K.eq
  subst hnx
  have N₁ : News b L h (((f', listOf vs.toArray k) :: (tps ++ own)) ++ frs) := news_sub N fun p hp => by
    simp only [List.cons_append, List.mem_cons, List.mem_append] at hp ⊢
    rcases hp with h | (h | h) | h
    · exact .inl h
    · exact .inr (.inl (.inl h))
    · exact .inr (.inr h)
    · exact .inr (.inl (.inr h))
  have hoffs : ∀ p ∈ own, p.1 ∉ fsOf outer := fun p hp hm => by
    rw [← K.frs.1] at hm
    obtain ⟨q, hq, e⟩ := List.mem_map.mp hm
    exact ho p hp q.1 (List.mem_map.mpr ⟨q, .tail _ (List.mem_append_right _ hq), rfl⟩) e.symm
  have hnf : ∀ p ∈ (f', listOf vs.toArray k) :: (tps ++ own), p.1 ∉ fsOf outer := fun p hp => by
    rcases List.mem_cons.mp hp with rfl | hq
    · exact frs_off N₁ K.frs (fun q hq => List.mem_append_right _ hq) (.head _) (by intro es ep z; cases z)
    · rcases List.mem_append.mp hq with hq | hq
      · exact frs_off N₁ K.frs (fun q hq => List.mem_append_right _ hq) (List.mem_append_left _ hp) (by obtain ⟨x, y, j, z⟩ := K.pairs p hq; rw [z]; intro es ep e; cases e)
      · exact hoffs p hq
  obtain ⟨frs', hf', F', N', h1, h2, h3⟩ := G.back F N₁ K.frs hnf bf U
  have N'' : News b L h' ((l, listOf vs'.toArray k') :: (f', listOf vs.toArray k) :: ((tps ++ own) ++ (tps' ++ frs'))) := N'
  have hown : ∀ p ∈ own, p.1 ≠ f' := ho.ne (.head _)
  have hr : ∀ p ∈ (tps ++ own) ++ (tps' ++ frs'), p.1 ≠ f' := fun p hp => by
    have hp' : p ∈ (l, listOf vs'.toArray k') :: (f', listOf vs.toArray k) :: ((tps ++ own) ++ (tps' ++ frs')) := memT2 hp
    have hq' : (f', listOf vs.toArray k) ∈ (l, listOf vs'.toArray k') :: (f', listOf vs.toArray k) :: ((tps ++ own) ++ (tps' ++ frs')) := mem1
    rcases List.mem_append.mp hp with hp | hp
    · rcases List.mem_append.mp hp with hp | hp
      · exact ne_kind N'' hp' hq' (by obtain ⟨x, y, j, z⟩ := K.pairs p hp; rw [z]; exact tup_ne_list)
      · exact hown p hp
    · rcases List.mem_append.mp hp with hp | hp
      · exact ne_kind N'' hp' hq' (by obtain ⟨x, y, j, z⟩ := (G.pairs p hp).2.2; rw [z]; exact tup_ne_list)
      · exact ne_kind N'' hp' hq' (frs_ne_list hf' hp)
  refine ⟨frs', _, rfl, hf', F', N'', (h1 (f', listOf vs.toArray k) (.head _)).symm, hr, fun p hp => ?_, ?_⟩
  · rcases List.mem_append.mp hp with hp | hp
    · exact h1 p (.tail _ hp)
    · exact h3 p hp
  · intro p hp a ha
    obtain ⟨q, hq, rfl⟩ := List.mem_map.mp ha
    rcases List.mem_cons.mp hq with rfl | hq
    · exact hown p hp
    · rcases List.mem_append.mp hq with hq | hq
      · rcases List.mem_append.mp hq with hq | hq
        · exact ho p hp _ (List.mem_map.mpr ⟨q, .tail _ (List.mem_append_left _ hq), rfl⟩)
        · exact h2 q hq p (.tail _ (List.mem_append_right _ hp))
      · intro e
        have : q.1 ∈ fsOf outer := by rw [← hf'.1]; exact List.mem_map.mpr ⟨q, hq, rfl⟩
        exact hoffs p hp (e ▸ this)
end
end T_EB
section T_EC
set_option maxHeartbeats 800000
set_option maxRecDepth 100000
inductive AllGive (P : Value → List Str → Prop) : List Value → List (List Str) → Prop
  | nil : AllGive P [] []
  | cons {v : Value} {ns : List Str} {vs : List Value} {nss : List (List Str)} : P v ns → AllGive P vs nss → AllGive P (v :: vs) (ns :: nss)
theorem AllGive.get {P : Value → List Str → Prop} {vs : List Value} {nss : List (List Str)} (h : AllGive P vs nss) : ∀ {i : Nat} {v : Value}, vs[i]? = some v → ∃ ns, nss[i]? = some ns ∧ P v ns := by
  w_top off
  induction h with
  | nil => intro i v e; simp at e
  | cons hp _ ih =>
    intro i v e
    cases i with
    | zero => simp at e; subst e; exact ⟨_, rfl, hp⟩
    | succ i => simpa using ih (by simpa using e)
theorem AllGive.len {P : Value → List Str → Prop} {vs : List Value} {nss : List (List Str)} (h : AllGive P vs nss) : vs.length = nss.length := by
  induction h with
  | nil => rfl
  | cons _ _ ih => simp [ih]
theorem take_flat {nss : List (List Str)} {i : Nat} {ns : List Str} (h : nss[i]? = some ns) : (nss.take (i + 1)).flatten = (nss.take i).flatten ++ ns := by
  rw [List.take_add_one, h]
  simp
theorem flat_le {nss : List (List Str)} {i : Nat} : (nss.take i).flatten.length ≤ nss.flatten.length := by
  have : nss.flatten = (nss.take i).flatten ++ (nss.drop i).flatten := by rw [← List.flatten_append, List.take_append_drop]
  rw [this, List.length_append]; (walk_at "M om")
theorem flat_get_le {nss : List (List Str)} {i : Nat} {ns : List Str} (h : nss[i]? = some ns) : (nss.take i).flatten.length + ns.length ≤ nss.flatten.length := by
  have := flat_le (nss := nss) (i := i + 1)
  rw [take_flat h, List.length_append] at this
  exact this
theorem Making.joined {s₀ : Heap} {outer : List Env} {f' : Addr} {names names' all : List Str} {nx : List (Addr × Obj)} {vs vs' : List Value} {k ke : Nat} {tps tps' frs frs' : List (Addr × Obj)} (K : Making s₀ outer f' names nx vs k tps frs) (hf : FrsOf s₀ outer frs') (f : FaultsIn tps' vs' names') (hp : ∀ p ∈ tps', ∃ x y j, p.2 = tupObj x y j) (e : all = names ++ names') :
    Making s₀ outer f' all ((f', listOf (vs ++ vs').toArray ke) :: ((tps ++ tps') ++ frs')) (vs ++ vs') ke (tps ++ tps') frs' :=
  ⟨rfl, hf, e ▸ (K.faults.mono (fun p hp => List.mem_append_left _ hp)).append (f.mono fun p hp => List.mem_append_right _ hp), fun p hq => (List.mem_append.mp hq).elim (K.pairs p) (hp p)⟩
theorem mem_more {α : Type} {a b : α} {x y z u : List α} : ∀ p ∈ b :: ((x ++ z) ++ u), p ∈ a :: b :: ((x ++ y) ++ (z ++ u)) := fun p hp => by
  rcases List.mem_cons.mp hp with rfl | hp
  · exact mem1
  · rcases List.mem_append.mp hp with hp | hp
    · rcases List.mem_append.mp hp with hp | hp
      · exact memT2 (List.mem_append_left _ (List.mem_append_left _ hp))
      · exact memT2 (List.mem_append_right _ (List.mem_append_left _ hp))
    · exact memT2 (List.mem_append_right _ (List.mem_append_right _ hp))
theorem mem_own {α : Type} {a b : α} {x y z u : List α} : ∀ p ∈ y, p ∈ a :: b :: ((x ++ y) ++ (z ++ u)) := fun p hp =>
  memT2 (List.mem_append_left _ (List.mem_append_right _ hp))
inductive MakJ (s₀ : Heap) (outer : List Env) (f' data : Addr) (names : List Str) (X : (Str → Option Value) → Prop) (m : Str → Option Value) (nx : List (Addr × Obj)) : Prop
  | mk (vs : List Value) (k : Nat) (tps frs : List (Addr × Obj)) (K : Making s₀ outer f' names nx vs k tps frs) (m1 : m (Str.ofString "found") = some (.ref f')) (m2 : m (Str.ofString "data") = some (.ref data)) (m3 : X m) : MakJ s₀ outer f' data names X m nx
section
variable {w : World} {A : Around} {g : Heap} {outer : List Env} {mean : ExcName → Option Value} {mg mb : Str → Option Value} {s : Shared} {n : Nat} {R : Result → Shared → Prop}
theorem part_code {data a q sb : Addr} {nm : Str} {tn : Tok} {us : List Str} {sv : List Value} {part : Value} {nss : List (List Str)} {pnames : List Str} {d : Nat}
   (RF : RefAt g a nm tn q sb us sv part) (hs : AllGive (NumGives w g mean mg mb d data) sv nss) (hz : nss.flatten.length + pnames.length < 9000)
   (hpt : (part = .none ∧ pnames = []) ∨ ∃ p pv pss, part = .ref p ∧ Tpl g p pv ∧ pv.length < 1000 ∧ AllGive (fun v ns => (v = .none ∧ ns = []) ∨ (∃ x, v = .ref x) ∧ NumGives w g mean mg mb d data v ns) pv pss ∧ pss.flatten = pnames) :
   PartGives w g mean mg mb (d + 1) data a (nss.flatten ++ pnames) := by
  intro A outer s R MF H hR
  have M := MF.M
  have B := M.B
  refine enter (rb := [((Str.ofString "ref"), .ref a), ((Str.ofString "data"), .ref data)]) M (by with_unfolding_all rfl) (by k_is) (BindsTo.of_eq rfl) (locs rfl) (by decide) ?_
  intro L h₁ tk hL F N
  with_reducible refine post_gen ?_
  intro Q₀ hQ₀
  obtain ⟨frs, hf, F₁, N₁, gb⟩ := frs_start MF F
  clear F N
  have X := MF.X.keeps gb
  have T := MF.T.keeps gb
  replace RF := RF.keeps gb
  have Hb := HOK.cutF MF H
  have bf : ∀ a ∈ fsOf outer, (cut s.heap (fsOf outer)).get? a = none := fun a ha => cut_none ha
  obtain ⟨⟨t0, RT⟩, ⟨qv, RQ, RS⟩, RB, hsh, hnl, hfew⟩ := RF
  (repeat' ((((fail_if_success (with_reducible show wpAny _ _ (exec (Stmt.While _ _ _ _) _) _ _ _)); (fail_if_success (with_reducible show wpAny _ _ (pyIter _) (fun it s₂ => LoopAtV _ _ _ _ _ _ _ _ _ it s₂) _ _)); (fail_if_success (with_reducible show wpAny _ _ (eval (Expr.ListComp _ _ _ _) _) _ _ _)); (fail_if_success (with_reducible show Exists _)))); first | (k_unfold; (try dsimp only)) | walk1 | (dsimp only; walk1) | fail "no step"))
  rename Fr _ _ _ _ => F₁
  rename News _ _ _ _ => N₁
  rename_i f' _ _ _
  refine iterH_tuple (nx₀ := (f', listOf (List.toArray []) 0) :: ([] ++ frs)) (fun i => MakJ s.heap outer f' data ((nss.take i).flatten) fun m => m (Str.ofString "ref") = some (.ref a)) Hb (RB.keeps F₁.keep).isTup F₁ N₁ (fun p hp => hp) ?_ ⟨_, _, _, _, ⟨rfl, hf, .nil, fun _ h => nomatch h⟩, rfl, rfl, rfl⟩ ?_ ?_
  · intro p hp e
    have h1 := (N₁ p hp).2.2
    obtain ⟨_, h2⟩ := RB
    rw [e, h2] at h1; cases h1
  · rintro i v m₁ nx h tk own hv ho ⟨vs, k, tps, frs', K, hm1, hm2, hm3⟩ F2 N2
    obtain ⟨ns, hns, hg⟩ := hs.get hv
    have hle := flat_get_le hns
    replace F2 := Fr.upd [((Str.ofString "found"), _), ((Str.ofString "data"), _), ((Str.ofString "ref"), _)] F2 (allCons hm1 (allCons hm2 (allCons hm3 (List.forall_mem_nil _))))
    clear F₁ N₁
    have hnx := K.eq
    subst hnx
    rw [List.cons_append] at N2
    (repeat' ((((fail_if_success (with_reducible show wpAny _ _ (exec (Stmt.While _ _ _ _) _) _ _ _)); (fail_if_success (with_reducible show wpAny _ _ (pyIter _) (fun it s₂ => LoopAtV _ _ _ _ _ _ _ _ _ it s₂) _ _)); (fail_if_success (with_reducible show wpAny _ _ (eval (Expr.ListComp _ _ _ _) _) _ _ _)); (fail_if_success (with_reducible show Exists _)))); first | (k_unfold; (try dsimp only)) | walk1 | (dsimp only; walk1) | fail "no step"))
    rename Fr _ _ _ _ => F3
    rename News _ _ _ _ => N3
    refine wpAny_callA (hg (AmbF.down (AmbF.inn MF F3 N3 K.frs K.sub gb) (by (walk_at "M om"))) (HOK.inn Hb F3) fun h₅ tk₅ l vs' k' tps' U G => ?_)
    obtain ⟨frs₅, rest, hrest, hf₅, F₅, N₅, hlf, hrf, hrl, hown⟩ := K.more F3 N3 ho bf G U
    have hl1 := K.faults.len
    have hl2 := G.faults.len
    have hG1 := G.faults
    have hG2 := G.pairs
    clear F3 N3 U G
    (repeat' ((((fail_if_success (with_reducible show wpAny _ _ (exec (Stmt.While _ _ _ _) _) _ _ _)); (fail_if_success (with_reducible show wpAny _ _ (pyIter _) (fun it s₂ => LoopAtV _ _ _ _ _ _ _ _ _ it s₂) _ _)); (fail_if_success (with_reducible show wpAny _ _ (eval (Expr.ListComp _ _ _ _) _) _ _ _)); (fail_if_success (with_reducible show Exists _)))); first | (k_unfold; (try dsimp only)) | walk1 | (dsimp only; walk1) | fail "no step"))
    rename Fr _ _ _ _ => F6
    rename News _ _ _ _ => N6
    rw [hrest] at N6
    rename_i ke _
    exact InvEndG.intro F6 N6 (nx := (f', listOf (vs ++ vs').toArray ke) :: ((tps ++ tps') ++ frs₅)) ⟨vs ++ vs', _, tps ++ tps', frs₅, K.joined hf₅ hG1 (fun p hp => (hG2 p hp).2.2) (take_flat hns), rfl, rfl, rfl⟩ hown mem_more mem_own
  · rintro m₁ nx h tk ⟨vs, k, tps, frs', K, hm1, hm2, hm3⟩ F2 N2
    replace F2 := Fr.upd0 [((Str.ofString "found"), _), ((Str.ofString "data"), _), ((Str.ofString "ref"), _)] F2 (allCons hm1 (allCons hm2 (allCons hm3 (List.forall_mem_nil _))))
    rw [hs.len, List.take_length] at K
    have hnx := K.eq
    subst hnx
    clear F₁ N₁
    rcases hpt with ⟨rfl, rfl⟩ | ⟨pa, pv, pss, rfl, hpv, hpl, hps, rfl⟩
    · (repeat' ((((fail_if_success (with_reducible show wpAny _ _ (exec (Stmt.While _ _ _ _) _) _ _ _)); (fail_if_success (with_reducible show wpAny _ _ (pyIter _) (fun it s₂ => LoopAtV _ _ _ _ _ _ _ _ _ it s₂) _ _)); (fail_if_success (with_reducible show wpAny _ _ (eval (Expr.ListComp _ _ _ _) _) _ _ _)); (fail_if_success (with_reducible show Exists _)))); first | (k_unfold; (try dsimp only)) | walk1 | (dsimp only; walk1) | fail "no step"))
      rename Fr _ _ _ _ => F₃
      rename News _ _ _ _ => N₃
      rename_i e0 _ _
      refine iterH_tuple (vs := []) (nx₀ := (f', listOf vs.toArray k) :: (tps ++ frs')) (fun i m nx => nx = (f', listOf vs.toArray k) :: (tps ++ frs') ∧ m (Str.ofString "found") = some (.ref f')) Hb (News.isTup N₃ (.head _)) F₃ N₃ (fun p hp => .tail _ hp) ?_ ⟨rfl, rfl⟩ ?_ ?_
      · intro p hp
        refine ne_kind N₃ (q := (e0, _)) (.tail _ hp) (.head _) ?_
        rcases List.mem_cons.mp hp with rfl | hp
        · intro e
          have h2 := congrArg Obj.cls e
          have h3 := Value.type.inj h2
          exact absurd h3 (by decide)
        · rcases List.mem_append.mp hp with hp | hp
          · obtain ⟨x, y, j, z⟩ := K.pairs p hp
            rw [z]
            intro e
            have h2 := congrArg Obj.data e
            injection h2 with h2 _
            have h3 := congrArg Array.size h2; simp at h3
          · intro e
            obtain ⟨o, _, ⟨es, ep, d⟩, sl, q⟩ := K.frs.2 p hp
            have : p.2.data = .dict es ep := by rw [q]; exact d
            rw [e] at this; cases this
      · intro i v m₁ nx h tk own hv
        simp at hv
      · rintro m₂ nx h tk ⟨rfl, hm4⟩ F4 N4
        replace F4 := Fr.upd0 [((Str.ofString "found"), _)] F4 (by simp only [List.mem_cons, List.not_mem_nil, or_false, forall_eq]; exact hm4)
        clear F₃ N₃
        (repeat' ((((fail_if_success (with_reducible show wpAny _ _ (exec (Stmt.While _ _ _ _) _) _ _ _)); (fail_if_success (with_reducible show wpAny _ _ (pyIter _) (fun it s₂ => LoopAtV _ _ _ _ _ _ _ _ _ it s₂) _ _)); (fail_if_success (with_reducible show wpAny _ _ (eval (Expr.ListComp _ _ _ _) _) _ _ _)); (fail_if_success (with_reducible show Exists _)))); first | (k_unfold; (try dsimp only)) | walk1 | (dsimp only; walk1) | fail "no step"))
        rename Fr _ _ _ _ => F5
        rename News _ _ _ _ => N5
        rw [List.append_nil] at hR
        refine hQ₀ _ _ ?_
        exact hR _ _ f' vs k tps (frs_end F5 N5 K.frs (by walk_at "M sub")) (Gave.of N5 K.frs (by walk_at "M sub") (.head _) (fun p hp => ⟨.tail _ (List.mem_append_left _ hp), K.pairs p hp⟩) K.faults)
    · (repeat' ((((fail_if_success (with_reducible show wpAny _ _ (exec (Stmt.While _ _ _ _) _) _ _ _)); (fail_if_success (with_reducible show wpAny _ _ (pyIter _) (fun it s₂ => LoopAtV _ _ _ _ _ _ _ _ _ it s₂) _ _)); (fail_if_success (with_reducible show wpAny _ _ (eval (Expr.ListComp _ _ _ _) _) _ _ _)); (fail_if_success (with_reducible show Exists _)))); first | (k_unfold; (try dsimp only)) | walk1 | (dsimp only; walk1) | fail "no step"))
      rename Fr _ _ _ _ => F₃
      rename News _ _ _ _ => N₃
      have PB := hpv.keeps gb
      refine iterH_tuple (nx₀ := (f', listOf vs.toArray k) :: (tps ++ frs')) (fun i => MakJ s.heap outer f' data (nss.flatten ++ (pss.take i).flatten) fun _ => True) Hb (PB.keeps F₃.keep).isTup F₃ N₃ (fun p hp => hp) ?_ ⟨vs, k, tps, frs', by rw [List.take_zero, List.flatten_nil, List.append_nil]; exact K, rfl, rfl, trivial⟩ ?_ ?_
      · intro p hp e
        have h1 := (N₃ p hp).2.2
        obtain ⟨_, h2⟩ := PB
        rw [e, h2] at h1; cases h1
      · clear K hm1 hm2 hm3
        rintro i v m₁ nx h tk own hv ho ⟨vs, k, tps, frs', K, hm1, hm2, -⟩ F2 N2
        obtain ⟨ns, hns, hg⟩ := hps.get hv
        have hle := flat_get_le hns
        replace F2 := Fr.upd [((Str.ofString "found"), _), ((Str.ofString "data"), _)] F2 (allCons hm1 (allCons hm2 (List.forall_mem_nil _)))
        clear F₃ N₃
        have hnx := K.eq
        subst hnx
        rw [List.cons_append] at N2
        rcases hg with ⟨rfl, rfl⟩ | ⟨⟨x, rfl⟩, hg⟩
        · (repeat' ((((fail_if_success (with_reducible show wpAny _ _ (exec (Stmt.While _ _ _ _) _) _ _ _)); (fail_if_success (with_reducible show wpAny _ _ (pyIter _) (fun it s₂ => LoopAtV _ _ _ _ _ _ _ _ _ it s₂) _ _)); (fail_if_success (with_reducible show wpAny _ _ (eval (Expr.ListComp _ _ _ _) _) _ _ _)); (fail_if_success (with_reducible show Exists _)))); first | (k_unfold; (try dsimp only)) | walk1 | (dsimp only; walk1) | fail "no step"))
          rename Fr _ _ _ _ => F6
          rename News _ _ _ _ => N6
          have K' : Making s.heap outer f' (nss.flatten ++ (pss.take (i + 1)).flatten) ((f', listOf vs.toArray k) :: (tps ++ frs')) vs k tps frs' := by
            rw [take_flat hns, List.append_nil]; exact K
          exact InvEndG.intro F6 N6 (nx := (f', listOf vs.toArray k) :: (tps ++ frs')) ⟨vs, k, tps, frs', K', rfl, rfl, trivial⟩ ho (fun p hp => List.mem_append_left own hp) (fun p hp => List.mem_append_right ((f', listOf vs.toArray k) :: (tps ++ frs')) hp)
        · (repeat' ((((fail_if_success (with_reducible show wpAny _ _ (exec (Stmt.While _ _ _ _) _) _ _ _)); (fail_if_success (with_reducible show wpAny _ _ (pyIter _) (fun it s₂ => LoopAtV _ _ _ _ _ _ _ _ _ it s₂) _ _)); (fail_if_success (with_reducible show wpAny _ _ (eval (Expr.ListComp _ _ _ _) _) _ _ _)); (fail_if_success (with_reducible show Exists _)))); first | (k_unfold; (try dsimp only)) | walk1 | (dsimp only; walk1) | fail "no step"))
          rename Fr _ _ _ _ => F3
          rename News _ _ _ _ => N3
          refine wpAny_callA (hg (AmbF.down (AmbF.inn MF F3 N3 K.frs K.sub gb) (by (walk_at "M om"))) (HOK.inn Hb F3) fun h₅ tk₅ l vs' k' tps' U G => ?_)
          obtain ⟨frs₅, rest, hrest, hf₅, F₅, N₅, hlf, hrf, hrl, hown⟩ := K.more F3 N3 ho bf G U
          have hl1 := K.faults.len
          have hl2 := G.faults.len
          have hG1 := G.faults
          have hG2 := G.pairs
          rw [List.length_append] at hl1
          clear F3 N3 U G
          (repeat' ((((fail_if_success (with_reducible show wpAny _ _ (exec (Stmt.While _ _ _ _) _) _ _ _)); (fail_if_success (with_reducible show wpAny _ _ (pyIter _) (fun it s₂ => LoopAtV _ _ _ _ _ _ _ _ _ it s₂) _ _)); (fail_if_success (with_reducible show wpAny _ _ (eval (Expr.ListComp _ _ _ _) _) _ _ _)); (fail_if_success (with_reducible show Exists _)))); first | (k_unfold; (try dsimp only)) | walk1 | (dsimp only; walk1) | fail "no step"))
          rename Fr _ _ _ _ => F6
          rename News _ _ _ _ => N6
          rw [hrest] at N6
          rename_i ke _
          exact InvEndG.intro F6 N6 (nx := (f', listOf (vs ++ vs').toArray ke) :: ((tps ++ tps') ++ frs₅)) ⟨vs ++ vs', _, tps ++ tps', frs₅, K.joined hf₅ hG1 (fun p hp => (hG2 p hp).2.2) (by rw [take_flat hns, List.append_assoc]), rfl, rfl, trivial⟩ hown mem_more mem_own
      · clear K hm1 hm2 hm3
        rintro m₂ nx h tk ⟨vs, k, tps, frs', K, hm4, _, -⟩ F4 N4
        replace F4 := Fr.upd0 [((Str.ofString "found"), _)] F4 (by simp only [List.mem_cons, List.not_mem_nil, or_false, forall_eq]; exact hm4)
        rw [hps.len, List.take_length] at K
        have hnx := K.eq
        subst hnx
        clear F₃ N₃
        (repeat' ((((fail_if_success (with_reducible show wpAny _ _ (exec (Stmt.While _ _ _ _) _) _ _ _)); (fail_if_success (with_reducible show wpAny _ _ (pyIter _) (fun it s₂ => LoopAtV _ _ _ _ _ _ _ _ _ it s₂) _ _)); (fail_if_success (with_reducible show wpAny _ _ (eval (Expr.ListComp _ _ _ _) _) _ _ _)); (fail_if_success (with_reducible show Exists _)))); first | (k_unfold; (try dsimp only)) | walk1 | (dsimp only; walk1) | fail "no step"))
        rename Fr _ _ _ _ => F5
        rename News _ _ _ _ => N5
        refine hQ₀ _ _ ?_
        exact hR _ _ f' vs k tps (frs_end F5 N5 K.frs (by walk_at "M sub")) (Gave.of N5 K.frs (by walk_at "M sub") (.head _) (fun p hp => ⟨.tail _ (List.mem_append_left _ hp), K.pairs p hp⟩) K.faults)
end
end T_EC
section T_ED
set_option maxHeartbeats 800000
set_option maxRecDepth 100000
local macro_rules | `(tactic| walk_at "call ref") => `(tactic| (k_here; apply wpAny_callA; apply isix_code; (refine' Amb.down (AmbF.M (n := _) ?X) ?y; (case X => walk_at "M ambF"); (case y => (walk_at "M om"))); walk_at "M kp"; exact Ix.keeps (by assumption) (Fr.keep (by assumption)); exact RefAt.keeps (by assumption) (Fr.keep (by assumption)); intro h' tk' st'; (with_reducible rename Fr _ _ _ _ => mF); (with_reducible rename News _ _ _ _ => mN); (have F' := Fr.keeps mF st'); (have N' := News.grown mN st'); clear st'; (try k_sweep); (try dsimp only)))
section
variable {w : World} {A : Around} {g : Heap} {outer : List Env} {mean : ExcName → Option Value} {mg mb : Str → Option Value} {s : Shared} {n : Nat} {R : Result → Shared → Prop}
/-- operand_faults of a reference -/
theorem opf_ref {data root xd a q sb : Addr} {nm : Str} {tn : Tok} {us : List Str} {sv : List Value} {part : Value} {its : List It} {kvs : List (Str × Value)} {inner : List Str} {d : Nat}
   (MF : AmbF w A g outer mean mg mb s.heap (15 + d)) (H : HOK A s.heap) (D : DataAt g data root xd) (TR : Tree g root its) (I : Ix w g xd kvs) (RF : RefAt g a nm tn q sb us sv part) (hpt : part = .none ∨ ∃ p, part = .ref p)
   (hP : PartGives w g mean mg mb d data a inner) (hi : inner.length < 10000)
   (hR : ∀ h' tk l vs k tps, UpTo (fsOf outer) s.heap h' → Gave s.heap h' l (refNames its kvs nm us sv.length (part != .none) inner 0) vs k tps → R (.ok (.ret (.ref l))) { s with heap := h', toks := tk }) :
   codeAny (model PR w) A (.call (.ref 271) ⟨[.ref data, .ref a], []⟩) R s := by
  w_top off
  have MF' : AmbF w A g outer mean mg mb s.heap (14 + d + 1) := by rw [show 14 + d + 1 = 15 + d by (walk_at "M om")]; exact MF
  have M := MF'.M
  have B := M.B
  refine enter (rb := [((Str.ofString "operand"), .ref a), ((Str.ofString "data"), .ref data)]) M (by with_unfolding_all rfl) (by k_is) (BindsTo.of_eq rfl) (locs rfl) (by decide) ?_
  intro L h₁ tk hL F N
  with_reducible refine post_gen ?_
  intro Q₀ hQ₀
  obtain ⟨frs, hf, F₁, N₁, gb⟩ := frs_start MF' F
  clear F N
  have X := MF.X.keeps gb
  have T := MF.T.keeps gb
  have Hb := HOK.cutF MF H
  have bf : ∀ a ∈ fsOf outer, (cut s.heap (fsOf outer)).get? a = none := fun a ha => cut_none ha
  obtain ⟨⟨t0, RT⟩, _, _, _, _, _⟩ := RF.keeps gb
  (repeat' ((((fail_if_success (with_reducible show wpAny _ _ (exec (Stmt.While _ _ _ _) _) _ _ _)); (fail_if_success (with_reducible show wpAny _ _ (pyIter _) (fun it s₂ => LoopAtV _ _ _ _ _ _ _ _ _ it s₂) _ _)); (fail_if_success (with_reducible show wpAny _ _ (eval (Expr.ListComp _ _ _ _) _) _ _ _)); (fail_if_success (with_reducible show Exists _)))); first | (k_unfold; (try dsimp only)) | walk1 | (dsimp only; walk1) | fail "no step"))
  rename Fr _ _ _ _ => F₂
  rename News _ _ _ _ => N₂
  refine wpAny_callA (ref_code (.inl ⟨rfl, rfl, rfl⟩) (AmbF.inn MF' F₂ N₂ hf (fun _ h => h) gb) (HOK.inn Hb F₂) D TR I RF hpt hP hi fun h₅ tk₅ l vs k tps U G => ?_)
  obtain ⟨frs₅, hf₅, F₅, N₅, _, _, hoff⟩ := G.back (nx := []) F₂ N₂ hf (by simp) bf U
  dsimp only [List.nil_append] at N₅
  have hG1 := G.faults
  have hG2 := G.pairs
  refine hQ₀ _ _ ?_
  exact hR _ _ l vs k tps (frs_end F₅ N₅ hf₅ (by walk_at "M sub")) (Gave.of N₅ hf₅ (by walk_at "M sub") (.head _) (fun p hp => ⟨.tail _ (List.mem_append_left _ hp), (hG2 p hp).2.2⟩) hG1)
/-- operand_faults of a literal -/
theorem opf_lit {data a : Addr} {kind : Str} {tt : Tok} {rest : List Value}
   (MF : AmbF w A g outer mean mg mb s.heap 2) (ht : Tpl g a (.str kind tt :: rest)) (hk : (kind == (Str.ofString "ref")) = false)
   (hR : ∀ h' tk l vs k tps, UpTo (fsOf outer) s.heap h' → Gave s.heap h' l [] vs k tps → R (.ok (.ret (.ref l))) { s with heap := h', toks := tk }) :
   codeAny (model PR w) A (.call (.ref 271) ⟨[.ref data, .ref a], []⟩) R s := by
  have M := MF.M
  have B := M.B
  refine enter (rb := [((Str.ofString "operand"), .ref a), ((Str.ofString "data"), .ref data)]) M (by with_unfolding_all rfl) (by k_is) (BindsTo.of_eq rfl) (locs rfl) (by decide) ?_
  intro L h₁ tk hL F N
  with_reducible refine post_gen ?_
  intro Q₀ hQ₀
  obtain ⟨frs, hf, F₁, N₁, gb⟩ := frs_start MF F
  clear F N
  have X := MF.X.keeps gb
  have T := MF.T.keeps gb
  have RT := ht.keeps gb
  (repeat' ((((fail_if_success (with_reducible show wpAny _ _ (exec (Stmt.While _ _ _ _) _) _ _ _)); (fail_if_success (with_reducible show wpAny _ _ (pyIter _) (fun it s₂ => LoopAtV _ _ _ _ _ _ _ _ _ it s₂) _ _)); (fail_if_success (with_reducible show wpAny _ _ (eval (Expr.ListComp _ _ _ _) _) _ _ _)); (fail_if_success (with_reducible show Exists _)))); first | (k_unfold; (try dsimp only)) | walk1 | (dsimp only; walk1) | fail "no step"))
  rename Fr _ _ _ _ => F₂
  rename News _ _ _ _ => N₂
  refine hQ₀ _ _ ?_
  exact hR _ _ _ [] 0 [] (frs_end F₂ N₂ hf (by walk_at "M sub")) (Gave.of N₂ hf (by walk_at "M sub") (.head _) (by simp) .nil)
/-- name_of -/
noncomputable def nameOf (kind nm : Str) : Str := if kind == (Str.ofString "ref") then nm else (Str.ofString "a literal")
theorem nameof_ref {base : Heap} {a q sb : Addr} {nm : Str} {tn : Tok} {us : List Str} {sv : List Value} {part : Value}
   (M : Amb w A base outer mean mg mb s.heap 2) (RF : RefAt s.heap a nm tn q sb us sv part)
   (hR : ∀ h' tk, s.heap.StaysIn h' → R (.ok (.ret (.str nm tn))) { s with heap := h', toks := tk }) :
   codeAny (model PR w) A (.call (.ref 299) ⟨[.ref a], []⟩) R s := by
  have X := M.X
  have T := M.T
  have B := M.B
  obtain ⟨⟨t0, RT⟩, _, _, _, _, _⟩ := RF
  refine enter (rb := [(Str.ofString "operand", .ref a)]) M (by with_unfolding_all rfl) (by k_is) (BindsTo.of_eq rfl) (locs rfl) (by decide) ?_
  intro L h₁ tk hL F N
  with_reducible refine post_gen ?_
  intro Q₀ hQ₀
  (repeat' ((((fail_if_success (with_reducible show wpAny _ _ (exec (Stmt.While _ _ _ _) _) _ _ _)); (fail_if_success (with_reducible show wpAny _ _ (pyIter _) (fun it s₂ => LoopAtV _ _ _ _ _ _ _ _ _ it s₂) _ _)); (fail_if_success (with_reducible show wpAny _ _ (eval (Expr.ListComp _ _ _ _) _) _ _ _)); (fail_if_success (with_reducible show Exists _)))); first | (k_unfold; (try dsimp only)) | walk1 | (dsimp only; walk1) | fail "no step"))
  rename Fr _ _ _ _ => F₂
  refine hQ₀ _ _ ?_
  exact hR _ _ F₂.keep
theorem nameof_text {base : Heap} {a : Addr} {tt : Tok} {rest : List Value}
   (M : Amb w A base outer mean mg mb s.heap 2) (ht : Tpl s.heap a (.str (Str.ofString "text") tt :: rest))
   (hR : ∀ h' tk t, s.heap.StaysIn h' → R (.ok (.ret (.str (Str.ofString "a literal") t))) { s with heap := h', toks := tk }) :
   codeAny (model PR w) A (.call (.ref 299) ⟨[.ref a], []⟩) R s := by
  have X := M.X
  have T := M.T
  have B := M.B
  refine enter (rb := [(Str.ofString "operand", .ref a)]) M (by with_unfolding_all rfl) (by k_is) (BindsTo.of_eq rfl) (locs rfl) (by decide) ?_
  intro L h₁ tk hL F N
  with_reducible refine post_gen ?_
  intro Q₀ hQ₀
  (repeat' ((((fail_if_success (with_reducible show wpAny _ _ (exec (Stmt.While _ _ _ _) _) _ _ _)); (fail_if_success (with_reducible show wpAny _ _ (pyIter _) (fun it s₂ => LoopAtV _ _ _ _ _ _ _ _ _ it s₂) _ _)); (fail_if_success (with_reducible show wpAny _ _ (eval (Expr.ListComp _ _ _ _) _) _ _ _)); (fail_if_success (with_reducible show Exists _)))); first | (k_unfold; (try dsimp only)) | walk1 | (dsimp only; walk1) | fail "no step"))
  rename Fr _ _ _ _ => F₂
  refine hQ₀ _ _ ?_
  exact hR _ _ _ F₂.keep
end
end T_ED
section T_EE
set_option maxHeartbeats 800000
set_option maxRecDepth 100000
local macro_rules | `(tactic| walk_at "call ref") => `(tactic| (k_here; apply wpAny_callA; apply isix_code; (refine' Amb.down (AmbF.M (n := _) ?X) ?y; (case X => walk_at "M ambF"); (case y => (walk_at "M om"))); walk_at "M kp"; exact Ix.keeps (by assumption) (Fr.keep (by assumption)); exact RefAt.keeps (by assumption) (Fr.keep (by assumption)); intro h' tk' st'; (with_reducible rename Fr _ _ _ _ => mF); (with_reducible rename News _ _ _ _ => mN); (have F' := Fr.keeps mF st'); (have N' := News.grown mN st'); clear st'; (try k_sweep); (try dsimp only)))
/-- the category of a reference without a part -/
noncomputable def catOf (its : List It) (kvs : List (Str × Value)) (nm : Str) (us : List Str) : Str :=
  if isIx kvs nm us then (Str.ofString "index") else match hits its nm us with | [it] => it.cat | _ => Str.ofString ""
section
variable {w : World} {A : Around} {g : Heap} {outer : List Env} {mean : ExcName → Option Value} {mg mb : Str → Option Value} {s : Shared} {n : Nat} {R : Result → Shared → Prop}
theorem cat_ref {data root xd a q sb : Addr} {nm : Str} {tn : Tok} {us : List Str} {sv : List Value} {its : List It} {kvs : List (Str × Value)}
   (MF : AmbF w A g outer mean mg mb s.heap 16) (H : HOK A s.heap) (D : DataAt g data root xd) (TR : Tree g root its) (I : Ix w g xd kvs) (RF : RefAt g a nm tn q sb us sv .none)
   (hR : ∀ h' tk t, UpTo (fsOf outer) s.heap h' → R (.ok (.ret (.str (catOf its kvs nm us) t))) { s with heap := h', toks := tk }) :
   codeAny (model PR w) A (.call (.ref 278) ⟨[.ref data, .ref a], []⟩) R s := by
  w_top off
  have M := MF.M
  have B := M.B
  refine enter (rb := [((Str.ofString "operand"), .ref a), ((Str.ofString "data"), .ref data)]) M (by with_unfolding_all rfl) (by k_is) (BindsTo.of_eq rfl) (locs rfl) (by decide) ?_
  intro L h₁ tk hL F N
  with_reducible refine post_gen ?_
  intro Q₀ hQ₀
  obtain ⟨frs, hf, F₁, N₁, gb⟩ := frs_start MF F
  clear F N
  have X := MF.X.keeps gb
  have T := MF.T.keeps gb
  have Hb := HOK.cutF MF H
  have bf : ∀ a ∈ fsOf outer, (cut s.heap (fsOf outer)).get? a = none := fun a ha => cut_none ha
  have D0 := D
  have TR0 := TR
  have RF0 := RF
  replace D := D.keeps gb
  replace TR := TR.keeps gb
  replace I := I.keeps gb
  replace RF := RF.keeps gb
  have RF' := RF
  obtain ⟨⟨t0, RT⟩, _, _, _, _, _⟩ := RF'
  cases hix : isIx kvs nm us with
  | true =>
    have hc : catOf its kvs nm us = (Str.ofString "index") := by unfold catOf; rw [if_pos hix]
    rw [hc] at hR
    (repeat' ((((fail_if_success (with_reducible show wpAny _ _ (exec (Stmt.While _ _ _ _) _) _ _ _)); (fail_if_success (with_reducible show wpAny _ _ (pyIter _) (fun it s₂ => LoopAtV _ _ _ _ _ _ _ _ _ it s₂) _ _)); (fail_if_success (with_reducible show wpAny _ _ (eval (Expr.ListComp _ _ _ _) _) _ _ _)); (fail_if_success (with_reducible show Exists _)))); first | (k_unfold; (try dsimp only)) | walk1 | (dsimp only; walk1) | fail "no step"))
    rename Fr _ _ _ _ => F₂
    rename News _ _ _ _ => N₂
    refine hQ₀ _ _ ?_
    exact hR _ _ _ (frs_end F₂ N₂ hf (by walk_at "M sub"))
  | false =>
    (repeat' ((((fail_if_success (with_reducible show wpAny _ _ (exec (Stmt.While _ _ _ _) _) _ _ _)); (fail_if_success (with_reducible show wpAny _ _ (pyIter _) (fun it s₂ => LoopAtV _ _ _ _ _ _ _ _ _ it s₂) _ _)); (fail_if_success (with_reducible show wpAny _ _ (eval (Expr.ListComp _ _ _ _) _) _ _ _)); (fail_if_success (with_reducible show Exists _)))); first | (k_unfold; (try dsimp only)) | walk1 | (dsimp only; walk1) | fail "no step"))
    rename Fr _ _ _ _ => F₂
    rename News _ _ _ _ => N₂
    refine wpAny_callA (itemof_code (AmbF.down (AmbF.inn MF F₂ N₂ hf (fun _ h => h) gb) (by (walk_at "M om"))) (HOK.inn Hb F₂) D0 TR0 RF0 fun h₅ tk₅ U => ?_)
    obtain ⟨frs₅, hf₅, F₅, N₅⟩ := frs_back (nx := []) F₂ N₂ hf (by simp) bf U
    dsimp only [List.nil_append] at N₅
    clear F₂ N₂ hf U
    by_cases hh : ∃ it, hits its nm us = [it]
    · obtain ⟨it, hh⟩ := hh
      have hit : it ∈ its := by
        have : it ∈ hits its nm us := by rw [hh]; exact .head _
        exact (List.mem_filter.mp (List.mem_filter.mp this).1).1
      have hc : catOf its kvs nm us = it.cat := by unfold catOf; rw [if_neg (by rw [hix]; decide), hh]
      have hfd : found its nm us = .ref it.a := by unfold found; rw [hh]
      rw [hc] at hR
      rw [hfd]
      obtain ⟨par', occ', kids', shp', ⟨⟨ox, es, n0, t0, ⟨I1, I2, I3, I4, I5, I6⟩⟩, htb, hho, hli, hsh', hpl, x, ox', es', n', t', rfl, S1, S2⟩⟩ := TR.ok it hit
      (repeat' ((((fail_if_success (with_reducible show wpAny _ _ (exec (Stmt.While _ _ _ _) _) _ _ _)); (fail_if_success (with_reducible show wpAny _ _ (pyIter _) (fun it s₂ => LoopAtV _ _ _ _ _ _ _ _ _ it s₂) _ _)); (fail_if_success (with_reducible show wpAny _ _ (eval (Expr.ListComp _ _ _ _) _) _ _ _)); (fail_if_success (with_reducible show Exists _)))); first | (k_unfold; (try dsimp only)) | walk1 | (dsimp only; walk1) | fail "no step"))
      rename Fr _ _ _ _ => F₂
      rename News _ _ _ _ => N₂
      refine hQ₀ _ _ ?_
      exact hR _ _ _ (frs_end F₂ N₂ hf₅ (by walk_at "M sub"))
    · have hc : catOf its kvs nm us = Str.ofString "" := by
        unfold catOf; rw [if_neg (by rw [hix]; decide)]
        split
        · rename_i it e; exact absurd ⟨it, e⟩ hh
        · rfl
      have hfd : found its nm us = .none := by
        unfold found
        split
        · rename_i it e; exact absurd ⟨it, e⟩ hh
        · rfl
      rw [hc] at hR
      rw [hfd]
      (repeat' ((((fail_if_success (with_reducible show wpAny _ _ (exec (Stmt.While _ _ _ _) _) _ _ _)); (fail_if_success (with_reducible show wpAny _ _ (pyIter _) (fun it s₂ => LoopAtV _ _ _ _ _ _ _ _ _ it s₂) _ _)); (fail_if_success (with_reducible show wpAny _ _ (eval (Expr.ListComp _ _ _ _) _) _ _ _)); (fail_if_success (with_reducible show Exists _)))); first | (k_unfold; (try dsimp only)) | walk1 | (dsimp only; walk1) | fail "no step"))
      rename Fr _ _ _ _ => F₂
      rename News _ _ _ _ => N₂
      refine hQ₀ _ _ ?_
      exact hR _ _ _ (frs_end F₂ N₂ hf₅ (by walk_at "M sub"))
theorem cat_num {base : Heap} {data a : Addr} {tt : Tok} {rest : List Value}
   (M : Amb w A base outer mean mg mb s.heap 2) (ht : Tpl s.heap a (.str (Str.ofString "number") tt :: rest))
   (hR : ∀ h' tk t, s.heap.StaysIn h' → R (.ok (.ret (.str (Str.ofString "numeric") t))) { s with heap := h', toks := tk }) :
   codeAny (model PR w) A (.call (.ref 278) ⟨[.ref data, .ref a], []⟩) R s := by
  have X := M.X
  have T := M.T
  have B := M.B
  refine enter (rb := [(Str.ofString "operand", .ref a), (Str.ofString "data", .ref data)]) M (by with_unfolding_all rfl) (by k_is) (BindsTo.of_eq rfl) (locs rfl) (by decide) ?_
  intro L h₁ tk hL F N
  with_reducible refine post_gen ?_
  intro Q₀ hQ₀
  (repeat' ((((fail_if_success (with_reducible show wpAny _ _ (exec (Stmt.While _ _ _ _) _) _ _ _)); (fail_if_success (with_reducible show wpAny _ _ (pyIter _) (fun it s₂ => LoopAtV _ _ _ _ _ _ _ _ _ it s₂) _ _)); (fail_if_success (with_reducible show wpAny _ _ (eval (Expr.ListComp _ _ _ _) _) _ _ _)); (fail_if_success (with_reducible show Exists _)))); first | (k_unfold; (try dsimp only)) | walk1 | (dsimp only; walk1) | fail "no step"))
  rename Fr _ _ _ _ => F₂
  refine hQ₀ _ _ ?_
  exact hR _ _ _ F₂.keep
theorem cat_text {base : Heap} {data a : Addr} {tt : Tok} {x : Value}
   (M : Amb w A base outer mean mg mb s.heap 5) (ht : Tpl s.heap a [.str (Str.ofString "text") tt, x])
   (hR : ∀ h' tk t, s.heap.StaysIn h' → R (.ok (.ret (.str (Str.ofString "alphanumeric") t))) { s with heap := h', toks := tk }) :
   codeAny (model PR w) A (.call (.ref 278) ⟨[.ref data, .ref a], []⟩) R s := by
  have X := M.X
  have T := M.T
  have B := M.B
  refine enter (rb := [(Str.ofString "operand", .ref a), (Str.ofString "data", .ref data)]) M (by with_unfolding_all rfl) (by k_is) (BindsTo.of_eq rfl) (locs rfl) (by decide) ?_
  intro L h₁ tk hL F N
  with_reducible refine post_gen ?_
  intro Q₀ hQ₀
  (repeat' ((((fail_if_success (with_reducible show wpAny _ _ (exec (Stmt.While _ _ _ _) _) _ _ _)); (fail_if_success (with_reducible show wpAny _ _ (pyIter _) (fun it s₂ => LoopAtV _ _ _ _ _ _ _ _ _ it s₂) _ _)); (fail_if_success (with_reducible show wpAny _ _ (eval (Expr.ListComp _ _ _ _) _) _ _ _)); (fail_if_success (with_reducible show Exists _)))); first | (k_unfold; (try dsimp only)) | walk1 | (dsimp only; walk1) | fail "no step"))
  rename Fr _ _ _ _ => F₁
  rename News _ _ _ _ => N₁
  refine eq_tup_first (ht.keeps F₁.keep) ⟨_, N₁.get (.head _)⟩ (by decide) (Nat.lt_of_le_of_lt (Nat.le_add_right _ 4) (Amb.un (by assumption))) ?_
  (repeat' ((((fail_if_success (with_reducible show wpAny _ _ (exec (Stmt.While _ _ _ _) _) _ _ _)); (fail_if_success (with_reducible show wpAny _ _ (pyIter _) (fun it s₂ => LoopAtV _ _ _ _ _ _ _ _ _ it s₂) _ _)); (fail_if_success (with_reducible show wpAny _ _ (eval (Expr.ListComp _ _ _ _) _) _ _ _)); (fail_if_success (with_reducible show Exists _)))); first | (k_unfold; (try dsimp only)) | walk1 | (dsimp only; walk1) | fail "no step"))
  rename Fr _ _ _ _ => F₂
  refine hQ₀ _ _ ?_
  exact hR _ _ _ F₂.keep
/-- what category_of gives -/
noncomputable def CatGives (w : World) (g : Heap) (mean : ExcName → Option Value) (mg mb : Str → Option Value) (d : Nat) (data a : Addr) (cat : Str) : Prop :=
  ∀ {A : Around} {outer : List Env} {s : Shared} {R : Result → Shared → Prop}, AmbF w A g outer mean mg mb s.heap d → HOK A s.heap →
    (∀ h' tk t, UpTo (fsOf outer) s.heap h' → R (.ok (.ret (.str cat t))) { s with heap := h', toks := tk }) → codeAny (model PR w) A (.call (.ref 278) ⟨[.ref data, .ref a], []⟩) R s
noncomputable def isNum (c : Str) : Bool := [(Str.ofString "numeric"), (Str.ofString "index"), Str.ofString ""].any fun x => x == c
theorem isnum_code {data a : Addr} {cat : Str} {d : Nat}
   (MF : AmbF w A g outer mean mg mb s.heap (d + 5)) (H : HOK A s.heap) (hC : CatGives w g mean mg mb d data a cat)
   (hR : ∀ h' tk, UpTo (fsOf outer) s.heap h' → R (.ok (.ret (.bool (isNum cat)))) { s with heap := h', toks := tk }) :
   codeAny (model PR w) A (.call (.ref 285) ⟨[.ref data, .ref a], []⟩) R s := by
  have M := MF.M
  have B := M.B
  refine enter (rb := [((Str.ofString "operand"), .ref a), ((Str.ofString "data"), .ref data)]) M (by with_unfolding_all rfl) (by k_is) (BindsTo.of_eq rfl) (locs rfl) (by decide) ?_
  intro L h₁ tk hL F N
  with_reducible refine post_gen ?_
  intro Q₀ hQ₀
  obtain ⟨frs, hf, F₁, N₁, gb⟩ := frs_start MF F
  clear F N
  have X := MF.X.keeps gb
  have T := MF.T.keeps gb
  have Hb := HOK.cutF MF H
  have bf : ∀ a ∈ fsOf outer, (cut s.heap (fsOf outer)).get? a = none := fun a ha => cut_none ha
  (repeat' ((((fail_if_success (with_reducible show wpAny _ _ (exec (Stmt.While _ _ _ _) _) _ _ _)); (fail_if_success (with_reducible show wpAny _ _ (pyIter _) (fun it s₂ => LoopAtV _ _ _ _ _ _ _ _ _ it s₂) _ _)); (fail_if_success (with_reducible show wpAny _ _ (eval (Expr.ListComp _ _ _ _) _) _ _ _)); (fail_if_success (with_reducible show Exists _)))); first | (k_unfold; (try dsimp only)) | walk1 | (dsimp only; walk1) | fail "no step"))
  rename Fr _ _ _ _ => F₂
  rename News _ _ _ _ => N₂
  refine wpAny_callA (hC (AmbF.down (AmbF.inn MF F₂ N₂ hf (fun _ h => h) gb) (by (walk_at "M om"))) (HOK.inn Hb F₂) fun h₅ tk₅ t U => ?_)
  obtain ⟨frs₅, hf₅, F₅, N₅⟩ := frs_back (nx := []) F₂ N₂ hf (by simp) bf U
  dsimp only [List.nil_append] at N₅
  clear F₂ N₂ hf U
  (repeat' ((((fail_if_success (with_reducible show wpAny _ _ (exec (Stmt.While _ _ _ _) _) _ _ _)); (fail_if_success (with_reducible show wpAny _ _ (pyIter _) (fun it s₂ => LoopAtV _ _ _ _ _ _ _ _ _ it s₂) _ _)); (fail_if_success (with_reducible show wpAny _ _ (eval (Expr.ListComp _ _ _ _) _) _ _ _)); (fail_if_success (with_reducible show Exists _)))); first | (k_unfold; (try dsimp only)) | walk1 | (dsimp only; walk1) | fail "no step"))
  rename Fr _ _ _ _ => F₆
  rename News _ _ _ _ => N₆
  refine hQ₀ _ _ ?_
  exact hR _ _ (frs_end F₆ N₆ hf₅ (by walk_at "M sub"))
end
end T_EE
section T_EG
set_option maxHeartbeats 800000
set_option maxRecDepth 100000
inductive Ex
  | num
  | text
  | ref (nm : Str) (us : List Str)
  | neg (e : Ex)
  | plus (a b : Ex)
inductive ExAt (g : Heap) : Value → Ex → Prop
  | num {a : Addr} {t : Tok} {x : Value} : Tpl g a [.str (Str.ofString "number") t, x] → ExAt g (.ref a) .num
  | text {a : Addr} {t : Tok} {x : Value} : Tpl g a [.str (Str.ofString "text") t, x] → ExAt g (.ref a) .text
  | ref {a : Addr} {nm : Str} {tn : Tok} {q sb : Addr} {us : List Str} : RefAt g a nm tn q sb us [] .none → ExAt g (.ref a) (.ref nm us)
  | neg {a : Addr} {t : Tok} {v : Value} {e : Ex} : Tpl g a [.str (Str.ofString "neg") t, v] → ExAt g v e → ExAt g (.ref a) (.neg e)
  | plus {a : Addr} {t : Tok} {v v' : Value} {e e' : Ex} : Tpl g a [.str (Str.ofString "+") t, v, v'] → ExAt g v e → ExAt g v' e' → ExAt g (.ref a) (.plus e e')
noncomputable def exNames (its : List It) (kvs : List (Str × Value)) : Ex → List Str
  | .num => []
  | .text => [Str.ofString "a literal"]
  | .ref nm us => if (refNames its kvs nm us 0 false [] 0).isEmpty && !isNum (catOf its kvs nm us) then [nm] else refNames its kvs nm us 0 false [] 0
  | .neg e => exNames its kvs e
  | .plus a b => exNames its kvs a ++ exNames its kvs b
noncomputable def Ex.dep : Ex → Nat
  | .neg e => e.dep + 1
  | .plus a b => max a.dep b.dep + 1
  | _ => 0
/-- what operand_faults gives -/
noncomputable def OpGives (w : World) (g : Heap) (mean : ExcName → Option Value) (mg mb : Str → Option Value) (d : Nat) (data a : Addr) (names : List Str) : Prop :=
  ∀ {A : Around} {outer : List Env} {s : Shared} {R : Result → Shared → Prop}, AmbF w A g outer mean mg mb s.heap d → HOK A s.heap →
    (∀ h' tk l vs k tps, UpTo (fsOf outer) s.heap h' → Gave s.heap h' l names vs k tps → R (.ok (.ret (.ref l))) { s with heap := h', toks := tk }) → codeAny (model PR w) A (.call (.ref 271) ⟨[.ref data, .ref a], []⟩) R s
noncomputable def NameGives (w : World) (g : Heap) (mean : ExcName → Option Value) (mg mb : Str → Option Value) (a : Addr) (nm : Str) : Prop :=
  ∀ {A : Around} {outer : List Env} {s : Shared} {R : Result → Shared → Prop}, AmbF w A g outer mean mg mb s.heap 2 →
    (∀ h' tk t, s.heap.StaysIn h' → R (.ok (.ret (.str nm t))) { s with heap := h', toks := tk }) → codeAny (model PR w) A (.call (.ref 299) ⟨[.ref a], []⟩) R s
theorem FaultsIn.empty {tps : List (Addr × Obj)} {vs : List Value} {ns : List Str} (f : FaultsIn tps vs ns) : vs.isEmpty = ns.isEmpty := by cases f <;> rfl
theorem Gave.two {s₀ h : Heap} {outer : List Env} {L l t : Addr} {frs rest : List (Addr × Obj)} {wt nm : Str} {tw tn : Tok} {k j : Nat} (N : News (cut s₀ (fsOf outer)) L h ((t, tupObj (.str wt tw) (.str nm tn) j) :: (l, listOf (List.toArray [.ref t]) k) :: rest)) (hf : FrsOf s₀ outer frs)
    (hs : ∀ p ∈ frs, p ∈ (t, tupObj (.str wt tw) (.str nm tn) j) :: (l, listOf (List.toArray [.ref t]) k) :: rest) : Gave s₀ h l [nm] [.ref t] k [(t, tupObj (.str wt tw) (.str nm tn) j)] :=
  Gave.of N hf hs (mem1) (fun p hp => by rw [List.mem_singleton.mp hp]; exact ⟨.head _, _, _, _, rfl⟩) (.cons (.head _) .nil)
section
variable {w : World} {g : Heap} {mean : ExcName → Option Value} {mg mb : Str → Option Value}
theorem number_num {data a : Addr} {t : Tok} {x : Value} (ht : Tpl g a [.str (Str.ofString "number") t, x]) {fs : List Str} {cat nm' : Str} (hO : OpGives w g mean mg mb 24 data a fs) (hC : CatGives w g mean mg mb 20 data a cat) (hNm : NameGives w g mean mg mb a nm') (hfl : fs.length < 10000) :
    NumGives w g mean mg mb 30 data (.ref a) (if fs.isEmpty && !isNum cat then [nm'] else fs) := by
  intro A outer s R MF H hR
  have M := MF.M
  have B := M.B
  refine enter (rb := [((Str.ofString "expr"), .ref a), ((Str.ofString "data"), .ref data)]) M (by with_unfolding_all rfl) (by k_is) (BindsTo.of_eq rfl) (locs rfl) (by decide) ?_
  intro L h₁ tk hL F N
  with_reducible refine post_gen ?_
  intro Q₀ hQ₀
  obtain ⟨frs, hf, F₁, N₁, gb⟩ := frs_start MF F
  clear F N
  have X := MF.X.keeps gb
  have T := MF.T.keeps gb
  have Hb := HOK.cutF MF H
  have bf : ∀ a ∈ fsOf outer, (cut s.heap (fsOf outer)).get? a = none := fun a ha => cut_none ha
  have RT := ht.keeps gb
  (repeat' ((((fail_if_success (with_reducible show wpAny _ _ (exec (Stmt.While _ _ _ _) _) _ _ _)); (fail_if_success (with_reducible show wpAny _ _ (pyIter _) (fun it s₂ => LoopAtV _ _ _ _ _ _ _ _ _ it s₂) _ _)); (fail_if_success (with_reducible show wpAny _ _ (eval (Expr.ListComp _ _ _ _) _) _ _ _)); (fail_if_success (with_reducible show Exists _)))); first | (k_unfold; (try dsimp only)) | walk1 | (dsimp only; walk1) | fail "no step"))
  rename Fr _ _ _ _ => F₂
  rename News _ _ _ _ => N₂
  replace N₂ := news_tl N₂
  refine wpAny_callA (hO (AmbF.down (AmbF.inn MF F₂ N₂ hf (fun _ h => h) gb) (by (walk_at "M om"))) (HOK.inn Hb F₂) fun h₅ tk₅ l vs k tps U G => ?_)
  obtain ⟨frs₅, hf₅, F₅, N₅, _, _, hoff⟩ := G.back (nx := []) F₂ N₂ hf (by simp) bf U
  dsimp only [List.nil_append] at N₅
  have hG1 := G.faults
  have hG2 : ∀ p ∈ tps, ∃ x y j, p.2 = tupObj x y j := fun p hp => (G.pairs p hp).2.2
  have he := hG1.empty
  clear F₂ N₂ hf U G
  cases hfe : fs.isEmpty with
  | false =>
    rw [hfe] at he hR
    simp only [Bool.false_and, Bool.false_eq_true, if_false] at hR
    (repeat' ((((fail_if_success (with_reducible show wpAny _ _ (exec (Stmt.While _ _ _ _) _) _ _ _)); (fail_if_success (with_reducible show wpAny _ _ (pyIter _) (fun it s₂ => LoopAtV _ _ _ _ _ _ _ _ _ it s₂) _ _)); (fail_if_success (with_reducible show wpAny _ _ (eval (Expr.ListComp _ _ _ _) _) _ _ _)); (fail_if_success (with_reducible show Exists _)))); first | (k_unfold; (try dsimp only)) | walk1 | (dsimp only; walk1) | fail "no step"))
    rename Fr _ _ _ _ => F₆
    rename News _ _ _ _ => N₆
    refine hQ₀ _ _ ?_
    exact hR _ _ l vs k tps (frs_end F₆ N₆ hf₅ (by walk_at "M sub")) (Gave.of N₆ hf₅ (by walk_at "M sub") (mem1) (fun p hp => ⟨memT2 (List.mem_append_left _ hp), hG2 p hp⟩) hG1)
  | true =>
    rw [hfe] at he hR
    have hfs : fs = [] := List.isEmpty_iff.mp hfe
    have hvs : vs = [] := List.isEmpty_iff.mp he
    subst hfs hvs
    (repeat' ((((fail_if_success (with_reducible show wpAny _ _ (exec (Stmt.While _ _ _ _) _) _ _ _)); (fail_if_success (with_reducible show wpAny _ _ (pyIter _) (fun it s₂ => LoopAtV _ _ _ _ _ _ _ _ _ it s₂) _ _)); (fail_if_success (with_reducible show wpAny _ _ (eval (Expr.ListComp _ _ _ _) _) _ _ _)); (fail_if_success (with_reducible show Exists _)))); first | (k_unfold; (try dsimp only)) | walk1 | (dsimp only; walk1) | fail "no step"))
    rename Fr _ _ _ _ => F₆
    rename News _ _ _ _ => N₆
    have N₆' : News (cut s.heap (fsOf outer)) L _ (((l, listOf (List.toArray []) k) :: tps) ++ frs₅) := news_tl N₆
    have hs6 : ∀ p ∈ frs₅, p ∈ ((l, listOf (List.toArray []) k) :: tps) ++ frs₅ := fun p hp => List.mem_append_right _ hp
    refine wpAny_callA (isnum_code (d := 20) (AmbF.down (AmbF.inn MF F₆ N₆' hf₅ hs6 gb) (by (walk_at "M om"))) (HOK.inn Hb F₆) hC fun h₇ tk₇ U => ?_)
    obtain ⟨frs₇, hf₇, F₇, N₇⟩ := frs_back (nx := (l, listOf (List.toArray []) k) :: tps) F₆ N₆' hf₅ (fun p hp => frs_off N₆' hf₅ hs6 (List.mem_append_left _ hp) (by
      rcases List.mem_cons.mp hp with rfl | hp
      · intro es ep z; cases z
      · obtain ⟨x, y, j, z⟩ := hG2 p hp; rw [z]; intro es ep e; cases e)) bf U
    have hoff7 : ∀ p ∈ tps ++ frs₇, p.1 ≠ l := fun p hp => by
      rcases List.mem_append.mp hp with hq | hq
      · exact ne_kind N₇ (.tail _ hp) (q := (l, listOf (List.toArray []) k)) (.head _) (by obtain ⟨x, y, j, z⟩ := hG2 p hq; rw [z]; exact tup_ne_list)
      · exact ne_kind N₇ (.tail _ hp) (q := (l, listOf (List.toArray []) k)) (.head _) (frs_ne_list hf₇ hq)
    rw [List.cons_append] at N₇
    clear F₆ N₆ N₆' U hf₅ hoff
    cases hnum : isNum cat with
    | true =>
      rw [hnum, if_neg (by decide)] at hR
      (repeat' ((((fail_if_success (with_reducible show wpAny _ _ (exec (Stmt.While _ _ _ _) _) _ _ _)); (fail_if_success (with_reducible show wpAny _ _ (pyIter _) (fun it s₂ => LoopAtV _ _ _ _ _ _ _ _ _ it s₂) _ _)); (fail_if_success (with_reducible show wpAny _ _ (eval (Expr.ListComp _ _ _ _) _) _ _ _)); (fail_if_success (with_reducible show Exists _)))); first | (k_unfold; (try dsimp only)) | walk1 | (dsimp only; walk1) | fail "no step"))
      rename Fr _ _ _ _ => F₈
      rename News _ _ _ _ => N₈
      refine hQ₀ _ _ ?_
      exact hR _ _ l [] k tps (frs_end F₈ N₈ hf₇ (by walk_at "M sub")) (Gave.of N₈ hf₇ (by walk_at "M sub") (.head _) (fun p hp => ⟨.tail _ (List.mem_append_left _ hp), hG2 p hp⟩) hG1)
    | false =>
      rw [hnum, if_pos (by decide)] at hR
      (repeat' ((((fail_if_success (with_reducible show wpAny _ _ (exec (Stmt.While _ _ _ _) _) _ _ _)); (fail_if_success (with_reducible show wpAny _ _ (pyIter _) (fun it s₂ => LoopAtV _ _ _ _ _ _ _ _ _ it s₂) _ _)); (fail_if_success (with_reducible show wpAny _ _ (eval (Expr.ListComp _ _ _ _) _) _ _ _)); (fail_if_success (with_reducible show Exists _)))); first | (k_unfold; (try dsimp only)) | walk1 | (dsimp only; walk1) | fail "no step"))
      rename Fr _ _ _ _ => F₈
      rename News _ _ _ _ => N₈
      refine wpAny_callA (hNm (AmbF.down (AmbF.inn MF F₈ N₈ hf₇ (by walk_at "M sub") gb) (by (walk_at "M om"))) fun h₉ tk₉ tn' st => ?_)
      have F₉ := Fr.keeps F₈ st
      have N₉ := News.grown N₈ st
      clear F₈ N₈ st
      (repeat' ((((fail_if_success (with_reducible show wpAny _ _ (exec (Stmt.While _ _ _ _) _) _ _ _)); (fail_if_success (with_reducible show wpAny _ _ (pyIter _) (fun it s₂ => LoopAtV _ _ _ _ _ _ _ _ _ it s₂) _ _)); (fail_if_success (with_reducible show wpAny _ _ (eval (Expr.ListComp _ _ _ _) _) _ _ _)); (fail_if_success (with_reducible show Exists _)))); first | (k_unfold; (try dsimp only)) | walk1 | (dsimp only; walk1) | fail "no step"))
      rename Fr _ _ _ _ => F₁₀
      rename News _ _ _ _ => N₁₀
      refine hQ₀ _ _ ?_
      exact hR _ _ l _ _ _ (frs_end F₁₀ N₁₀ hf₇ (by walk_at "M sub")) (Gave.two N₁₀ hf₇ (by walk_at "M sub"))
theorem number_text {data a : Addr} {t : Tok} {x : Value} (ht : Tpl g a [.str (Str.ofString "text") t, x]) {fs : List Str} {cat nm' : Str} (hO : OpGives w g mean mg mb 24 data a fs) (hC : CatGives w g mean mg mb 20 data a cat) (hNm : NameGives w g mean mg mb a nm') (hfl : fs.length < 10000) :
    NumGives w g mean mg mb 30 data (.ref a) (if fs.isEmpty && !isNum cat then [nm'] else fs) := by
  intro A outer s R MF H hR
  have M := MF.M
  have B := M.B
  refine enter (rb := [((Str.ofString "expr"), .ref a), ((Str.ofString "data"), .ref data)]) M (by with_unfolding_all rfl) (by k_is) (BindsTo.of_eq rfl) (locs rfl) (by decide) ?_
  intro L h₁ tk hL F N
  with_reducible refine post_gen ?_
  intro Q₀ hQ₀
  obtain ⟨frs, hf, F₁, N₁, gb⟩ := frs_start MF F
  clear F N
  have X := MF.X.keeps gb
  have T := MF.T.keeps gb
  have Hb := HOK.cutF MF H
  have bf : ∀ a ∈ fsOf outer, (cut s.heap (fsOf outer)).get? a = none := fun a ha => cut_none ha
  have RT := ht.keeps gb
  (repeat' ((((fail_if_success (with_reducible show wpAny _ _ (exec (Stmt.While _ _ _ _) _) _ _ _)); (fail_if_success (with_reducible show wpAny _ _ (pyIter _) (fun it s₂ => LoopAtV _ _ _ _ _ _ _ _ _ it s₂) _ _)); (fail_if_success (with_reducible show wpAny _ _ (eval (Expr.ListComp _ _ _ _) _) _ _ _)); (fail_if_success (with_reducible show Exists _)))); first | (k_unfold; (try dsimp only)) | walk1 | (dsimp only; walk1) | fail "no step"))
  rename Fr _ _ _ _ => F₂
  rename News _ _ _ _ => N₂
  replace N₂ := news_tl N₂
  refine wpAny_callA (hO (AmbF.down (AmbF.inn MF F₂ N₂ hf (fun _ h => h) gb) (by (walk_at "M om"))) (HOK.inn Hb F₂) fun h₅ tk₅ l vs k tps U G => ?_)
  obtain ⟨frs₅, hf₅, F₅, N₅, _, _, hoff⟩ := G.back (nx := []) F₂ N₂ hf (by simp) bf U
  dsimp only [List.nil_append] at N₅
  have hG1 := G.faults
  have hG2 : ∀ p ∈ tps, ∃ x y j, p.2 = tupObj x y j := fun p hp => (G.pairs p hp).2.2
  have he := hG1.empty
  clear F₂ N₂ hf U G
  cases hfe : fs.isEmpty with
  | false =>
    rw [hfe] at he hR
    simp only [Bool.false_and, Bool.false_eq_true, if_false] at hR
    (repeat' ((((fail_if_success (with_reducible show wpAny _ _ (exec (Stmt.While _ _ _ _) _) _ _ _)); (fail_if_success (with_reducible show wpAny _ _ (pyIter _) (fun it s₂ => LoopAtV _ _ _ _ _ _ _ _ _ it s₂) _ _)); (fail_if_success (with_reducible show wpAny _ _ (eval (Expr.ListComp _ _ _ _) _) _ _ _)); (fail_if_success (with_reducible show Exists _)))); first | (k_unfold; (try dsimp only)) | walk1 | (dsimp only; walk1) | fail "no step"))
    rename Fr _ _ _ _ => F₆
    rename News _ _ _ _ => N₆
    refine hQ₀ _ _ ?_
    exact hR _ _ l vs k tps (frs_end F₆ N₆ hf₅ (by walk_at "M sub")) (Gave.of N₆ hf₅ (by walk_at "M sub") (mem1) (fun p hp => ⟨memT2 (List.mem_append_left _ hp), hG2 p hp⟩) hG1)
  | true =>
    rw [hfe] at he hR
    have hfs : fs = [] := List.isEmpty_iff.mp hfe
    have hvs : vs = [] := List.isEmpty_iff.mp he
    subst hfs hvs
    (repeat' ((((fail_if_success (with_reducible show wpAny _ _ (exec (Stmt.While _ _ _ _) _) _ _ _)); (fail_if_success (with_reducible show wpAny _ _ (pyIter _) (fun it s₂ => LoopAtV _ _ _ _ _ _ _ _ _ it s₂) _ _)); (fail_if_success (with_reducible show wpAny _ _ (eval (Expr.ListComp _ _ _ _) _) _ _ _)); (fail_if_success (with_reducible show Exists _)))); first | (k_unfold; (try dsimp only)) | walk1 | (dsimp only; walk1) | fail "no step"))
    rename Fr _ _ _ _ => F₆
    rename News _ _ _ _ => N₆
    have N₆' : News (cut s.heap (fsOf outer)) L _ (((l, listOf (List.toArray []) k) :: tps) ++ frs₅) := news_tl N₆
    have hs6 : ∀ p ∈ frs₅, p ∈ ((l, listOf (List.toArray []) k) :: tps) ++ frs₅ := fun p hp => List.mem_append_right _ hp
    refine wpAny_callA (isnum_code (d := 20) (AmbF.down (AmbF.inn MF F₆ N₆' hf₅ hs6 gb) (by (walk_at "M om"))) (HOK.inn Hb F₆) hC fun h₇ tk₇ U => ?_)
    obtain ⟨frs₇, hf₇, F₇, N₇⟩ := frs_back (nx := (l, listOf (List.toArray []) k) :: tps) F₆ N₆' hf₅ (fun p hp => frs_off N₆' hf₅ hs6 (List.mem_append_left _ hp) (by
      rcases List.mem_cons.mp hp with rfl | hp
      · intro es ep z; cases z
      · obtain ⟨x, y, j, z⟩ := hG2 p hp; rw [z]; intro es ep e; cases e)) bf U
    have hoff7 : ∀ p ∈ tps ++ frs₇, p.1 ≠ l := fun p hp => by
      rcases List.mem_append.mp hp with hq | hq
      · exact ne_kind N₇ (.tail _ hp) (q := (l, listOf (List.toArray []) k)) (.head _) (by obtain ⟨x, y, j, z⟩ := hG2 p hq; rw [z]; exact tup_ne_list)
      · exact ne_kind N₇ (.tail _ hp) (q := (l, listOf (List.toArray []) k)) (.head _) (frs_ne_list hf₇ hq)
    rw [List.cons_append] at N₇
    clear F₆ N₆ N₆' U hf₅ hoff
    cases hnum : isNum cat with
    | true =>
      rw [hnum, if_neg (by decide)] at hR
      (repeat' ((((fail_if_success (with_reducible show wpAny _ _ (exec (Stmt.While _ _ _ _) _) _ _ _)); (fail_if_success (with_reducible show wpAny _ _ (pyIter _) (fun it s₂ => LoopAtV _ _ _ _ _ _ _ _ _ it s₂) _ _)); (fail_if_success (with_reducible show wpAny _ _ (eval (Expr.ListComp _ _ _ _) _) _ _ _)); (fail_if_success (with_reducible show Exists _)))); first | (k_unfold; (try dsimp only)) | walk1 | (dsimp only; walk1) | fail "no step"))
      rename Fr _ _ _ _ => F₈
      rename News _ _ _ _ => N₈
      refine hQ₀ _ _ ?_
      exact hR _ _ l [] k tps (frs_end F₈ N₈ hf₇ (by walk_at "M sub")) (Gave.of N₈ hf₇ (by walk_at "M sub") (.head _) (fun p hp => ⟨.tail _ (List.mem_append_left _ hp), hG2 p hp⟩) hG1)
    | false =>
      rw [hnum, if_pos (by decide)] at hR
      (repeat' ((((fail_if_success (with_reducible show wpAny _ _ (exec (Stmt.While _ _ _ _) _) _ _ _)); (fail_if_success (with_reducible show wpAny _ _ (pyIter _) (fun it s₂ => LoopAtV _ _ _ _ _ _ _ _ _ it s₂) _ _)); (fail_if_success (with_reducible show wpAny _ _ (eval (Expr.ListComp _ _ _ _) _) _ _ _)); (fail_if_success (with_reducible show Exists _)))); first | (k_unfold; (try dsimp only)) | walk1 | (dsimp only; walk1) | fail "no step"))
      rename Fr _ _ _ _ => F₈
      rename News _ _ _ _ => N₈
      refine wpAny_callA (hNm (AmbF.down (AmbF.inn MF F₈ N₈ hf₇ (by walk_at "M sub") gb) (by (walk_at "M om"))) fun h₉ tk₉ tn' st => ?_)
      have F₉ := Fr.keeps F₈ st
      have N₉ := News.grown N₈ st
      clear F₈ N₈ st
      (repeat' ((((fail_if_success (with_reducible show wpAny _ _ (exec (Stmt.While _ _ _ _) _) _ _ _)); (fail_if_success (with_reducible show wpAny _ _ (pyIter _) (fun it s₂ => LoopAtV _ _ _ _ _ _ _ _ _ it s₂) _ _)); (fail_if_success (with_reducible show wpAny _ _ (eval (Expr.ListComp _ _ _ _) _) _ _ _)); (fail_if_success (with_reducible show Exists _)))); first | (k_unfold; (try dsimp only)) | walk1 | (dsimp only; walk1) | fail "no step"))
      rename Fr _ _ _ _ => F₁₀
      rename News _ _ _ _ => N₁₀
      refine hQ₀ _ _ ?_
      exact hR _ _ l _ _ _ (frs_end F₁₀ N₁₀ hf₇ (by walk_at "M sub")) (Gave.two N₁₀ hf₇ (by walk_at "M sub"))
theorem number_ref {data a : Addr} {nm : Str} {tn : Tok} {q sb : Addr} {us : List Str} (ht : RefAt g a nm tn q sb us [] .none) {fs : List Str} {cat nm' : Str} (hO : OpGives w g mean mg mb 24 data a fs) (hC : CatGives w g mean mg mb 20 data a cat) (hNm : NameGives w g mean mg mb a nm') (hfl : fs.length < 10000) :
    NumGives w g mean mg mb 30 data (.ref a) (if fs.isEmpty && !isNum cat then [nm'] else fs) := by
  intro A outer s R MF H hR
  have M := MF.M
  have B := M.B
  refine enter (rb := [((Str.ofString "expr"), .ref a), ((Str.ofString "data"), .ref data)]) M (by with_unfolding_all rfl) (by k_is) (BindsTo.of_eq rfl) (locs rfl) (by decide) ?_
  intro L h₁ tk hL F N
  with_reducible refine post_gen ?_
  intro Q₀ hQ₀
  obtain ⟨frs, hf, F₁, N₁, gb⟩ := frs_start MF F
  clear F N
  have X := MF.X.keeps gb
  have T := MF.T.keeps gb
  have Hb := HOK.cutF MF H
  have bf : ∀ a ∈ fsOf outer, (cut s.heap (fsOf outer)).get? a = none := fun a ha => cut_none ha
  obtain ⟨⟨t0, RT⟩, _, _, _, _, _⟩ := ht.keeps gb
  (repeat' ((((fail_if_success (with_reducible show wpAny _ _ (exec (Stmt.While _ _ _ _) _) _ _ _)); (fail_if_success (with_reducible show wpAny _ _ (pyIter _) (fun it s₂ => LoopAtV _ _ _ _ _ _ _ _ _ it s₂) _ _)); (fail_if_success (with_reducible show wpAny _ _ (eval (Expr.ListComp _ _ _ _) _) _ _ _)); (fail_if_success (with_reducible show Exists _)))); first | (k_unfold; (try dsimp only)) | walk1 | (dsimp only; walk1) | fail "no step"))
  rename Fr _ _ _ _ => F₂
  rename News _ _ _ _ => N₂
  replace N₂ := news_tl N₂
  refine wpAny_callA (hO (AmbF.down (AmbF.inn MF F₂ N₂ hf (fun _ h => h) gb) (by (walk_at "M om"))) (HOK.inn Hb F₂) fun h₅ tk₅ l vs k tps U G => ?_)
  obtain ⟨frs₅, hf₅, F₅, N₅, _, _, hoff⟩ := G.back (nx := []) F₂ N₂ hf (by simp) bf U
  dsimp only [List.nil_append] at N₅
  have hG1 := G.faults
  have hG2 : ∀ p ∈ tps, ∃ x y j, p.2 = tupObj x y j := fun p hp => (G.pairs p hp).2.2
  have he := hG1.empty
  clear F₂ N₂ hf U G
  cases hfe : fs.isEmpty with
  | false =>
    rw [hfe] at he hR
    simp only [Bool.false_and, Bool.false_eq_true, if_false] at hR
    (repeat' ((((fail_if_success (with_reducible show wpAny _ _ (exec (Stmt.While _ _ _ _) _) _ _ _)); (fail_if_success (with_reducible show wpAny _ _ (pyIter _) (fun it s₂ => LoopAtV _ _ _ _ _ _ _ _ _ it s₂) _ _)); (fail_if_success (with_reducible show wpAny _ _ (eval (Expr.ListComp _ _ _ _) _) _ _ _)); (fail_if_success (with_reducible show Exists _)))); first | (k_unfold; (try dsimp only)) | walk1 | (dsimp only; walk1) | fail "no step"))
    rename Fr _ _ _ _ => F₆
    rename News _ _ _ _ => N₆
    refine hQ₀ _ _ ?_
    exact hR _ _ l vs k tps (frs_end F₆ N₆ hf₅ (by walk_at "M sub")) (Gave.of N₆ hf₅ (by walk_at "M sub") (mem1) (fun p hp => ⟨memT2 (List.mem_append_left _ hp), hG2 p hp⟩) hG1)
  | true =>
    rw [hfe] at he hR
    have hfs : fs = [] := List.isEmpty_iff.mp hfe
    have hvs : vs = [] := List.isEmpty_iff.mp he
    subst hfs hvs
    (repeat' ((((fail_if_success (with_reducible show wpAny _ _ (exec (Stmt.While _ _ _ _) _) _ _ _)); (fail_if_success (with_reducible show wpAny _ _ (pyIter _) (fun it s₂ => LoopAtV _ _ _ _ _ _ _ _ _ it s₂) _ _)); (fail_if_success (with_reducible show wpAny _ _ (eval (Expr.ListComp _ _ _ _) _) _ _ _)); (fail_if_success (with_reducible show Exists _)))); first | (k_unfold; (try dsimp only)) | walk1 | (dsimp only; walk1) | fail "no step"))
    rename Fr _ _ _ _ => F₆
    rename News _ _ _ _ => N₆
    have N₆' : News (cut s.heap (fsOf outer)) L _ (((l, listOf (List.toArray []) k) :: tps) ++ frs₅) := news_tl N₆
    have hs6 : ∀ p ∈ frs₅, p ∈ ((l, listOf (List.toArray []) k) :: tps) ++ frs₅ := fun p hp => List.mem_append_right _ hp
    refine wpAny_callA (isnum_code (d := 20) (AmbF.down (AmbF.inn MF F₆ N₆' hf₅ hs6 gb) (by (walk_at "M om"))) (HOK.inn Hb F₆) hC fun h₇ tk₇ U => ?_)
    obtain ⟨frs₇, hf₇, F₇, N₇⟩ := frs_back (nx := (l, listOf (List.toArray []) k) :: tps) F₆ N₆' hf₅ (fun p hp => frs_off N₆' hf₅ hs6 (List.mem_append_left _ hp) (by
      rcases List.mem_cons.mp hp with rfl | hp
      · intro es ep z; cases z
      · obtain ⟨x, y, j, z⟩ := hG2 p hp; rw [z]; intro es ep e; cases e)) bf U
    have hoff7 : ∀ p ∈ tps ++ frs₇, p.1 ≠ l := fun p hp => by
      rcases List.mem_append.mp hp with hq | hq
      · exact ne_kind N₇ (.tail _ hp) (q := (l, listOf (List.toArray []) k)) (.head _) (by obtain ⟨x, y, j, z⟩ := hG2 p hq; rw [z]; exact tup_ne_list)
      · exact ne_kind N₇ (.tail _ hp) (q := (l, listOf (List.toArray []) k)) (.head _) (frs_ne_list hf₇ hq)
    rw [List.cons_append] at N₇
    clear F₆ N₆ N₆' U hf₅ hoff
    cases hnum : isNum cat with
    | true =>
      rw [hnum, if_neg (by decide)] at hR
      (repeat' ((((fail_if_success (with_reducible show wpAny _ _ (exec (Stmt.While _ _ _ _) _) _ _ _)); (fail_if_success (with_reducible show wpAny _ _ (pyIter _) (fun it s₂ => LoopAtV _ _ _ _ _ _ _ _ _ it s₂) _ _)); (fail_if_success (with_reducible show wpAny _ _ (eval (Expr.ListComp _ _ _ _) _) _ _ _)); (fail_if_success (with_reducible show Exists _)))); first | (k_unfold; (try dsimp only)) | walk1 | (dsimp only; walk1) | fail "no step"))
      rename Fr _ _ _ _ => F₈
      rename News _ _ _ _ => N₈
      refine hQ₀ _ _ ?_
      exact hR _ _ l [] k tps (frs_end F₈ N₈ hf₇ (by walk_at "M sub")) (Gave.of N₈ hf₇ (by walk_at "M sub") (.head _) (fun p hp => ⟨.tail _ (List.mem_append_left _ hp), hG2 p hp⟩) hG1)
    | false =>
      rw [hnum, if_pos (by decide)] at hR
      (repeat' ((((fail_if_success (with_reducible show wpAny _ _ (exec (Stmt.While _ _ _ _) _) _ _ _)); (fail_if_success (with_reducible show wpAny _ _ (pyIter _) (fun it s₂ => LoopAtV _ _ _ _ _ _ _ _ _ it s₂) _ _)); (fail_if_success (with_reducible show wpAny _ _ (eval (Expr.ListComp _ _ _ _) _) _ _ _)); (fail_if_success (with_reducible show Exists _)))); first | (k_unfold; (try dsimp only)) | walk1 | (dsimp only; walk1) | fail "no step"))
      rename Fr _ _ _ _ => F₈
      rename News _ _ _ _ => N₈
      refine wpAny_callA (hNm (AmbF.down (AmbF.inn MF F₈ N₈ hf₇ (by walk_at "M sub") gb) (by (walk_at "M om"))) fun h₉ tk₉ tn' st => ?_)
      have F₉ := Fr.keeps F₈ st
      have N₉ := News.grown N₈ st
      clear F₈ N₈ st
      (repeat' ((((fail_if_success (with_reducible show wpAny _ _ (exec (Stmt.While _ _ _ _) _) _ _ _)); (fail_if_success (with_reducible show wpAny _ _ (pyIter _) (fun it s₂ => LoopAtV _ _ _ _ _ _ _ _ _ it s₂) _ _)); (fail_if_success (with_reducible show wpAny _ _ (eval (Expr.ListComp _ _ _ _) _) _ _ _)); (fail_if_success (with_reducible show Exists _)))); first | (k_unfold; (try dsimp only)) | walk1 | (dsimp only; walk1) | fail "no step"))
      rename Fr _ _ _ _ => F₁₀
      rename News _ _ _ _ => N₁₀
      refine hQ₀ _ _ ?_
      exact hR _ _ l _ _ _ (frs_end F₁₀ N₁₀ hf₇ (by walk_at "M sub")) (Gave.two N₁₀ hf₇ (by walk_at "M sub"))
end
end T_EG
section T_EH
set_option maxHeartbeats 800000
set_option maxRecDepth 100000
section
variable {w : World} {A : Around} {g : Heap} {outer : List Env} {mean : ExcName → Option Value} {mg mb : Str → Option Value} {s : Shared} {n : Nat} {R : Result → Shared → Prop}
theorem nameof_num {base : Heap} {a : Addr} {tt : Tok} {rest : List Value}
   (M : Amb w A base outer mean mg mb s.heap 2) (ht : Tpl s.heap a (.str (Str.ofString "number") tt :: rest))
   (hR : ∀ h' tk t, s.heap.StaysIn h' → R (.ok (.ret (.str (Str.ofString "a literal") t))) { s with heap := h', toks := tk }) :
   codeAny (model PR w) A (.call (.ref 299) ⟨[.ref a], []⟩) R s := by
  w_top off
  have X := M.X
  have T := M.T
  have B := M.B
  refine enter (rb := [(Str.ofString "operand", .ref a)]) M (by with_unfolding_all rfl) (by k_is) (BindsTo.of_eq rfl) (locs rfl) (by decide) ?_
  intro L h₁ tk hL F N
  with_reducible refine post_gen ?_
  intro Q₀ hQ₀
  (repeat' ((((fail_if_success (with_reducible show wpAny _ _ (exec (Stmt.While _ _ _ _) _) _ _ _)); (fail_if_success (with_reducible show wpAny _ _ (pyIter _) (fun it s₂ => LoopAtV _ _ _ _ _ _ _ _ _ it s₂) _ _)); (fail_if_success (with_reducible show wpAny _ _ (eval (Expr.ListComp _ _ _ _) _) _ _ _)); (fail_if_success (with_reducible show Exists _)))); first | (k_unfold; (try dsimp only)) | walk1 | (dsimp only; walk1) | fail "no step"))
  rename Fr _ _ _ _ => F₂
  refine hQ₀ _ _ ?_
  exact hR _ _ _ F₂.keep
end
section
variable {w : World} {g : Heap} {mean : ExcName → Option Value} {mg mb : Str → Option Value}
theorem number_neg {data a : Addr} {t : Tok} {v : Value} {ns : List Str} {d : Nat} (ht : Tpl g a [.str (Str.ofString "neg") t, v]) (hV : NumGives w g mean mg mb d data v ns) : NumGives w g mean mg mb (d + 1) data (.ref a) ns := by
  intro A outer s R MF H hR
  have M := MF.M
  have B := M.B
  refine enter (rb := [((Str.ofString "expr"), .ref a), ((Str.ofString "data"), .ref data)]) M (by with_unfolding_all rfl) (by k_is) (BindsTo.of_eq rfl) (locs rfl) (by decide) ?_
  intro L h₁ tk hL F N
  with_reducible refine post_gen ?_
  intro Q₀ hQ₀
  obtain ⟨frs, hf, F₁, N₁, gb⟩ := frs_start MF F
  clear F N
  have X := MF.X.keeps gb
  have T := MF.T.keeps gb
  have Hb := HOK.cutF MF H
  have bf : ∀ a ∈ fsOf outer, (cut s.heap (fsOf outer)).get? a = none := fun a ha => cut_none ha
  have RT := ht.keeps gb
  (repeat' ((((fail_if_success (with_reducible show wpAny _ _ (exec (Stmt.While _ _ _ _) _) _ _ _)); (fail_if_success (with_reducible show wpAny _ _ (pyIter _) (fun it s₂ => LoopAtV _ _ _ _ _ _ _ _ _ it s₂) _ _)); (fail_if_success (with_reducible show wpAny _ _ (eval (Expr.ListComp _ _ _ _) _) _ _ _)); (fail_if_success (with_reducible show Exists _)))); first | (k_unfold; (try dsimp only)) | walk1 | (dsimp only; walk1) | fail "no step"))
  rename Fr _ _ _ _ => F₂
  rename News _ _ _ _ => N₂
  refine wpAny_callA (hV (AmbF.inn MF F₂ N₂ hf (fun _ h => h) gb) (HOK.inn Hb F₂) fun h₅ tk₅ l vs k tps U G => ?_)
  obtain ⟨frs₅, hf₅, F₅, N₅, _, _, hoff⟩ := G.back (nx := []) F₂ N₂ hf (by simp) bf U
  dsimp only [List.nil_append] at N₅
  have hG1 := G.faults
  have hG2 := G.pairs
  refine hQ₀ _ _ ?_
  exact hR _ _ l vs k tps (frs_end F₅ N₅ hf₅ (by walk_at "M sub")) (Gave.of N₅ hf₅ (by walk_at "M sub") (.head _) (fun p hp => ⟨.tail _ (List.mem_append_left _ hp), (hG2 p hp).2.2⟩) hG1)
theorem number_plus {data a : Addr} {t : Tok} {v v' : Value} {ns ns' : List Str} {d : Nat} (ht : Tpl g a [.str (Str.ofString "+") t, v, v']) (hV : NumGives w g mean mg mb d data v ns) (hV' : NumGives w g mean mg mb d data v' ns') (hl : (ns ++ ns').length < 10000) : NumGives w g mean mg mb (d + 1) data (.ref a) (ns ++ ns') := by
  intro A outer s R MF H hR
  have M := MF.M
  have B := M.B
  refine enter (rb := [((Str.ofString "expr"), .ref a), ((Str.ofString "data"), .ref data)]) M (by with_unfolding_all rfl) (by k_is) (BindsTo.of_eq rfl) (locs rfl) (by decide) ?_
  intro L h₁ tk hL F N
  with_reducible refine post_gen ?_
  intro Q₀ hQ₀
  obtain ⟨frs, hf, F₁, N₁, gb⟩ := frs_start MF F
  clear F N
  have X := MF.X.keeps gb
  have T := MF.T.keeps gb
  have Hb := HOK.cutF MF H
  have bf : ∀ a ∈ fsOf outer, (cut s.heap (fsOf outer)).get? a = none := fun a ha => cut_none ha
  have RT := ht.keeps gb
  (repeat' ((((fail_if_success (with_reducible show wpAny _ _ (exec (Stmt.While _ _ _ _) _) _ _ _)); (fail_if_success (with_reducible show wpAny _ _ (pyIter _) (fun it s₂ => LoopAtV _ _ _ _ _ _ _ _ _ it s₂) _ _)); (fail_if_success (with_reducible show wpAny _ _ (eval (Expr.ListComp _ _ _ _) _) _ _ _)); (fail_if_success (with_reducible show Exists _)))); first | (k_unfold; (try dsimp only)) | walk1 | (dsimp only; walk1) | fail "no step"))
  rename Fr _ _ _ _ => F₂
  rename News _ _ _ _ => N₂
  replace N₂ := news_tl N₂
  refine wpAny_callA (hV (AmbF.inn MF F₂ N₂ hf (fun _ h => h) gb) (HOK.inn Hb F₂) fun h₅ tk₅ l vs k tps U G => ?_)
  obtain ⟨frs₅, hf₅, F₅, N₅, _, _, hoff⟩ := G.back (nx := []) F₂ N₂ hf (by simp) bf U
  dsimp only [List.nil_append] at N₅
  have hG1 := G.faults
  have hG2 : ∀ p ∈ tps, ∃ x y j, p.2 = tupObj x y j := fun p hp => (G.pairs p hp).2.2
  clear F₂ N₂ hf U G
  (repeat' ((((fail_if_success (with_reducible show wpAny _ _ (exec (Stmt.While _ _ _ _) _) _ _ _)); (fail_if_success (with_reducible show wpAny _ _ (pyIter _) (fun it s₂ => LoopAtV _ _ _ _ _ _ _ _ _ it s₂) _ _)); (fail_if_success (with_reducible show wpAny _ _ (eval (Expr.ListComp _ _ _ _) _) _ _ _)); (fail_if_success (with_reducible show Exists _)))); first | (k_unfold; (try dsimp only)) | walk1 | (dsimp only; walk1) | fail "no step"))
  rename Fr _ _ _ _ => F₆
  rename News _ _ _ _ => N₆
  have N₆' : News (cut s.heap (fsOf outer)) L _ (((l, listOf vs.toArray k) :: tps) ++ frs₅) := N₆
  have hs6 : ∀ p ∈ frs₅, p ∈ ((l, listOf vs.toArray k) :: tps) ++ frs₅ := fun p hp => List.mem_append_right _ hp
  refine wpAny_callA (hV' (AmbF.inn MF F₆ N₆' hf₅ hs6 gb) (HOK.inn Hb F₆) fun h₇ tk₇ l' vs' k' tps' U G => ?_)
  obtain ⟨frs₇, hf₇, F₇, N₇, hl7, _, hoff7⟩ := G.back F₆ N₆' hf₅ (fun p hp => frs_off N₆' hf₅ hs6 (List.mem_append_left _ hp) (by
      rcases List.mem_cons.mp hp with rfl | hp
      · intro es ep z; cases z
      · obtain ⟨x, y, j, z⟩ := hG2 p hp; rw [z]; intro es ep e; cases e)) bf U
  have hG3 := G.faults
  have hG4 : ∀ p ∈ tps', ∃ x y j, p.2 = tupObj x y j := fun p hp => (G.pairs p hp).2.2
  have hl1 := hG1.len
  have hl2 := hG3.len
  rw [List.length_append] at hl
  rw [List.cons_append] at N₇
  clear F₆ N₆ N₆' U G
  (repeat' ((((fail_if_success (with_reducible show wpAny _ _ (exec (Stmt.While _ _ _ _) _) _ _ _)); (fail_if_success (with_reducible show wpAny _ _ (pyIter _) (fun it s₂ => LoopAtV _ _ _ _ _ _ _ _ _ it s₂) _ _)); (fail_if_success (with_reducible show wpAny _ _ (eval (Expr.ListComp _ _ _ _) _) _ _ _)); (fail_if_success (with_reducible show Exists _)))); first | (k_unfold; (try dsimp only)) | walk1 | (dsimp only; walk1) | fail "no step"))
  rename Fr _ _ _ _ => F₈
  rename News _ _ _ _ => N₈
  refine hQ₀ _ _ ?_
  refine hR _ _ _ (vs ++ vs') 0 (tps ++ tps') (frs_end F₈ N₈ hf₇ (by walk_at "M sub")) (Gave.of N₈ hf₇ (by walk_at "M sub") (.head _) (fun p hp => ?_) ((hG1.mono fun p hp => List.mem_append_left _ hp).append (hG3.mono fun p hp => List.mem_append_right _ hp)))
  rcases List.mem_append.mp hp with hp | hp
  · exact ⟨memT3 (List.mem_append_left _ hp), hG2 p hp⟩
  · exact ⟨memT3 (List.mem_append_right _ (List.mem_append_left _ hp)), hG4 p hp⟩

theorem part_simple {data a q sb : Addr} {nm : Str} {tn : Tok} {us : List Str} (RF : RefAt g a nm tn q sb us [] .none) : PartGives w g mean mg mb 1 data a [] :=
  part_code (d := 0) (nss := []) (pnames := []) RF .nil (by decide) (.inl ⟨rfl, rfl⟩)
theorem exNames_ref_le {its : List It} {kvs : List (Str × Value)} {nm : Str} {us : List Str} : (refNames its kvs nm us 0 false [] 0).length ≤ 1 := by
  unfold refNames
  split
  · split <;> simp
  · split
    · split <;> simp
    · simp
theorem num_code {data root xd : Addr} {its : List It} {kvs : List (Str × Value)} {v : Value} {e : Ex} (D : DataAt g data root xd) (TR : Tree g root its) (I : Ix w g xd kvs) (x : ExAt g v e) (hl : (exNames its kvs e).length < 10000) :
    NumGives w g mean mg mb (30 + e.dep) data v (exNames its kvs e) := by
  induction x with
  | @num a t x ht =>
    have z : NumGives w g mean mg mb 30 data (.ref a) _ := number_num (w := w) (mean := mean) (mg := mg) (mb := mb) (data := data) ht (fs := []) (cat := (Str.ofString "numeric")) (nm' := Str.ofString "a literal")
      (fun MF H hR => opf_lit (AmbF.down MF (by decide)) ht (by decide) hR)
      (fun MF H hR => cat_num (Amb.down MF.M (by decide)) (ht.keeps MF.M.B.stays) fun h' tk t st => hR h' tk t (.of_stays st))
      (fun MF hR => nameof_num (Amb.down MF.M (by decide)) (ht.keeps MF.M.B.stays) hR) (by decide)
    rw [show isNum (Str.ofString "numeric") = true from by decide +kernel] at z
    exact @z
  | @text a t x ht =>
    have z : NumGives w g mean mg mb 30 data (.ref a) _ := number_text (w := w) (mean := mean) (mg := mg) (mb := mb) (data := data) ht (fs := []) (cat := (Str.ofString "alphanumeric")) (nm' := Str.ofString "a literal")
      (fun MF H hR => opf_lit (AmbF.down MF (by decide)) ht (by decide) hR)
      (fun MF H hR => cat_text (Amb.down MF.M (by decide)) (ht.keeps MF.M.B.stays) fun h' tk t st => hR h' tk t (.of_stays st))
      (fun MF hR => nameof_text (Amb.down MF.M (by decide)) (ht.keeps MF.M.B.stays) hR) (by decide)
    rw [show isNum (Str.ofString "alphanumeric") = false from by decide +kernel] at z
    exact @z
  | @ref a nm tn q sb us RF =>
    have z : NumGives w g mean mg mb 30 data (.ref a) _ := number_ref (w := w) (mean := mean) (mg := mg) (mb := mb) (data := data) RF (fs := refNames its kvs nm us 0 false [] 0) (cat := catOf its kvs nm us) (nm' := nm)
      (fun MF H hR => opf_ref (d := 1) (AmbF.down MF (by decide)) H D TR I RF (.inl rfl) (part_simple RF) (by decide) hR)
      (fun MF H hR => cat_ref (AmbF.down MF (by decide)) H D TR I RF hR)
      (fun MF hR => nameof_ref (Amb.down MF.M (by decide)) (RF.keeps MF.M.B.stays) fun h' tk st => hR h' tk _ st) (by have := @exNames_ref_le its kvs nm us; (walk_at "M om"))
    exact @z
  | neg ht _ ih =>
    intro A outer s R MF H hR
    exact number_neg (w := w) (mean := mean) (mg := mg) (mb := mb) ht (fun MF H hR => ih hl MF H hR) MF H hR
  | @plus a t v v' e e' ht _ _ ih ih' =>
    have hl' : (exNames its kvs e ++ exNames its kvs e').length < 10000 := hl
    rw [List.length_append] at hl'
    intro A outer s R MF H hR
    exact number_plus (w := w) (mean := mean) (mg := mg) (mb := mb) (d := 30 + max e.dep e'.dep) ht (fun MF H hR => ih (by (walk_at "M om")) (AmbF.down MF (by (walk_at "M om"))) H hR) (fun MF H hR => ih' (by (walk_at "M om")) (AmbF.down MF (by (walk_at "M om"))) H hR) hl MF H hR
end
end T_EH
section T_EI
set_option maxHeartbeats 800000
set_option maxRecDepth 100000
/-- the values of a list stand for these expressions -/
inductive ExsAt (g : Heap) : List Value → List Ex → Prop
  | nil : ExsAt g [] []
  | cons {v : Value} {e : Ex} {vs : List Value} {es : List Ex} : ExAt g v e → ExsAt g vs es → ExsAt g (v :: vs) (e :: es)
theorem ExsAt.len {g : Heap} {vs : List Value} {es : List Ex} (x : ExsAt g vs es) : vs.length = es.length := by
  induction x with
  | nil => rfl
  | cons _ _ ih => simp [ih]
theorem ExAt.ref_ {g : Heap} {v : Value} {e : Ex} (x : ExAt g v e) : ∃ a, v = .ref a := by cases x <;> exact ⟨_, rfl⟩
/-- the two ends of a part -/
inductive PartAt (g : Heap) : Value → Option (Ex × Option Ex) → Prop
  | none : PartAt g .none none
  | one {p : Addr} {v : Value} {e : Ex} : Tpl g p [v, .none] → ExAt g v e → PartAt g (.ref p) (some (e, none))
  | two {p : Addr} {v v' : Value} {e e' : Ex} : Tpl g p [v, v'] → ExAt g v e → ExAt g v' e' → PartAt g (.ref p) (some (e, some e'))
noncomputable def partNames (its : List It) (kvs : List (Str × Value)) : Option (Ex × Option Ex) → List Str
  | none => []
  | some (e, none) => exNames its kvs e
  | some (e, some e') => exNames its kvs e ++ exNames its kvs e'
noncomputable def innerNames (its : List It) (kvs : List (Str × Value)) (subs : List Ex) (part : Option (Ex × Option Ex)) : List Str := (subs.map (exNames its kvs)).flatten ++ partNames its kvs part
noncomputable def Ex.ok (e : Ex) : Prop := e.dep ≤ 1
theorem exNames_le {its : List It} {kvs : List (Str × Value)} {e : Ex} (h : e.ok) : (exNames its kvs e).length ≤ 2 := by
  have leaf : ∀ {e : Ex}, e.dep = 0 → (exNames its kvs e).length ≤ 1 := by
    intro e h
    cases e with
    | num => exact Nat.zero_le _
    | text => exact Nat.le_refl _
    | ref nm us =>
      unfold exNames
      split
      · exact Nat.le_refl _
      · exact exNames_ref_le
    | neg e => exact absurd h (by show e.dep + 1 ≠ 0; (walk_at "M om"))
    | plus a b => exact absurd h (by show max a.dep b.dep + 1 ≠ 0; (walk_at "M om"))
  cases e with
  | neg e => exact Nat.le_succ_of_le (leaf (e := e) (by have : e.dep + 1 ≤ 1 := h; (walk_at "M om")))
  | plus a b =>
    have h' : max a.dep b.dep + 1 ≤ 1 := h
    have h1 := leaf (e := a) (by (walk_at "M om"))
    have h2 := leaf (e := b) (by (walk_at "M om"))
    show (exNames its kvs a ++ exNames its kvs b).length ≤ 2
    rw [List.length_append]; (walk_at "M om")
  | num => exact Nat.le_succ_of_le (leaf rfl)
  | text => exact Nat.le_succ_of_le (leaf rfl)
  | ref nm us => exact Nat.le_succ_of_le (leaf rfl)
theorem flat_names_le {its : List It} {kvs : List (Str × Value)} : ∀ {subs : List Ex}, (∀ e ∈ subs, e.ok) → ((subs.map (exNames its kvs)).flatten).length ≤ 2 * subs.length
  | [], _ => Nat.zero_le _
  | e :: r, h => by
    have h1 := exNames_le (its := its) (kvs := kvs) (h e (.head _))
    have h2 := flat_names_le (its := its) (kvs := kvs) fun x hx => h x (.tail _ hx)
    simp only [List.map_cons, List.flatten_cons, List.length_append, List.length_cons]
    (walk_at "M om")
section
variable {w : World} {A : Around} {g : Heap} {outer : List Env} {mean : ExcName → Option Value} {mg mb : Str → Option Value} {s : Shared} {R : Result → Shared → Prop}
theorem ref_any {data root xd a q sb : Addr} {nm : Str} {tn : Tok} {us : List Str} {sv : List Value} {part : Value} {its : List It} {kvs : List (Str × Value)} {args : Args} {less : Int} {tl : Tok} {subs : List Ex} {pt : Option (Ex × Option Ex)}
   (hargs : (args = ⟨[.ref data, .ref a], []⟩ ∧ less = 0 ∧ tl = 536) ∨ args = ⟨[.ref data, .ref a, .int less tl], []⟩)
   (MF : AmbF w A g outer mean mg mb s.heap 46) (H : HOK A s.heap) (D : DataAt g data root xd) (TR : Tree g root its) (I : Ix w g xd kvs) (RF : RefAt g a nm tn q sb us sv part) (hs : ExsAt g sv subs) (hp : PartAt g part pt)
   (hok : ∀ e ∈ subs, e.ok) (hpo : ∀ x, pt = some x → x.1.ok ∧ ∀ y, x.2 = some y → y.ok)
   (hR : ∀ h' tk l vs k tps, UpTo (fsOf outer) s.heap h' → Gave s.heap h' l (refNames its kvs nm us subs.length pt.isSome (innerNames its kvs subs pt) less) vs k tps → R (.ok (.ret (.ref l))) { s with heap := h', toks := tk }) :
   codeAny (model PR w) A (.call (.ref 264) args) R s := by
  have hlen := hs.len
  have num : ∀ {v : Value} {e : Ex}, ExAt g v e → e.ok → NumGives w g mean mg mb 31 data v (exNames its kvs e) := by
    intro v e x ok A outer s R MF H hR
    have ok' : e.dep ≤ 1 := ok
    exact num_code D TR I x (by have := exNames_le (its := its) (kvs := kvs) ok; (walk_at "M om")) (AmbF.down MF (by (walk_at "M om"))) H hR
  have hall : AllGive (NumGives w g mean mg mb 31 data) sv (subs.map (exNames its kvs)) := by
    clear hR hlen RF hargs
    induction hs with
    | nil => exact .nil
    | cons x _ ih => exact .cons (fun MF H hR => num x (hok _ (.head _)) MF H hR) (ih fun e he => hok e (.tail _ he))
  have hfl := flat_names_le (its := its) (kvs := kvs) hok
  have hfew := RF.few
  have hpl : (partNames its kvs pt).length ≤ 4 := by
    cases pt with
    | none => exact Nat.zero_le _
    | some x =>
      obtain ⟨e, o⟩ := x
      obtain ⟨h1, h2⟩ := hpo _ rfl
      have he1 : (exNames its kvs e).length ≤ 2 := exNames_le h1
      cases o with
      | none => show (exNames its kvs e).length ≤ 4; (walk_at "M om")
      | some e' =>
        have he2 : (exNames its kvs e').length ≤ 2 := exNames_le (h2 e' rfl)
        show (exNames its kvs e ++ exNames its kvs e').length ≤ 4
        rw [List.length_append]; (walk_at "M om")
  have hpart : (part != .none) = pt.isSome := by cases hp <;> rfl
  have hP : PartGives w g mean mg mb 32 data a (innerNames its kvs subs pt) := by
    intro A outer s R MF H hR
    refine part_code (d := 31) (nss := subs.map (exNames its kvs)) (pnames := partNames its kvs pt) RF hall (by (walk_at "M om")) ?_ MF H hR
    cases hp with
    | none => exact .inl ⟨rfl, rfl⟩
    | @one p v e t x =>
      obtain ⟨b, hb⟩ := x.ref_
      exact .inr ⟨p, _, [exNames its kvs e, []], rfl, t, by show 2 < 1000; decide, .cons (.inr ⟨⟨b, hb⟩, fun MF H hR => num x (hpo _ rfl).1 MF H hR⟩) (.cons (.inl ⟨rfl, rfl⟩) .nil), by simp [partNames]⟩
    | @two p v v' e e' t x y =>
      obtain ⟨b, hb⟩ := x.ref_
      obtain ⟨c, hc⟩ := y.ref_
      exact .inr ⟨p, _, [exNames its kvs e, exNames its kvs e'], rfl, t, by show 2 < 1000; decide, .cons (.inr ⟨⟨b, hb⟩, fun MF H hR => num x (hpo _ rfl).1 MF H hR⟩) (.cons (.inr ⟨⟨c, hc⟩, fun MF H hR => num y ((hpo _ rfl).2 _ rfl) MF H hR⟩) .nil), by simp [partNames]⟩
  refine ref_code (d := 32) hargs MF H D TR I RF ?_ hP (by unfold innerNames; rw [List.length_append]; (walk_at "M om")) ?_
  · cases hp with
    | none => exact .inl rfl
    | one => exact .inr ⟨_, rfl⟩
    | two => exact .inr ⟨_, rfl⟩
  · rw [hlen, hpart]; exact hR
end
end T_EI
section T_F1
set_option maxHeartbeats 800000
set_option maxRecDepth 100000
noncomputable abbrev handObj (cells : Addr) (p sd : Int) (t1 t2 : Tok) (k : Nat) : Obj := listOf (List.toArray [.ref cells, .int p t1, .int sd t2]) k
section
variable {prog : Program} {w : World} {A : Around} {E : Value → Shared → Prop} {s : Shared} {Q : Value → Shared → Prop}
theorem item_listI {value slice : PySem.Expr} {l : Addr} {vs : List Value} {x : Value} {j : Int} {u : Tok} (hl : Lst s.heap l vs) (h0 : 0 ≤ j) (h1 : j < 100000) (hx : vs[j.toNat]? = some x) (h : Q x s)
    (hs : subscripted slice false (.ref l) (.int j u) = operate [.ref l, .int j u] (getItem (.ref l) (.int j u))) :
    wpAny (model prog w) A (subscriptTail value slice (.ref l) (.int j u)) Q E s :=
  tail_any hl.isList.typeIs slot_list_getitem.lookup (wpAny_getItem_list hl.isList h0 (by (walk_at "M om")) (by simpa using hx) h) hs
end
theorem ints_at {cs : List Value} {ns : List Int} (h : IntsAre cs ns) : ∀ {j : Nat}, j < cs.length → ∃ (n : Int) (t : Tok), cs[j]? = some (.int n t) := by
  w_top off
  induction h with
  | nil => intro j hj; simp at hj
  | cons n t _ ih =>
    intro j hj
    cases j with
    | zero => exact ⟨n, t, rfl⟩
    | succ j => simpa using ih (by simpa using hj)
section
variable {w : World} {A : Around} {base : Heap} {outer : List Env} {mean : ExcName → Option Value} {mg mb : Str → Option Value} {s : Shared} {n : Nat} {R : Result → Shared → Prop}
theorem next_code {h₀ : Heap} {hand cells : Addr} {cs : List Value} {ns : List Int} {p sd : Int} {t1 t2 : Tok} {k : Nat} {many : Int} {tm : Tok}
   (M : Amb w A base outer mean mg mb s.heap 3) (X₀ : (hd.heap_39 w.params).In h₀) (T₀ : Top hd.view_39 lso mean mg mb h₀) (k₀ : h₀.StaysIn s.heap) (n₀ : h₀.get? hand = none)
   (hh : s.heap.get? hand = some (handObj cells p sd t1 t2 k)) (hc : Lst s.heap cells cs) (hne : cells ≠ hand) (hi : IntsAre cs ns) (hcl : cs.length ≤ 50) (hp : 0 ≤ p) (hp2 : p < 100000) (hs : 0 ≤ sd) (hs2 : sd < 4294967296) (hm : 1 ≤ many) (hm2 : many ≤ 10)
   (hR : ∀ h' tk r t sd' t1' t2' k', (∀ b o, b ≠ hand → s.heap.get? b = some o → h'.get? b = some o) → h'.get? hand = some (handObj cells (p + 1) sd' t1' t2' k') → 0 ≤ sd' → sd' < 4294967296 → 0 ≤ r → r < many → R (.ok (.ret (.int r t))) { s with heap := h', toks := tk }) :
   codeAny (model PR w) A (.call (.ref 342) ⟨[.ref hand, .int many tm], []⟩) R s := by
  refine enter (rb := [((Str.ofString "many"), .int many tm), ((Str.ofString "hand"), .ref hand)]) M (by with_unfolding_all rfl) (by k_is) (BindsTo.of_eq rfl) (locs rfl) (by decide) ?_
  intro L h₁ tk hL F N
  with_reducible refine post_gen ?_
  intro Q₀ hQ₀
  have B := M.B
  have nc : ∀ a ∈ [hand], h₀.get? a = none := by simpa using n₀
  have X := X₀.keeps (stays_cut k₀ nc)
  have T := T₀.keeps (stays_cut k₀ nc)
  have N₁ : News (cut s.heap [hand]) L h₁ [(hand, handObj cells p sd t1 t2 k)] := News.ofCut F (by simpa using hh)
  have F₁ := Fr.cut F [hand]
  have hcc : Lst (cut s.heap [hand]) cells cs := by obtain ⟨j, e⟩ := hc; exact ⟨j, (cut_of (by simpa using hne)).trans e⟩
  clear F N
  have hmp : 0 < many := by (walk_at "M om")
  (repeat' ((fail_if_success (with_reducible show wpAny _ _ (subscriptTail (PySem.Expr.Subscript _ _ _) _ _ _) _ _ _)); (((fail_if_success (with_reducible show wpAny _ _ (exec (Stmt.While _ _ _ _) _) _ _ _)); (fail_if_success (with_reducible show wpAny _ _ (pyIter _) (fun it s₂ => LoopAtV _ _ _ _ _ _ _ _ _ it s₂) _ _)); (fail_if_success (with_reducible show wpAny _ _ (eval (Expr.ListComp _ _ _ _) _) _ _ _)); (fail_if_success (with_reducible show Exists _)))); first | (k_unfold; (try dsimp only)) | walk1 | (dsimp only; walk1) | fail "no step"))
  · rename Fr _ _ _ _ => F₂
    rename News _ _ _ _ => N₂
    rename (p + 1 ≤ _) => hle
    obtain ⟨x, tx, hx⟩ := ints_at hi (j := p.toNat) (by (walk_at "M om"))
    refine item_listI (x := .int x tx) (hcc.keeps F₂.keep) (by (walk_at "M om")) (by (walk_at "M om")) (by rw [show (p + 1 - 1).toNat = p.toNat from f1x]; exact hx) ?_ (by with_unfolding_all rfl)
    (repeat' ((fail_if_success (with_reducible show wpAny _ _ (subscriptTail (PySem.Expr.Subscript _ _ _) _ _ _) _ _ _)); (((fail_if_success (with_reducible show wpAny _ _ (exec (Stmt.While _ _ _ _) _) _ _ _)); (fail_if_success (with_reducible show wpAny _ _ (pyIter _) (fun it s₂ => LoopAtV _ _ _ _ _ _ _ _ _ it s₂) _ _)); (fail_if_success (with_reducible show wpAny _ _ (eval (Expr.ListComp _ _ _ _) _) _ _ _)); (fail_if_success (with_reducible show Exists _)))); first | (k_unfold; (try dsimp only)) | walk1 | (dsimp only; walk1) | fail "no step"))
    rename Fr _ _ _ _ => F₃
    rename News _ _ _ _ => N₃
    refine hQ₀ _ _ ?_
    exact hR _ _ _ _ sd _ _ _ (fun b o hb e => F₃.keep b o ((cut_of (by simpa using hb)).trans e)) (N₃.get (.head _)) hs hs2 (Int.fmod_nonneg_of_pos _ hmp) (Int.fmod_lt_of_pos _ hmp)
  · rename Fr _ _ _ _ => F₃
    rename News _ _ _ _ => N₃
    refine hQ₀ _ _ ?_
    exact hR _ _ _ _ _ _ _ _ (fun b o hb e => F₃.keep b o ((cut_of (by simpa using hb)).trans e)) (N₃.get (.head _)) (Int.fmod_nonneg_of_pos _ (by decide)) (Int.lt_trans (Int.fmod_lt_of_pos _ (by decide)) (by decide)) (Int.fmod_nonneg_of_pos _ hmp) (Int.fmod_lt_of_pos _ hmp)
end
end T_F1
section T_F3
set_option maxHeartbeats 800000
set_option maxRecDepth 100000
local macro_rules | `(tactic| walk_at "setAttr ref") => `(tactic| (k_here; k_dflt (apply set_dictH; k_asm; k_asm; k_asm; k_inst; exact rfl; k_is; k_is; k_is; k_is; assumption; (intro _ _; k_upd); exact Nat.le_of_ble_eq_true rfl; k_whole); intro h' e' n' K' F' N'; (try k_sweep)))
/-- what the dict of an item holds -/
structure ItemEs (es : List DictEntry) (nm : Str) (par occ : Value) (kids : Addr) (shp : Value) : Prop where
  name : ∃ t, getL (Str.ofString "name") es = some (some (.str nm t))
  parent : getL (Str.ofString "parent") es = some (some par)
  occurs : getL (Str.ofString "occurs") es = some (some occ)
  kids : getL (Str.ofString "kids") es = some (some (.ref kids))
  shape : getL (Str.ofString "shape") es = some (some shp)
  len : es.length ≤ 19
  noAdd : getL (Str.ofString "add") es = some none
section
variable {w : World} {A : Around} {base : Heap} {outer : List Env} {mean : ExcName → Option Value} {mg mb : Str → Option Value} {s : Shared} {n : Nat} {R : Result → Shared → Prop}
theorem item_init {h₀ : Heap} {x dx : Addr} {lv : Int} {title : Str} {tl tt : Tok}
   (M : Amb w A base outer mean mg mb s.heap 2) (X₀ : (hd.heap_39 w.params).In h₀) (T₀ : Top hd.view_39 lso mean mg mb h₀) (k₀ : h₀.StaysIn s.heap) (n₀ : h₀.get? x = none) (m₀ : h₀.get? dx = none) (hne : dx < x)
   (hx : s.heap.get? x = some (instObj 136 dx)) (hdx : s.heap.get? dx = some emptyDict)
   (hR : ∀ h' tk es n cl kl, (∀ b o, b ≠ dx → s.heap.get? b = some o → h'.get? b = some o) → h'.get? dx = some (dictOf es n) → ItemEs es title .none .none kl .none → s.heap.get? cl = none → s.heap.get? kl = none → cl ≠ kl → h'.get? cl = some (listOf (List.toArray []) 0) → h'.get? kl = some (listOf (List.toArray []) 0) → R (.ok (.ret .none)) { s with heap := h', toks := tk }) :
   codeAny (model PR w) A (.call (.ref 107) ⟨[.ref x, .int lv tl, .str title tt], []⟩) R s := by
  w_top off
  refine enter (rb := [((Str.ofString "name"), .str title tt), ((Str.ofString "level"), .int lv tl), ((Str.ofString "self"), .ref x)]) M (by with_unfolding_all rfl) (by k_is) (BindsTo.of_eq rfl) (locs rfl) (by decide) ?_
  intro L h₁ tk hL F N
  with_reducible refine post_gen ?_
  intro Q₀ hQ₀
  have B := M.B
  have nc : ∀ a ∈ [x, dx], h₀.get? a = none := by
    intro a ha
    rcases List.mem_cons.mp ha with rfl | ha
    · exact n₀
    · rw [List.mem_singleton.mp ha]; exact m₀
  have X := X₀.keeps (stays_cut k₀ nc)
  have T := T₀.keeps (stays_cut k₀ nc)
  have N₁ : News (cut s.heap [x, dx]) L h₁ [(x, instObj 136 dx), (dx, dictOf [] 0)] := News.ofCut F (by
    intro p hp
    rcases List.mem_cons.mp hp with rfl | hp
    · exact ⟨hx, .head _⟩
    · rw [List.mem_singleton.mp hp]; exact ⟨hdx, mem1⟩)
  have F₁ := Fr.cut F [x, dx]
  clear F N
  have hxd : x ≠ dx := Nat.ne_of_gt hne
  have hxd' : dx ≠ x := Nat.ne_of_lt hne
  have K₀ := Keys.nil
  (repeat' ((((fail_if_success (with_reducible show wpAny _ _ (exec (Stmt.While _ _ _ _) _) _ _ _)); (fail_if_success (with_reducible show wpAny _ _ (pyIter _) (fun it s₂ => LoopAtV _ _ _ _ _ _ _ _ _ it s₂) _ _)); (fail_if_success (with_reducible show wpAny _ _ (eval (Expr.ListComp _ _ _ _) _) _ _ _)); (fail_if_success (with_reducible show Exists _)))); first | (k_unfold; (try dsimp only)) | walk1 | (dsimp only; walk1) | fail "no step"))
  rename Fr _ _ _ _ => F₂
  rename News _ _ _ _ => N₂
  rename Keys _ _ => K₂
  rename (_ < _ ∧ x < _ ∧ dx < _) => lb
  rename (x < _ ∧ dx < _) => la
  have fresh : ∀ a : Addr, x < a → dx < a → (cut s.heap [x, dx]).get? a = none → s.heap.get? a = none := fun a h1 h2 e => by
    rw [← e, cut_of]
    intro hm
    rcases List.mem_cons.mp hm with rfl | hm
    · exact Nat.lt_irrefl _ h1
    · rw [List.mem_singleton.mp hm] at h2; exact Nat.lt_irrefl _ h2
  refine hQ₀ _ _ ?_
  refine hR _ _ _ _ _ _ (fun b o hb e => ?_) (N₂ _ (mem3)).1 ⟨⟨_, (K₂.1 _).trans rfl⟩, (K₂.1 _).trans rfl, (K₂.1 _).trans rfl, (K₂.1 _).trans rfl, (K₂.1 _).trans rfl, Nat.le_trans K₂.2.2 (Nat.le_of_ble_eq_true rfl), (K₂.1 _).trans rfl⟩ (fresh _ la.1 la.2 (N₂ _ (mem1)).2.2) (fresh _ lb.2.1 lb.2.2 (N₂ _ (.head _)).2.2) (Nat.ne_of_lt lb.1) (N₂ _ (mem1)).1 (N₂ _ (.head _)).1
  by_cases c : b = x
  · subst c
    rw [hx] at e; cases e
    exact (N₂ _ (mem2)).1
  · exact F₂.keep b o ((cut_of (by simp [c, hb])).trans e)
end
end T_F3
section T_F4
set_option maxHeartbeats 800000
set_option maxRecDepth 100000
section
variable {w : World} {A : Around} {base : Heap} {outer : List Env} {mean : ExcName → Option Value} {mg mb : Str → Option Value} {s : Shared} {n : Nat} {R : Result → Shared → Prop}
/-- a new item: five new objects -/
structure NewItem (s₀ h' : Heap) (title : Str) (x dx cl kl : Addr) (es : List DictEntry) (n : Nat) : Prop where
  stays : s₀.StaysIn h'
  x_ : h'.get? x = some (instObj 136 dx)
  dx_ : h'.get? dx = some (dictOf es n)
  cl_ : h'.get? cl = some (listOf (List.toArray []) 0)
  kl_ : h'.get? kl = some (listOf (List.toArray []) 0)
  es_ : ItemEs es title .none .none kl .none
  nx : s₀.get? x = none
  nd : s₀.get? dx = none
  nc : s₀.get? cl = none
  nk : s₀.get? kl = none
  ck : cl ≠ kl
theorem make_item {E : Value → Shared → Prop} {Q : Value → Shared → Prop} {lv : Int} {tl tt : Tok} {title : Str} (M : Amb w A base outer mean mg mb s.heap 4)
   (h : ∀ h' tk x dx cl kl es n, NewItem s.heap h' title x dx cl kl es n → Q (.ref x) { s with heap := h', toks := tk }) :
   wpAny (model PR w) A (call (.ref 136) [.int lv tl, .str title tt]) Q E s := by
  w_top off
  obtain ⟨hh, g, d, t, os⟩ := s
  have M' := M
  obtain ⟨X, T, B, _, _⟩ := M'
  dsimp only at X T B
  refine wpAny_callA (make_core (C := 136) (makes_of X (by k_is)) (looks_findIn X (by k_is)) (fun self => bind_fn X self (by k_is)) (.inl rfl) ?_)
  have kp : hh.StaysIn ((hh.push emptyDict).push (instObj 136 hh.objs.size)) := fun b o e => Heap.get?_push_of_some _ (Heap.get?_push_of_some _ e)
  have hx : ((hh.push emptyDict).push (instObj 136 hh.objs.size)).get? (hh.objs.size + 1) = some (instObj 136 hh.objs.size) := by heap_get
  have hdx : ((hh.push emptyDict).push (instObj 136 hh.objs.size)).get? hh.objs.size = some emptyDict := Heap.get?_push_of_some _ (Heap.get?_push_size _ rfl)
  refine item_init (h₀ := hh) (Amb.down (Amb.underT (Amb.keeps M kp)) (by decide)) X T kp (Heap.get?_none_of_le (Nat.le_succ _)) (Heap.get?_none_of_le (Nat.le_refl _)) (Nat.lt_succ_self _) hx hdx fun h' tk es n cl kl k1 k2 k3 k4 k5 k6 k7 k8 => ?_
  have nf : ∀ a, ((hh.push emptyDict).push (instObj 136 hh.objs.size)).get? a = none → hh.get? a = none := fun a e => by
    cases q : hh.get? a with
    | none => rfl
    | some o => have := kp a o q; rw [e] at this; cases this
  have nd : hh.get? hh.objs.size = none := Heap.get?_none_of_le (Nat.le_refl _)
  have fin : NewItem hh h' title (hh.objs.size + 1) hh.objs.size cl kl es n :=
    ⟨fun b o e => k1 b o (fun z => by rw [z, nd] at e; cases e) (kp b o e), k1 _ _ (Nat.succ_ne_self _) hx, k2, k7, k8, k3, Heap.get?_none_of_le (Nat.le_succ _), nd, nf _ k4, nf _ k5, k6⟩
  exact ⟨rfl, h h' tk _ _ _ _ _ _ fin⟩
end
end T_F4
section T_F5
set_option maxHeartbeats 800000
set_option maxRecDepth 100000
section
variable {w : World} {A : Around} {base : Heap} {outer : List Env} {mean : ExcName → Option Value} {mg mb : Str → Option Value} {s : Shared} {n : Nat} {R : Result → Shared → Prop}
theorem shape_init {h₀ : Heap} {x dx : Addr} {sz : Int} {cat : Str} {tl tt : Tok}
   (M : Amb w A base outer mean mg mb s.heap 2) (X₀ : (hd.heap_39 w.params).In h₀) (T₀ : Top hd.view_39 lso mean mg mb h₀) (k₀ : h₀.StaysIn s.heap) (n₀ : h₀.get? x = none) (m₀ : h₀.get? dx = none) (hne : dx < x)
   (hx : s.heap.get? x = some (instObj 331 dx)) (hdx : s.heap.get? dx = some emptyDict)
   (hR : ∀ h' tk es n t, (∀ b o, b ≠ dx → s.heap.get? b = some o → h'.get? b = some o) → h'.get? dx = some (dictOf es n) → getL (Str.ofString "category") es = some (some (.str cat t)) → R (.ok (.ret .none)) { s with heap := h', toks := tk }) :
   codeAny (model PR w) A (.call (.ref 314) ⟨[.ref x, .str cat tt, .int sz tl], []⟩) R s := by
  w_top off
  refine enter (rb := [((Str.ofString "is_blank_zero"), _), ((Str.ofString "is_justified"), _), ((Str.ofString "is_separate"), _), ((Str.ofString "sign"), _), ((Str.ofString "usage"), _), ((Str.ofString "picture"), _), ((Str.ofString "size"), .int sz tl), ((Str.ofString "category"), .str cat tt), ((Str.ofString "self"), .ref x)]) M (by with_unfolding_all rfl) (by k_is) (BindsTo.of_defaults rfl (M.X _ _ (by with_unfolding_all rfl)) rfl rfl (by with_unfolding_all rfl)) (locs rfl) (by decide) ?_
  intro L h₁ tk hL F N
  with_reducible refine post_gen ?_
  intro Q₀ hQ₀
  have B := M.B
  have nc : ∀ a ∈ [x, dx], h₀.get? a = none := by
    intro a ha
    rcases List.mem_cons.mp ha with rfl | ha
    · exact n₀
    · rw [List.mem_singleton.mp ha]; exact m₀
  have X := X₀.keeps (stays_cut k₀ nc)
  have T := T₀.keeps (stays_cut k₀ nc)
  have N₁ : News (cut s.heap [x, dx]) L h₁ [(x, instObj 331 dx), (dx, dictOf [] 0)] := News.ofCut F (by
    intro p hp
    rcases List.mem_cons.mp hp with rfl | hp
    · exact ⟨hx, .head _⟩
    · rw [List.mem_singleton.mp hp]; exact ⟨hdx, mem1⟩)
  have F₁ := Fr.cut F [x, dx]
  clear F N
  have hxd : x ≠ dx := Nat.ne_of_gt hne
  have hxd' : dx ≠ x := Nat.ne_of_lt hne
  (repeat' ((((fail_if_success (with_reducible show wpAny _ _ (exec (Stmt.While _ _ _ _) _) _ _ _)); (fail_if_success (with_reducible show wpAny _ _ (pyIter _) (fun it s₂ => LoopAtV _ _ _ _ _ _ _ _ _ it s₂) _ _)); (fail_if_success (with_reducible show wpAny _ _ (eval (Expr.ListComp _ _ _ _) _) _ _ _)); (fail_if_success (with_reducible show Exists _)))); first | (k_unfold; (try dsimp only)) | walk1 | (dsimp only; walk1) | fail "no step"))
  rename Fr _ _ _ _ => F₂
  rename News _ _ _ _ => N₂
  refine hQ₀ _ _ ?_
  refine hR _ _ _ _ _ (fun b o hb e => ?_) (N₂ _ (mem1)).1 rfl
  by_cases c : b = x
  · subst c
    rw [hx] at e; cases e
    exact (N₂ _ (.head _)).1
  · exact F₂.keep b o ((cut_of (by simp [c, hb])).trans e)
structure NewShape (s₀ h' : Heap) (cat : Str) (x dx : Addr) (es : List DictEntry) (n : Nat) : Prop where
  stays : s₀.StaysIn h'
  x_ : h'.get? x = some (instObj 331 dx)
  dx_ : h'.get? dx = some (dictOf es n)
  es_ : ∃ t, getL (Str.ofString "category") es = some (some (.str cat t))
  nx : s₀.get? x = none
  nd : s₀.get? dx = none
theorem make_shape {E : Value → Shared → Prop} {Q : Value → Shared → Prop} {sz : Int} {tl tt : Tok} {cat : Str} (M : Amb w A base outer mean mg mb s.heap 4)
   (h : ∀ h' tk x dx es n, NewShape s.heap h' cat x dx es n → Q (.ref x) { s with heap := h', toks := tk }) :
   wpAny (model PR w) A (call (.ref 331) [.str cat tt, .int sz tl]) Q E s := by
  obtain ⟨hh, g, d, t, os⟩ := s
  have M' := M
  obtain ⟨X, T, B, _, _⟩ := M'
  dsimp only at X T B
  refine wpAny_callA (make_core (C := 331) (makes_of X (by k_is)) (looks_findIn X (by k_is)) (fun self => bind_fn X self (by k_is)) (.inl rfl) ?_)
  have kp : hh.StaysIn ((hh.push emptyDict).push (instObj 331 hh.objs.size)) := fun b o e => Heap.get?_push_of_some _ (Heap.get?_push_of_some _ e)
  have hx : ((hh.push emptyDict).push (instObj 331 hh.objs.size)).get? (hh.objs.size + 1) = some (instObj 331 hh.objs.size) := by heap_get
  have hdx : ((hh.push emptyDict).push (instObj 331 hh.objs.size)).get? hh.objs.size = some emptyDict := Heap.get?_push_of_some _ (Heap.get?_push_size _ rfl)
  refine shape_init (h₀ := hh) (Amb.down (Amb.underT (Amb.keeps M kp)) (by decide)) X T kp (Heap.get?_none_of_le (Nat.le_succ _)) (Heap.get?_none_of_le (Nat.le_refl _)) (Nat.lt_succ_self _) hx hdx fun h' tk es n t k1 k2 k3 => ?_
  have nd : hh.get? hh.objs.size = none := Heap.get?_none_of_le (Nat.le_refl _)
  have fin : NewShape hh h' cat (hh.objs.size + 1) hh.objs.size es n :=
    ⟨fun b o e => k1 b o (fun z => by rw [z, nd] at e; cases e) (kp b o e), k1 _ _ (Nat.succ_ne_self _) hx, k2, ⟨t, k3⟩, Heap.get?_none_of_le (Nat.le_succ _), nd⟩
  exact ⟨rfl, h h' tk _ _ _ _ fin⟩
end
end T_F5
section T_F6
set_option maxHeartbeats 800000
set_option maxRecDepth 100000
local macro_rules | `(tactic| walk_at "call type:tuple") => `(tactic| (k_here; refine call_tuple_tup (by walk_at "M tup") ?_))
section
variable {w : World} {A : Around} {base : Heap} {outer : List Env} {mean : ExcName → Option Value} {mg mb : Str → Option Value} {s : Shared} {n : Nat} {R : Result → Shared → Prop}
theorem occurs_init {h₀ : Heap} {x dx ta tb : Addr} {tl tt : Tok} {xs : List Value}
   (M : Amb w A base outer mean mg mb s.heap 3) (X₀ : (hd.heap_39 w.params).In h₀) (T₀ : Top hd.view_39 lso mean mg mb h₀) (k₀ : h₀.StaysIn s.heap) (n₀ : h₀.get? x = none) (m₀ : h₀.get? dx = none) (hne : dx < x)
   (hx : s.heap.get? x = some (instObj 89 dx)) (hdx : s.heap.get? dx = some emptyDict) (hta : Tpl h₀ ta []) (htb : Tpl h₀ tb xs)
   (hR : ∀ h' tk es n, (∀ b o, b ≠ dx → s.heap.get? b = some o → h'.get? b = some o) → h'.get? dx = some (dictOf es n) → R (.ok (.ret .none)) { s with heap := h', toks := tk }) :
   codeAny (model PR w) A (.call (.ref 79) ⟨[.ref x, .int 1 tl, .int 4 tt, .none, .ref ta, .ref tb], []⟩) R s := by
  w_top off
  refine enter (rb := [((Str.ofString "indexes"), .ref tb), ((Str.ofString "keys"), .ref ta), ((Str.ofString "depending"), .none), ((Str.ofString "high"), .int 4 tt), ((Str.ofString "low"), .int 1 tl), ((Str.ofString "self"), .ref x)]) M (by with_unfolding_all rfl) (by k_is) (BindsTo.of_defaults rfl (M.X _ _ (by with_unfolding_all rfl)) rfl rfl (by with_unfolding_all rfl)) (locs rfl) (by decide) ?_
  intro L h₁ tk hL F N
  with_reducible refine post_gen ?_
  intro Q₀ hQ₀
  have B := M.B
  have nc : ∀ a ∈ [x, dx], h₀.get? a = none := by
    intro a ha
    rcases List.mem_cons.mp ha with rfl | ha
    · exact n₀
    · rw [List.mem_singleton.mp ha]; exact m₀
  have X := X₀.keeps (stays_cut k₀ nc)
  have T := T₀.keeps (stays_cut k₀ nc)
  have A1 := hta.keeps (stays_cut k₀ nc)
  have A2 := htb.keeps (stays_cut k₀ nc)
  have N₁ : News (cut s.heap [x, dx]) L h₁ [(x, instObj 89 dx), (dx, dictOf [] 0)] := News.ofCut F (by
    intro p hp
    rcases List.mem_cons.mp hp with rfl | hp
    · exact ⟨hx, .head _⟩
    · rw [List.mem_singleton.mp hp]; exact ⟨hdx, mem1⟩)
  have F₁ := Fr.cut F [x, dx]
  clear F N
  have hxd : x ≠ dx := Nat.ne_of_gt hne
  have hxd' : dx ≠ x := Nat.ne_of_lt hne
  (repeat' ((((fail_if_success (with_reducible show wpAny _ _ (exec (Stmt.While _ _ _ _) _) _ _ _)); (fail_if_success (with_reducible show wpAny _ _ (pyIter _) (fun it s₂ => LoopAtV _ _ _ _ _ _ _ _ _ it s₂) _ _)); (fail_if_success (with_reducible show wpAny _ _ (eval (Expr.ListComp _ _ _ _) _) _ _ _)); (fail_if_success (with_reducible show Exists _)))); first | (k_unfold; (try dsimp only)) | walk1 | (dsimp only; walk1) | fail "no step"))
  rename Fr _ _ _ _ => F₂
  rename News _ _ _ _ => N₂
  refine hQ₀ _ _ ?_
  refine hR _ _ _ _ (fun b o hb e => ?_) (N₂ _ (mem1)).1
  by_cases c : b = x
  · subst c
    rw [hx] at e; cases e
    exact (N₂ _ (.head _)).1
  · exact F₂.keep b o ((cut_of (by simp [c, hb])).trans e)
theorem make_occurs {E : Value → Shared → Prop} {Q : Value → Shared → Prop} {ta tb : Addr} {tl tt : Tok} {xs : List Value} (M : Amb w A base outer mean mg mb s.heap 5) (hta : Tpl s.heap ta []) (htb : Tpl s.heap tb xs)
   (h : ∀ h' tk x dx es n, s.heap.StaysIn h' → s.heap.get? x = none → s.heap.get? dx = none → h'.get? x = some (instObj 89 dx) → h'.get? dx = some (dictOf es n) → Q (.ref x) { s with heap := h', toks := tk }) :
   wpAny (model PR w) A (call (.ref 89) [.int 1 tl, .int 4 tt, .none, .ref ta, .ref tb]) Q E s := by
  obtain ⟨hh, g, d, t, os⟩ := s
  have M' := M
  obtain ⟨X, T, B, _, _⟩ := M'
  dsimp only at X T B hta htb
  refine wpAny_callA (make_core (C := 89) (makes_of X (by k_is)) (looks_findIn X (by k_is)) (fun self => bind_fn X self (by k_is)) (.inl rfl) ?_)
  have kp : hh.StaysIn ((hh.push emptyDict).push (instObj 89 hh.objs.size)) := fun b o e => Heap.get?_push_of_some _ (Heap.get?_push_of_some _ e)
  have hx : ((hh.push emptyDict).push (instObj 89 hh.objs.size)).get? (hh.objs.size + 1) = some (instObj 89 hh.objs.size) := by heap_get
  have hdx : ((hh.push emptyDict).push (instObj 89 hh.objs.size)).get? hh.objs.size = some emptyDict := Heap.get?_push_of_some _ (Heap.get?_push_size _ rfl)
  refine occurs_init (h₀ := hh) (Amb.down (Amb.underT (Amb.keeps M kp)) (by decide)) X T kp (Heap.get?_none_of_le (Nat.le_succ _)) (Heap.get?_none_of_le (Nat.le_refl _)) (Nat.lt_succ_self _) hx hdx hta htb fun h' tk es n k1 k2 => ?_
  have nd : hh.get? hh.objs.size = none := Heap.get?_none_of_le (Nat.le_refl _)
  exact ⟨rfl, h h' tk _ _ _ _ (fun b o e => k1 b o (fun z => by rw [z, nd] at e; cases e) (kp b o e)) (Heap.get?_none_of_le (Nat.le_succ _)) nd (k1 _ _ (Nat.succ_ne_self _) hx) k2⟩
end
end T_F6
section T_F7
set_option maxHeartbeats 800000
set_option maxRecDepth 100000
local macro_rules | `(tactic| walk_at "M d") => `(tactic| skip)
local macro_rules | `(tactic| walk_at "setAttr ref") => `(tactic| (dsimp only; walk_at "setAttr ref"))
structure DataEs (es : List DictEntry) (fd wl ll xd : Addr) : Prop where
  files : getL (Str.ofString "files") es = some (some (.ref fd))
  working : getL (Str.ofString "working") es = some (some (.ref wl))
  linkage : getL (Str.ofString "linkage") es = some (some (.ref ll))
  indexes : getL (Str.ofString "indexes") es = some (some (.ref xd))
theorem dict_nil {K : Type} [DecidableEq K] {w : World} {knd : KeyKind PR w K} {o : Obj} (h : o.IsDictOf knd []) : ∃ k, o = dictOf [] k := by
  w_top off
  obtain ⟨es, ep, ⟨h1, h2, h3⟩, hd, _, hp, _⟩ := h
  obtain ⟨oc, od, oda, osl⟩ := o
  dsimp only at h1 h2 h3 hd
  subst h1 h2 h3 hd
  have : es.toList = [] := by
    generalize es.toList = l at hp
    cases hp
    rfl
  refine ⟨ep, ?_⟩
  have e : es = #[] := by simpa using this
  rw [e]
section
variable {w : World} {A : Around} {base : Heap} {outer : List Env} {mean : ExcName → Option Value} {mg mb : Str → Option Value} {s : Shared} {n : Nat} {R : Result → Shared → Prop}
theorem data_init {h₀ : Heap} {x dx : Addr}
   (M : Amb w A base outer mean mg mb s.heap 3) (X₀ : (hd.heap_39 w.params).In h₀) (T₀ : Top hd.view_39 lso mean mg mb h₀) (k₀ : h₀.StaysIn s.heap) (n₀ : h₀.get? x = none) (m₀ : h₀.get? dx = none) (hne : dx < x)
   (hx : s.heap.get? x = some (instObj 162 dx)) (hdx : s.heap.get? dx = some emptyDict)
   (hR : ∀ h' tk es n fd wl ll so xd kf oX, (∀ b o, b ≠ dx → s.heap.get? b = some o → h'.get? b = some o) → h'.get? dx = some (dictOf es n) → DataEs es fd wl ll xd →
     h'.get? fd = some (dictOf [] kf) → h'.get? wl = some (listOf (List.toArray []) 0) → h'.get? ll = some (listOf (List.toArray []) 0) → h'.get? so = some (listOf (List.toArray []) 0) → h'.get? xd = some oX → oX.IsDictOf (strKind PR w) [] → (fd == sysModules) = false → (xd == sysModules) = false →
     (∀ a ∈ [fd, wl, ll, so, xd], s.heap.get? a = none) → [wl, ll, fd, so, xd].Pairwise (· < ·) → R (.ok (.ret .none)) { s with heap := h', toks := tk }) :
   codeAny (model PR w) A (.call (.ref 154) ⟨[.ref x], []⟩) R s := by
  refine enter (rb := [((Str.ofString "self"), .ref x)]) M (by with_unfolding_all rfl) (by k_is) (BindsTo.of_eq rfl) (locs rfl) (by decide) ?_
  intro L h₁ tk hL F N
  with_reducible refine post_gen ?_
  intro Q₀ hQ₀
  have B := M.B
  have nc : ∀ a ∈ [x, dx], h₀.get? a = none := by
    intro a ha
    rcases List.mem_cons.mp ha with rfl | ha
    · exact n₀
    · rw [List.mem_singleton.mp ha]; exact m₀
  have X := X₀.keeps (stays_cut k₀ nc)
  have T := T₀.keeps (stays_cut k₀ nc)
  have N₁ : News (cut s.heap [x, dx]) L h₁ [(x, instObj 162 dx), (dx, dictOf [] 0)] := News.ofCut F (by
    intro p hp
    rcases List.mem_cons.mp hp with rfl | hp
    · exact ⟨hx, .head _⟩
    · rw [List.mem_singleton.mp hp]; exact ⟨hdx, mem1⟩)
  have F₁ := Fr.cut F [x, dx]
  clear F N
  have hxd : x ≠ dx := Nat.ne_of_gt hne
  have hxd' : dx ≠ x := Nat.ne_of_lt hne
  (repeat' ((((fail_if_success (with_reducible show wpAny _ _ (exec (Stmt.While _ _ _ _) _) _ _ _)); (fail_if_success (with_reducible show wpAny _ _ (pyIter _) (fun it s₂ => LoopAtV _ _ _ _ _ _ _ _ _ it s₂) _ _)); (fail_if_success (with_reducible show wpAny _ _ (eval (Expr.ListComp _ _ _ _) _) _ _ _)); (fail_if_success (with_reducible show Exists _)))); first | (k_unfold; (try dsimp only)) | walk1 | (dsimp only; walk1) | fail "no step"))
  rename Fr _ _ _ _ => F₂
  rename News _ _ _ _ => N₂

  rename_i wl _ l0 _ _ ll _ l1 _ _ fd _ oF loF hsF _ _ _ l2 _ _ so _ l3 _ _ _ xd _ oX loX hsX _ _ _ l4 _
  obtain ⟨kf, rfl⟩ := dict_nil hsF
  have fresh : ∀ a : Addr, x < a → dx < a → (cut s.heap [x, dx]).get? a = none → s.heap.get? a = none := fun a h1 h2 e => by
    rw [← e, cut_of]
    intro hm
    rcases List.mem_cons.mp hm with rfl | hm
    · exact Nat.lt_irrefl _ h1
    · rw [List.mem_singleton.mp hm] at h2; exact Nat.lt_irrefl _ h2
  refine hQ₀ _ _ ?_
  refine hR _ _ _ _ fd wl ll so xd kf oX (fun b o hb e => ?_) (N₂ _ (mem6)).1 ⟨rfl, rfl, rfl, rfl⟩ (N₂ _ (mem2)).1 (N₂ _ (mem4)).1 (N₂ _ (mem3)).1 (N₂ _ (mem1)).1 (N₂ _ (.head _)).1 hsX loF loX ?_ ?_
  · by_cases c : b = x
    · subst c
      rw [hx] at e; cases e
      exact (N₂ _ (mem5)).1
    · exact F₂.keep b o ((cut_of (by simp [c, hb])).trans e)
  · intro a ha
    simp only [List.mem_cons, List.not_mem_nil, or_false] at ha
    rcases ha with rfl | rfl | rfl | rfl | rfl
    · exact fresh _ l2.2.2.1 l2.2.2.2 (N₂ _ (mem2)).2.2
    · exact fresh _ l0.1 l0.2 (N₂ _ (mem4)).2.2
    · exact fresh _ l1.2.1 l1.2.2 (N₂ _ (mem3)).2.2
    · exact fresh _ l3.2.2.2.1 l3.2.2.2.2 (N₂ _ (mem1)).2.2
    · exact fresh _ l4.2.2.2.2.1 l4.2.2.2.2.2 (N₂ _ (.head _)).2.2
  · simp only [List.pairwise_cons, List.mem_cons, List.not_mem_nil, or_false, forall_eq_or_imp, forall_eq, List.Pairwise.nil, and_true]
    exact ⟨⟨l1.1, l2.2.1, l3.2.2.1, l4.2.2.2.1⟩, ⟨l2.1, l3.2.1, l4.2.2.1⟩, ⟨l3.1, l4.2.1⟩, l4.1, fun _ h => nomatch h⟩
end
end T_F7
section T_F8
set_option maxHeartbeats 800000
set_option maxRecDepth 100000
local macro_rules | `(tactic| walk_at "call builtin:list.append") => `(tactic| (k_here; k_dflt (apply append_K; k_asm; k_asm; k_upd; rotate_left; (simp only [List.size_toArray, refs_length]; rw [sizeLine_eq]; (walk_at "M om")); k_whole); intro h' F' N'; (try k_sweep)))
theorem ItemEs.setParent {es : List DictEntry} {nm : Str} {par occ shp v : Value} {kids : Addr} {hsh : Int} {key : Value} (I : ItemEs es nm par occ kids shp) : ItemEs (putL (Str.ofString "parent") hsh key v es) nm v occ kids shp := by
  w_top off
  obtain ⟨⟨t, h1⟩, h2, h3, h4, h5, h6, h7⟩ := I
  exact ⟨⟨t, getL_put_ne (by decide) ⟨_, h2⟩ h1⟩, getL_put_same ⟨_, h2⟩, getL_put_ne (by decide) ⟨_, h2⟩ h3, getL_put_ne (by decide) ⟨_, h2⟩ h4, getL_put_ne (by decide) ⟨_, h2⟩ h5, by rw [putL_len ⟨_, h2⟩]; exact h6, getL_put_none (by decide) ⟨_, h2⟩ h7⟩
theorem ItemEs.setShape {es : List DictEntry} {nm : Str} {par occ shp v : Value} {kids : Addr} {hsh : Int} {key : Value} (I : ItemEs es nm par occ kids shp) : ItemEs (putL (Str.ofString "shape") hsh key v es) nm par occ kids v := by
  obtain ⟨⟨t, h1⟩, h2, h3, h4, h5, h6, h7⟩ := I
  exact ⟨⟨t, getL_put_ne (by decide) ⟨_, h5⟩ h1⟩, getL_put_ne (by decide) ⟨_, h5⟩ h2, getL_put_ne (by decide) ⟨_, h5⟩ h3, getL_put_ne (by decide) ⟨_, h5⟩ h4, getL_put_same ⟨_, h5⟩, by rw [putL_len ⟨_, h5⟩]; exact h6, getL_put_none (by decide) ⟨_, h5⟩ h7⟩
theorem ItemEs.setOccurs {es : List DictEntry} {nm : Str} {par occ shp v : Value} {kids : Addr} {hsh : Int} {key : Value} (I : ItemEs es nm par occ kids shp) : ItemEs (putL (Str.ofString "occurs") hsh key v es) nm par v kids shp := by
  obtain ⟨⟨t, h1⟩, h2, h3, h4, h5, h6, h7⟩ := I
  exact ⟨⟨t, getL_put_ne (by decide) ⟨_, h3⟩ h1⟩, getL_put_ne (by decide) ⟨_, h3⟩ h2, getL_put_same ⟨_, h3⟩, getL_put_ne (by decide) ⟨_, h3⟩ h4, getL_put_ne (by decide) ⟨_, h3⟩ h5, by rw [putL_len ⟨_, h3⟩]; exact h6, getL_put_none (by decide) ⟨_, h3⟩ h7⟩
section
variable {w : World} {A : Around} {base : Heap} {outer : List Env} {mean : ExcName → Option Value} {mg mb : Str → Option Value} {s : Shared} {n : Nat} {R : Result → Shared → Prop}
theorem add_code {h₀ : Heap} {above x dk kl : Addr} {esA es : List DictEntry} {oA oX : Obj} {nA nX : Nat} {nm nm' : Str} {par occ shp par' occ' shp' : Value} {kids' : Addr} {ks : List Addr} {k : Nat}
   (M : Amb w A base outer mean mg mb s.heap 2) (X₀ : (hd.heap_39 w.params).In h₀) (T₀ : Top hd.view_39 lso mean mg mb h₀) (k₀ : h₀.StaysIn s.heap) (n₀ : h₀.get? dk = none) (m₀ : h₀.get? kl = none) (hne : dk ≠ kl)
   (IA : InstAt h₀ above oA 136 (some (dictOf esA nA))) (EA : ItemEs esA nm par occ kl shp)
   (hx : h₀.get? x = some oX) (hxc : oX.cls = .ref 136) (hxn : notCls oX = true) (hxd : oX.dict = some dk) (hd' : s.heap.get? dk = some (dictOf es nX)) (EX : ItemEs es nm' par' occ' kids' shp') (hk : s.heap.get? kl = some (listOf (refs ks).toArray k)) (hks : ks.length < 1000)
   (hR : ∀ h' tk es' n', (∀ b o, b ≠ dk → b ≠ kl → s.heap.get? b = some o → h'.get? b = some o) → h'.get? dk = some (dictOf es' n') → ItemEs es' nm' (.ref above) occ' kids' shp' → h'.get? kl = some (listOf (refs (ks ++ [x])).toArray (k + 1)) → R (.ok (.ret .none)) { s with heap := h', toks := tk }) :
   codeAny (model PR w) A (.call (.ref 114) ⟨[.ref above, .ref x], []⟩) R s := by
  refine enter (rb := [((Str.ofString "kid"), .ref x), ((Str.ofString "self"), .ref above)]) M (by with_unfolding_all rfl) (by k_is) (BindsTo.of_eq rfl) (locs rfl) (by decide) ?_
  intro L h₁ tk hL F N
  with_reducible refine post_gen ?_
  intro Q₀ hQ₀
  have B := M.B
  have nc : ∀ a ∈ [dk, kl], h₀.get? a = none := by
    intro a ha
    rcases List.mem_cons.mp ha with rfl | ha
    · exact n₀
    · rw [List.mem_singleton.mp ha]; exact m₀
  have X := X₀.keeps (stays_cut k₀ nc)
  have T := T₀.keeps (stays_cut k₀ nc)
  have IA' := inst_keeps IA (stays_cut k₀ nc)
  have N₁ : News (cut s.heap [dk, kl]) L h₁ [(dk, dictOf es nX), (kl, listOf (refs ks).toArray k)] := News.ofCut F (by
    intro p hp
    rcases List.mem_cons.mp hp with rfl | hp
    · exact ⟨hd', .head _⟩
    · rw [List.mem_singleton.mp hp]; exact ⟨hk, mem1⟩)
  have F₁ := Fr.cut F [dk, kl]
  clear F N
  have hne' : kl ≠ dk := Ne.symm hne
  have hx' := stays_cut k₀ nc x oX hx
  have I1 := EX.parent
  have I5 := EA.kids
  (repeat' ((((fail_if_success (with_reducible show wpAny _ _ (exec (Stmt.While _ _ _ _) _) _ _ _)); (fail_if_success (with_reducible show wpAny _ _ (pyIter _) (fun it s₂ => LoopAtV _ _ _ _ _ _ _ _ _ it s₂) _ _)); (fail_if_success (with_reducible show wpAny _ _ (eval (Expr.ListComp _ _ _ _) _) _ _ _)); (fail_if_success (with_reducible show Exists _)))); first | (k_unfold; (try dsimp only)) | walk1 | (dsimp only; walk1) | fail "no step"))
  rename Fr _ _ _ _ => F₂
  rename News _ _ _ _ => N₂
  have IX : InstAt _ x oX 136 (some (dictOf es nX)) := ⟨F₂.keep _ _ hx', hxc, hxn, by rw [hxd]; exact (N₂ _ (.head _)).1⟩
  refine' set_dict F₂ X N₂ IX hxd ?k6 ?k7 ?k8 ?k9 ?k10 rfl ?k12 ?k13 ?_
  case k6 => k_is
  case k7 => k_is
  case k8 => k_is
  case k9 => k_is
  case k10 => rw [I1]; rfl
  case k12 => k_upd
  case k13 => rw [putL_len ⟨_, I1⟩]; have := EX.len; (walk_at "M om")
  intro h₃ F₃ N₃
  clear F₂ N₂ IX
  (repeat' ((((fail_if_success (with_reducible show wpAny _ _ (exec (Stmt.While _ _ _ _) _) _ _ _)); (fail_if_success (with_reducible show wpAny _ _ (pyIter _) (fun it s₂ => LoopAtV _ _ _ _ _ _ _ _ _ it s₂) _ _)); (fail_if_success (with_reducible show wpAny _ _ (eval (Expr.ListComp _ _ _ _) _) _ _ _)); (fail_if_success (with_reducible show Exists _)))); first | (k_unfold; (try dsimp only)) | walk1 | (dsimp only; walk1) | fail "no step"))
  rename Fr _ _ _ _ => F₄
  rename News _ _ _ _ => N₄
  rw [refs_push] at N₄
  refine hQ₀ _ _ ?_
  refine hR _ _ _ _ (fun b o h1 h2 e => F₄.keep b o ((cut_of (by simp [h1, h2])).trans e)) (N₄ _ (.head _)).1 EX.setParent (N₄ _ (mem1)).1
end
end T_F8
section T_F9
set_option maxHeartbeats 800000
set_option maxRecDepth 100000
/-- what a call has made: these objects are there, and were not before -/
noncomputable def Holds (h : Heap) (tps : List (Addr × Obj)) : Prop := ∀ p ∈ tps, h.get? p.1 = some p.2
/-- a leaf, as long as these objects stand -/
noncomputable def LeafBy (tps : List (Addr × Obj)) (x : Addr) (title : Str) (above : Addr) : Prop := ∀ h, Holds h tps → ∃ kids shp, ItemAt h x title (.ref above) .none kids shp ∧ Lst h kids [] ∧ ShapeAt h shp (Str.ofString "numeric")
theorem ne_kindL {b h : Heap} {L a d : Addr} {news : List (Addr × Obj)} {vs : Array Value} {k n : Nat} {es : List DictEntry} (N : News b L h news) (hp : (a, listOf vs k) ∈ news) (hq : (d, dictOf es n) ∈ news) : a ≠ d := fun e => by
  have h1 := (N _ hp).1
  have h2 := (N _ hq).1
  dsimp only at h1 h2
  rw [e, h2] at h1
  exact absurd (Value.type.inj (congrArg Obj.cls (Option.some.inj h1))) (by decide)
section
variable {w : World} {A : Around} {base : Heap} {outer : List Env} {mean : ExcName → Option Value} {mg mb : Str → Option Value} {s : Shared} {n : Nat} {R : Result → Shared → Prop}
theorem leaf_code {above kl : Addr} {esA : List DictEntry} {oA : Obj} {nA : Nat} {nm : Str} {par occ shp : Value} {ks : List Addr} {k : Nat} {title : Str} {tt : Tok}
   (M : Amb w A base outer mean mg mb (cut s.heap [kl]) 10)
   (IA : InstAt (cut s.heap [kl]) above oA 136 (some (dictOf esA nA))) (EA : ItemEs esA nm par occ kl shp) (hk : s.heap.get? kl = some (listOf (refs ks).toArray k)) (hks : ks.length < 1000)
   (hR : ∀ h' tk x tps, (∀ b o, b ≠ kl → s.heap.get? b = some o → h'.get? b = some o) → h'.get? kl = some (listOf (refs (ks ++ [x])).toArray (k + 1)) → Holds h' tps → (∀ p ∈ tps, s.heap.get? p.1 = none) → LeafBy tps x title above → R (.ok (.ret .none)) { s with heap := h', toks := tk }) :
   codeAny (model PR w) A (.call (.ref 349) ⟨[.ref above, .str title tt], []⟩) R s := by
  refine enter (rb := [((Str.ofString "title"), .str title tt), ((Str.ofString "above"), .ref above)]) (Amb.keeps M cut_sub) (by with_unfolding_all rfl) (by k_is) (BindsTo.of_eq rfl) (locs rfl) (by decide) ?_
  intro L h₁ tk hL F N
  with_reducible refine post_gen ?_
  intro Q₀ hQ₀
  have B := M.B
  have X := M.X
  have T := M.T
  have N₁ : News (cut s.heap [kl]) L h₁ [(kl, listOf (refs ks).toArray k)] := News.ofCut F (by simpa using hk)
  have F₁ := Fr.cut F [kl]
  have nL : s.heap.get? L = none := by rw [hL]; exact Heap.get?_none_of_le (Nat.le_refl _)
  have kk : s.heap.StaysIn h₁ := F.keep
  clear F N
  (repeat' ((((fail_if_success (with_reducible show wpAny _ _ (exec (Stmt.While _ _ _ _) _) _ _ _)); (fail_if_success (with_reducible show wpAny _ _ (pyIter _) (fun it s₂ => LoopAtV _ _ _ _ _ _ _ _ _ it s₂) _ _)); (fail_if_success (with_reducible show wpAny _ _ (eval (Expr.ListComp _ _ _ _) _) _ _ _)); (fail_if_success (with_reducible show Exists _)))); first | (k_unfold; (try dsimp only)) | walk1 | (dsimp only; walk1) | fail "no step"))
  refine make_item (Amb.down (Amb.inn M F₁) (by decide)) fun h₂ tk₂ x dx cl kl' es n NI => ?_
  have F₂ := Fr.keeps F₁ NI.stays
  have N₂ := News.app (news_new F₁ NI.x_ NI.nx) (News.app (news_new F₁ NI.dx_ NI.nd) (News.app (news_new F₁ NI.cl_ NI.nc) (News.app (news_new F₁ NI.kl_ NI.nk) (News.grown N₁ NI.stays))))
  dsimp only [List.cons_append, List.nil_append] at N₂
  have up : ∀ a, h₁.get? a = none → s.heap.get? a = none := fun a e => by
    cases q : s.heap.get? a with
    | none => rfl
    | some o => have := kk a o q; rw [e] at this; cases this
  have fx := up _ NI.nx
  have fd := up _ NI.nd
  have fc := up _ NI.nc
  have fk := up _ NI.nk
  have ES := NI.es_
  clear F₁ N₁ NI
  (repeat' ((((fail_if_success (with_reducible show wpAny _ _ (exec (Stmt.While _ _ _ _) _) _ _ _)); (fail_if_success (with_reducible show wpAny _ _ (pyIter _) (fun it s₂ => LoopAtV _ _ _ _ _ _ _ _ _ it s₂) _ _)); (fail_if_success (with_reducible show wpAny _ _ (eval (Expr.ListComp _ _ _ _) _) _ _ _)); (fail_if_success (with_reducible show Exists _)))); first | (k_unfold; (try dsimp only)) | walk1 | (dsimp only; walk1) | fail "no step"))
  rename Fr _ _ _ _ => F₃
  rename News _ _ _ _ => N₃
  have ad := (N₃ _ (mem1)).1
  have ax := (N₃ _ (.head _)).1
  refine make_shape (Amb.down (Amb.inn M F₃) (by decide)) fun h₄ tk₄ sx sd ses sn NS => ?_
  have F₄ := Fr.keeps F₃ NS.stays
  have N₄ := News.app (news_new F₃ NS.x_ NS.nx) (News.app (news_new F₃ NS.dx_ NS.nd) (News.grown N₃ NS.stays))
  dsimp only [List.cons_append, List.nil_append] at N₄
  have sxd : sx ≠ dx := fun e => by have := NS.nx; rw [e, ad] at this; cases this
  have sdd : sd ≠ dx := fun e => by have := NS.nd; rw [e, ad] at this; cases this
  have xd : x ≠ dx := fun e => by rw [e, ad] at ax; have h2 := congrArg Obj.cls (Option.some.inj ax); cases h2
  have cd : cl ≠ dx := ne_kindL N₄ (mem4) (mem3)
  have kd' : kl' ≠ dx := ne_kindL N₄ (mem5) (mem3)
  have kd : kl ≠ dx := ne_kindL N₄ (mem6) (mem3)
  clear F₃ N₃
  (repeat' ((((fail_if_success (with_reducible show wpAny _ _ (exec (Stmt.While _ _ _ _) _) _ _ _)); (fail_if_success (with_reducible show wpAny _ _ (pyIter _) (fun it s₂ => LoopAtV _ _ _ _ _ _ _ _ _ it s₂) _ _)); (fail_if_success (with_reducible show wpAny _ _ (eval (Expr.ListComp _ _ _ _) _) _ _ _)); (fail_if_success (with_reducible show Exists _)))); first | (k_unfold; (try dsimp only)) | walk1 | (dsimp only; walk1) | fail "no step"))
  have IX : InstAt h₄ x (instObj 136 dx) 136 (some (dictOf es n)) := ⟨(N₄ _ (mem2)).1, rfl, rfl, (N₄ _ (mem3)).1⟩
  refine' set_dict F₄ X N₄ IX rfl ?k6 ?k7 ?k8 ?k9 ?k10 rfl ?k12 ?k13 ?_
  case k6 => k_is
  case k7 => k_is
  case k8 => k_is
  case k9 => k_is
  case k10 => rw [ES.shape]; rfl
  case k12 => k_upd
  case k13 => rw [putL_len ⟨_, ES.shape⟩]; have := ES.len; (walk_at "M om")
  intro h₅ F₅ N₅
  clear F₄ N₄ IX
  (repeat' ((((fail_if_success (with_reducible show wpAny _ _ (exec (Stmt.While _ _ _ _) _) _ _ _)); (fail_if_success (with_reducible show wpAny _ _ (pyIter _) (fun it s₂ => LoopAtV _ _ _ _ _ _ _ _ _ it s₂) _ _)); (fail_if_success (with_reducible show wpAny _ _ (eval (Expr.ListComp _ _ _ _) _) _ _ _)); (fail_if_success (with_reducible show Exists _)))); first | (k_unfold; (try dsimp only)) | walk1 | (dsimp only; walk1) | fail "no step"))
  refine' method_inst F₅ X (inst_keeps IA F₅.keep) ?j4 ?j5 ?j6 ?j7 ?_
  case j4 => k_is
  case j5 => k_is
  case j6 => k_is
  case j7 => exact EA.noAdd
  (repeat' ((((fail_if_success (with_reducible show wpAny _ _ (exec (Stmt.While _ _ _ _) _) _ _ _)); (fail_if_success (with_reducible show wpAny _ _ (pyIter _) (fun it s₂ => LoopAtV _ _ _ _ _ _ _ _ _ it s₂) _ _)); (fail_if_success (with_reducible show wpAny _ _ (eval (Expr.ListComp _ _ _ _) _) _ _ _)); (fail_if_success (with_reducible show Exists _)))); first | (k_unfold; (try dsimp only)) | walk1 | (dsimp only; walk1) | fail "no step"))
  have nb : ∀ a ∈ [dx, kl], (cut s.heap [kl]).get? a = none := by
    intro a ha
    rcases List.mem_cons.mp ha with rfl | ha
    · exact (N₅ _ (mem3)).2.2
    · rw [List.mem_singleton.mp ha]; exact (N₅ _ (mem6)).2.2
  have kc := stays_cut F₅.keep nb
  have gk := (N₅ _ (mem6)).1
  have gx := (N₅ _ (mem2)).1
  have gs := (N₅ _ (.head _)).1
  have gd := (N₅ _ (mem1)).1
  have gkl := (N₅ _ (mem5)).1
  dsimp only at gk gx gs gd gkl
  have offk : ∀ (a : Addr) (o : Obj), h₅.get? a = some o → o.cls ≠ .type "list" → a ≠ kl := fun a o e c z => by
    rw [z, gk] at e; exact c (by rw [← Option.some.inj e])
  have xk := offk _ _ gx (by intro z; cases z)
  have sk := offk _ _ gs (by intro z; cases z)
  have dk' := offk _ _ gd (by intro z; exact absurd (Value.type.inj z) (by decide))
  have kk' : kl' ≠ kl := fun e => by rw [e, hk] at fk; cases fk
  have fr : ∀ a, a ≠ kl → (cut s.heap [kl]).get? a = none → s.heap.get? a = none := fun a h1 e => by rw [← e, cut_of (by simpa using h1)]
  have fs := fr _ sk (N₅ _ (.head _)).2.2
  have fsd := fr _ dk' (N₅ _ (mem1)).2.2
  obtain ⟨ct, hcat⟩ := NS.es_
  refine wpAny_callA (add_code (h₀ := cut h₅ [dx, kl]) (oX := instObj 136 dx) (Amb.down (Amb.inn M F₅) (by decide)) (X.keeps kc) (T.keeps kc) cut_sub (cut_none (.head _)) (cut_none (mem1)) (Ne.symm kd) (inst_keeps IA kc) EA ((cut_of (by simp [xd, xk])).trans gx) rfl rfl rfl (N₅ _ (mem3)).1 ES.setShape gk hks fun h₆ tk₆ es' n' k1 k2 k3 k4 => ?_)
  have fin : LeafBy [(sx, instObj 331 sd), (sd, dictOf ses sn), (x, instObj 136 dx), (dx, dictOf es' n'), (kl', listOf (List.toArray []) 0)] x title above := by
    intro h hh
    obtain ⟨⟨t, e1⟩, e2, e3, e4, e5, _, _⟩ := k3
    exact ⟨kl', .ref sx, ⟨instObj 136 dx, es', n', t, ⟨⟨hh _ (mem2), rfl, rfl, hh _ (mem3)⟩, e1, e2, e3, e4, e5⟩⟩, ⟨0, hh _ (mem4)⟩,
      ⟨sx, instObj 331 sd, ses, sn, ct, rfl, ⟨hh _ (.head _), rfl, rfl, hh _ (mem1)⟩, hcat⟩⟩
  (repeat' ((((fail_if_success (with_reducible show wpAny _ _ (exec (Stmt.While _ _ _ _) _) _ _ _)); (fail_if_success (with_reducible show wpAny _ _ (pyIter _) (fun it s₂ => LoopAtV _ _ _ _ _ _ _ _ _ it s₂) _ _)); (fail_if_success (with_reducible show wpAny _ _ (eval (Expr.ListComp _ _ _ _) _) _ _ _)); (fail_if_success (with_reducible show Exists _)))); first | (k_unfold; (try dsimp only)) | walk1 | (dsimp only; walk1) | fail "no step"))
  refine hQ₀ _ _ ?_
  refine hR _ _ x _ (fun b o hb e => k1 b o (fun z => by rw [z, fd] at e; cases e) hb (F₅.keep b o ((cut_of (by simpa using hb)).trans e))) k4 ?_ ?_ fin
  · intro p hp
    simp only [List.mem_cons, List.not_mem_nil, or_false] at hp
    rcases hp with rfl | rfl | rfl | rfl | rfl
    · exact k1 _ _ sxd sk gs
    · exact k1 _ _ sdd dk' gd
    · exact k1 _ _ xd xk gx
    · exact k2
    · exact k1 _ _ kd' kk' gkl
  · intro p hp
    simp only [List.mem_cons, List.not_mem_nil, or_false] at hp
    rcases hp with rfl | rfl | rfl | rfl | rfl
    · exact fs
    · exact fsd
    · exact fx
    · exact fd
    · exact fk
end
end T_F9
section T_F10
set_option maxHeartbeats 800000
set_option maxRecDepth 100000
theorem Fr.cutH {b h : Heap} {L : Addr} {m : Str → Option Value} {S : List Addr} (F : Fr b L h m) (hS : ∀ a ∈ S, a ≠ L ∧ b.get? a = none) : Fr b L (Mine.cut h S) m := by
  w_top off
  obtain ⟨o, es, ep, ho, r⟩ := F.ns
  exact ⟨⟨o, es, ep, (cut_of fun hm => (hS L hm).1 rfl).trans ho, r⟩, stays_cut F.keep fun a ha => (hS a ha).2, F.above⟩
section
variable {w : World} {A : Around} {base : Heap} {outer : List Env} {mean : ExcName → Option Value} {mg mb : Str → Option Value} {s : Shared} {n : Nat} {R : Result → Shared → Prop}
structure NewData (w : World) (s₀ h' : Heap) (x dx fd wl ll so xd : Addr) (es : List DictEntry) (n kf : Nat) (oX : Obj) : Prop where
  stays : s₀.StaysIn h'
  x_ : h'.get? x = some (instObj 162 dx)
  dx_ : h'.get? dx = some (dictOf es n)
  es_ : DataEs es fd wl ll xd
  fd_ : h'.get? fd = some (dictOf [] kf)
  wl_ : h'.get? wl = some (listOf (List.toArray []) 0)
  ll_ : h'.get? ll = some (listOf (List.toArray []) 0)
  so_ : h'.get? so = some (listOf (List.toArray []) 0)
  xd_ : h'.get? xd = some oX
  ix : oX.IsDictOf (strKind PR w) []
  lf : (fd == sysModules) = false
  lx : (xd == sysModules) = false
  nx : s₀.get? x = none
  nd : s₀.get? dx = none
  fresh : ∀ a ∈ [fd, wl, ll, so, xd], s₀.get? a = none
  off : ∀ a ∈ [fd, wl, ll, so, xd], a ≠ x ∧ a ≠ dx
  order : [wl, ll, fd, so, xd].Pairwise (· < ·)
theorem make_data {E : Value → Shared → Prop} {Q : Value → Shared → Prop} (M : Amb w A base outer mean mg mb s.heap 5)
   (h : ∀ h' tk x dx fd wl ll so xd es n kf oX, NewData w s.heap h' x dx fd wl ll so xd es n kf oX → Q (.ref x) { s with heap := h', toks := tk }) :
   wpAny (model PR w) A (call (.ref 162) []) Q E s := by
  obtain ⟨hh, g, d, t, os⟩ := s
  have M' := M
  obtain ⟨X, T, B, _, _⟩ := M'
  dsimp only at X T B
  refine wpAny_callA (make_core (C := 162) (makes_of X (by k_is)) (looks_findIn X (by k_is)) (fun self => bind_fn X self (by k_is)) (.inl rfl) ?_)
  have kp : hh.StaysIn ((hh.push emptyDict).push (instObj 162 hh.objs.size)) := fun b o e => Heap.get?_push_of_some _ (Heap.get?_push_of_some _ e)
  have hx : ((hh.push emptyDict).push (instObj 162 hh.objs.size)).get? (hh.objs.size + 1) = some (instObj 162 hh.objs.size) := by heap_get
  have hdx : ((hh.push emptyDict).push (instObj 162 hh.objs.size)).get? hh.objs.size = some emptyDict := Heap.get?_push_of_some _ (Heap.get?_push_size _ rfl)
  refine data_init (h₀ := hh) (Amb.down (Amb.underT (Amb.keeps M kp)) (by decide)) X T kp (Heap.get?_none_of_le (Nat.le_succ _)) (Heap.get?_none_of_le (Nat.le_refl _)) (Nat.lt_succ_self _) hx hdx fun h' tk es n fd wl ll so xd kf oX k1 k2 k3 k4 k5 k6 k7 k8 k9 k10 k11 k12 k13 => ?_
  have nd : hh.get? hh.objs.size = none := Heap.get?_none_of_le (Nat.le_refl _)
  have nf : ∀ a, ((hh.push emptyDict).push (instObj 162 hh.objs.size)).get? a = none → hh.get? a = none := fun a e => by
    cases q : hh.get? a with
    | none => rfl
    | some o => have := kp a o q; rw [e] at this; cases this
  exact ⟨rfl, h h' tk _ _ fd wl ll so xd es n kf oX ⟨fun b o e => k1 b o (fun z => by rw [z, nd] at e; cases e) (kp b o e), k1 _ _ (Nat.succ_ne_self _) hx, k2, k3, k4, k5, k6, k7, k8, k9, k10, k11, Heap.get?_none_of_le (Nat.le_succ _), nd, fun a ha => nf a (k12 a ha),
    fun a ha => ⟨fun z => (by have := k12 a ha; rw [z, hx] at this; cases this), fun z => (by have := k12 a ha; rw [z, hdx] at this; cases this)⟩, k13⟩⟩
end
end T_F10
section T_G1
set_option maxHeartbeats 1000000
set_option maxRecDepth 100000
noncomputable def dropTo (w : Str) : List Str → Option (List Str)
  | [] => none
  | x :: r => if x = w then some r else dropTo w r
/-- what the law asks of a row: these names stand around it, in this order -/
noncomputable def follows : List Str → List Str → Bool
  | _, [] => true
  | rest, w :: r => match dropTo w rest with
    | none => false
    | some rest' => follows rest' r
theorem dropTo_none {w : Str} : ∀ {l : List Str}, l.any (· == w) = false → dropTo w l = none
  | [], _ => rfl
  | x :: r, h => by
    simp only [List.any_cons, Bool.or_eq_false_iff] at h
    unfold dropTo
    rw [if_neg (by intro e; have := h.1; rw [e] at this; simp at this)]
    exact dropTo_none h.2
theorem dropTo_some {w : Str} : ∀ {l : List Str}, l.any (· == w) = true → dropTo w l = some (l.drop (l.idxOf w + 1))
  | [], h => by simp at h
  | x :: r, h => by
    unfold dropTo
    by_cases e : x = w
    · rw [if_pos e, e]; simp
    · rw [if_neg e]
      have h' : r.any (· == w) = true := by
        simp only [List.any_cons, Bool.or_eq_true] at h
        rcases h with h | h
        · exact absurd (eq_of_beq h) e
        · exact h
      have e' : (x == w) = false := by simpa using e
      rw [dropTo_some h', List.idxOf_cons, e']
      simp
theorem pick_from (xs : List Value) (k : Nat) (hk : k ≤ xs.length) (hz : xs.length < 50000) : slicePick xs.toArray (some (k : Int)) none none = (xs.drop k).toArray := by
  w_top off
  have e : sliceBounds (some (k : Int)) none none xs.toArray.size = ((k : Int), (xs.length : Int), 1) := by
    unfold sliceBounds
    simp
    exact cl hk
  rw [kmk_pick_nat _ e]
  congr 1
  rw [List.toList_toArray, List.take_of_length_le (by simp)]
theorem strs_drop : ∀ {vs : List Value} {ns : List Str} (k : Nat), StrsAre vs ns → StrsAre (vs.drop k) (ns.drop k)
  | _, _, 0, h => h
  | _, _, _ + 1, .nil => .nil
  | _, _, k + 1, .cons _ _ h => strs_drop k h
inductive RestJ (a : Addr) (title : Str) (tt : Tok) (around us : List Str) (i : Nat) (m : Str → Option Value) (nx : List (Addr × Obj)) : Prop
  | mk (D : Addr) (rv : List Value) (c : Nat) (rest : List Str) (e : nx = [(D, listOf rv.toArray c)]) (S : StrsAre rv rest) (z : rest.length < 1000) (m1 : m (Str.ofString "row") = some (.ref a)) (m2 : m (Str.ofString "title") = some (.str title tt)) (m3 : m (Str.ofString "rest") = some (.ref D)) (f : follows around us = follows rest (us.drop i)) : RestJ a title tt around us i m nx
section
variable {prog : Program} {w : World} {A : Around} {E : Value → Shared → Prop} {s : Shared} {Q : Value → Shared → Prop}
theorem isStrOf_at (k : Str) {vs : List Value} {ys : List Str} (h : StrsAre vs ys) {j : Nat} (h1 : j < vs.length) (h2 : j < ys.length) : isStrOf k vs[j] = (ys[j] == k) := by
  obtain ⟨t, e⟩ := strs_at h (List.getElem?_eq_getElem h2)
  rw [List.getElem?_eq_getElem h1] at e
  rw [Option.some.inj e]; rfl
theorem index_strs {l : Addr} {vs : List Value} {ys : List Str} {k : Str} {t : Tok} (hl : Lst s.heap l vs) (hi : StrsAre vs ys) (hb : ys.length < 100000) (hk : ys.any (· == k) = true) (h : ∀ t tk, Q (.int (ys.idxOf k : Nat) t) { s with toks := tk }) :
    wpAny (model prog w) A (call (.builtin "list.index") [.ref l, .str k t]) Q E s := by
  obtain ⟨n, ho⟩ := hl
  have hlen := hi.len_eq
  have hm : k ∈ ys := by
    obtain ⟨x, hx, e⟩ := List.any_eq_true.mp hk
    rw [← eq_of_beq e]; exact hx
  have hj : ys.idxOf k < ys.length := List.idxOf_lt_length_iff.mpr hm
  refine call_meets PySem.F.slot_list_index ⟨_, ho, rfl⟩ PySem.F.entry_list_index (PySem.F.args_list_index_2 _ _)
    (MeetsSeq.list_index l vs.toArray n (.str k t) (isStrOf k) (fun y hy => eq_isStrOf k t hi y (by simpa using hy)) (ys.idxOf k) (by simpa [hlen] using hj) (by (walk_at "M om")) ?_ ?_) ⟨ho, h _ _⟩
  · show isStrOf k vs[ys.idxOf k] = true
    rw [isStrOf_at k hi (by (walk_at "M om")) hj]
    simpa using List.getElem_idxOf hj
  · intro m hm' hlt
    show isStrOf k vs[m] = false
    rw [isStrOf_at k hi _ (by (walk_at "M om"))]
    have := List.not_of_lt_findIdx (p := (· == k)) hlt
    simpa using this
end

local macro_rules | `(tactic| walk_at "M strs") => `(tactic| first | assumption)
local macro_rules | `(tactic| walk_at "call type:list") => `(tactic| (k_here; (with_unfolding_all apply list_copyK; k_asm; k_asm; walk_at "M list"; rotate_left; (rw [List.size_toArray, sizeLine_eq]; (walk_at "M om")); k_whole); intro D' c' h' F' N' l1; (try k_lt l1); (try k_sweep)))
local macro_rules | `(tactic| walk_at "compareOp NotIn str ref") => `(tactic| (k_here; refine notin_list_strs (by walk_at "M list") (by walk_at "M strs") ?_))
local macro_rules | `(tactic| walk_at "call builtin:list.index") => `(tactic| (k_here; apply index_strs; walk_at "M lst"; walk_at "M strs"; (walk_at "M om"); (first | assumption | simpa using ‹_›); intro tt tk'; (try dsimp only)))
section
variable {w : World} {A : Around} {base : Heap} {outer : List Env} {mean : ExcName → Option Value} {mg mb : Str → Option Value} {s : Shared} {n : Nat} {R : Result → Shared → Prop}
/-- a row of the law's own -/
structure RowAt (h : Heap) (a : Addr) (nm : Str) (around : List Str) (deep : Int) : Prop where
  at_ : ∃ t la t2 av, Tpl h a [.str nm t, .ref la, .int deep t2] ∧ Lst h la av ∧ StrsAre av around
theorem RowAt.keeps {g h : Heap} {a : Addr} {nm : Str} {around : List Str} {deep : Int} (r : RowAt g a nm around deep) (k : ∀ b o, g.get? b = some o → h.get? b = some o) : RowAt h a nm around deep := by
  obtain ⟨t, la, t2, av, a, b, c⟩ := r
  exact ⟨t, la, t2, av, a.keeps k, b.keeps k, c⟩
theorem meets_code {a q : Addr} {nm title : Str} {tt : Tok} {around us : List Str} {qv : List Value} {deep : Int}
   (M : Amb w A base outer mean mg mb s.heap 5) (H : HOK A s.heap) (r : RowAt s.heap a nm around deep) (hz : around.length < 1000) (ht : Tpl s.heap q qv) (hq : StrsAre qv us)
   (hR : ∀ h' tk, s.heap.StaysIn h' → R (.ok (.ret (.bool (follows around us && nm == title)))) { s with heap := h', toks := tk }) :
   codeAny (model PR w) A (.call (.ref 363) ⟨[.ref a, .str title tt, .ref q], []⟩) R s := by
  have X := M.X
  have T := M.T
  have B := M.B
  obtain ⟨t, la, t2, av, RT, RL, RS⟩ := r
  have hav := RS.len_eq
  refine enter (rb := [(Str.ofString "qualifiers", .ref q), (Str.ofString "title", .str title tt), (Str.ofString "row", .ref a)]) M (by with_unfolding_all rfl) (by k_is) (BindsTo.of_eq rfl) (locs rfl) (by decide) ?_
  intro L h₁ tk hL F N
  with_reducible refine post_gen ?_
  intro Q₀ hQ₀
  (repeat' ((((fail_if_success (with_reducible show wpAny _ _ (exec (Stmt.While _ _ _ _) _) _ _ _)); (fail_if_success (with_reducible show wpAny _ _ (pyIter _) (fun it s₂ => LoopAtV _ _ _ _ _ _ _ _ _ it s₂) _ _)); (fail_if_success (with_reducible show wpAny _ _ (eval (Expr.ListComp _ _ _ _) _) _ _ _)); (fail_if_success (with_reducible show Exists _)))); first | (k_unfold; (try dsimp only)) | walk1 | (dsimp only; walk1) | fail "no step"))
  rename Fr _ _ _ _ => F₁
  rename News _ _ _ _ => N₁
  refine iterH_tuple (vs := qv) (nx₀ := _) (RestJ a title tt around us)
    (show HOK _ s.heap from H) ((ht.keeps F₁.keep).isTup) F₁ N₁ (fun p hp => hp) ?_ ⟨_, _, _, _, rfl, RS, hz, rfl, rfl, rfl, rfl⟩ ?_ ?_
  · intro p hp e
    have h1 := (N₁ p hp).2.2
    obtain ⟨k, e1⟩ := ht
    rw [e, e1] at h1; cases h1
  · rintro i v m₁ nx h tk own hv hoff ⟨D, rv, c, rest, rfl, hrs, hrz, hm1, hm2, hm3, hfo⟩ F N
    obtain ⟨wn, t1, hn, rfl⟩ := strs_get hq hv
    clear F₁ N₁
    have hdr : us.drop i = wn :: us.drop (i + 1) := by
      obtain ⟨hi, he⟩ := List.getElem?_eq_some_iff.mp hn
      rw [List.drop_eq_getElem_cons hi, he]
    have hrl := hrs.len_eq
    replace F := Fr.upd [(Str.ofString "row", _), (Str.ofString "title", _), (Str.ofString "rest", _)] F (allCons hm1 (allCons hm2 (allCons hm3 (List.forall_mem_nil _))))
    clear hm1 hm2 hm3
    have hown := hoff.ne (p := (D, listOf rv.toArray c)) (.head _)
    dsimp only [List.cons_append, List.nil_append] at N
    (repeat' ((((fail_if_success (with_reducible show wpAny _ _ (exec (Stmt.While _ _ _ _) _) _ _ _)); (fail_if_success (with_reducible show wpAny _ _ (pyIter _) (fun it s₂ => LoopAtV _ _ _ _ _ _ _ _ _ it s₂) _ _)); (fail_if_success (with_reducible show wpAny _ _ (eval (Expr.ListComp _ _ _ _) _) _ _ _)); (fail_if_success (with_reducible show Exists _)))); first | (k_unfold; (try dsimp only)) | walk1 | (dsimp only; walk1) | fail "no step"))
    · rename Fr _ _ _ _ => F₂
      rename News _ _ _ _ => N₂
      simp only at N₂
      have hj : rest.idxOf wn < rest.length := List.idxOf_lt_length_iff.mpr (by
        obtain ⟨x, hx, e⟩ := List.any_eq_true.mp ‹(rest.any fun x => x == wn) = true›
        rw [← eq_of_beq e]; exact hx)
      have hp : slicePick rv.toArray (some ((rest.idxOf wn : Int) + 1)) none none = (rv.drop (rest.idxOf wn + 1)).toArray := pick_from rv (rest.idxOf wn + 1) (by (walk_at "M om")) (by (walk_at "M om"))
      rw [hp] at N₂
      refine InvEndG.intro F₂ N₂ (nx := [(h.objs.size + 1, listOf (rv.drop (rest.idxOf wn + 1)).toArray 0)]) ⟨h.objs.size + 1, rv.drop (rest.idxOf wn + 1), 0, rest.drop (rest.idxOf wn + 1), rfl, strs_drop _ hrs, ?_, rfl, rfl, rfl, ?_⟩ ?_ ?_ ?_
      · rw [List.length_drop]; (walk_at "M om")
      · rw [hfo, hdr]
        show (match dropTo wn rest with | none => false | some r => follows r (us.drop (i + 1))) = _
        rw [dropTo_some ‹_›]
      · intro p hp b hb e
        rw [List.mem_singleton.mp hb] at e
        have h1 : p.1 < h.objs.size := Heap.lt_size (N p (.tail _ hp)).1
        exact absurd (Nat.lt_of_le_of_lt (Nat.le_of_eq e.symm) h1) (Nat.not_lt.mpr (Nat.le_succ _))
      · intro p hp
        rw [List.mem_singleton.mp hp]; exact .head _
      · intro p hp
        exact memT2 hp
    · have hfo' : follows around us = false := by rw [hfo, hdr]; unfold follows; rw [dropTo_none ‹_›]
      rw [hfo'] at hR
      refine hQ₀ _ _ ?_
      exact hR _ _ F.keep
  · rintro m₁ nx h tk ⟨D, rv, c, rest, rfl, hrs, hrz, hm1, hm2, hm3, hfo⟩ F N
    clear F₁ N₁
    rw [show us.drop qv.length = [] by rw [hq.len_eq]; simp] at hfo
    replace F := Fr.upd0 [(Str.ofString "row", _), (Str.ofString "title", _), (Str.ofString "rest", _)] F (allCons hm1 (allCons hm2 (allCons hm3 (List.forall_mem_nil _))))
    have hfo' : follows around us = true := by rw [hfo]; cases rest <;> rfl
    (repeat' ((((fail_if_success (with_reducible show wpAny _ _ (exec (Stmt.While _ _ _ _) _) _ _ _)); (fail_if_success (with_reducible show wpAny _ _ (pyIter _) (fun it s₂ => LoopAtV _ _ _ _ _ _ _ _ _ it s₂) _ _)); (fail_if_success (with_reducible show wpAny _ _ (eval (Expr.ListComp _ _ _ _) _) _ _ _)); (fail_if_success (with_reducible show Exists _)))); first | (k_unfold; (try dsimp only)) | walk1 | (dsimp only; walk1) | fail "no step"))
    rename Fr _ _ _ _ => F₂
    rw [hfo'] at hR
    refine hQ₀ _ _ ?_
    exact hR _ _ F₂.keep
end
end T_G1
section T_R0
set_option maxHeartbeats 8000000
set_option maxRecDepth 100000
theorem itemAt_of {h : Heap} {x : Addr} {o : Obj} {es : List DictEntry} {n : Nat} {nm : Str} {par occ shp : Value} {kl : Addr} (I : InstAt h x o 136 (some (dictOf es n))) (E : ItemEs es nm par occ kl shp) : ItemAt h x nm par occ kl shp := by
  w_top off
  obtain ⟨⟨t, h1⟩, h2, h3, h4, h5, _, _⟩ := E
  exact ⟨o, es, n, t, ⟨I, h1, h2, h3, h4, h5⟩⟩
/-- the rows of the law, one an item, in the items' order -/
inductive RowsAt (h : Heap) : List Addr → List It → Prop
  | nil : RowsAt h [] []
  | cons {a : Addr} {it : It} {as : List Addr} {its : List It} : RowAt h a it.nm (it.us.map Up.nm) (deepOf it.us it.tab : Nat) → RowsAt h as its → RowsAt h (a :: as) (it :: its)
theorem RowsAt.append {h : Heap} {as bs : List Addr} {is js : List It} (r : RowsAt h as is) (r' : RowsAt h bs js) : RowsAt h (as ++ bs) (is ++ js) := by
  induction r with
  | nil => exact r'
  | cons x _ ih => exact .cons x ih
theorem RowsAt.len {h : Heap} {as : List Addr} {is : List It} (r : RowsAt h as is) : as.length = is.length := by
  induction r with
  | nil => rfl
  | cons _ _ ih => simp [ih]
/-- the record in the making: above is the innermost group so far, kl the list of its kids -/
structure Grow (h : Heap) (root above kl ar : Addr) (ks : List Addr) (its : List It) (us : List Up) (rts : List Addr) : Prop where
  ok : ∀ it ∈ its, ItAt h it
  line : Line h (.ref above) us
  pre : ∀ more rest, Lst h kl (refs (ks ++ more)) → Pre h more.reverse rest → Pre h [root] (its.map It.a ++ rest)
  top : ∃ oA esA nA nm par occ shp, InstAt h above oA 136 (some (dictOf esA nA)) ∧ ItemEs esA nm par occ kl shp
  around : ∃ av, Lst h ar av ∧ StrsAre av (us.map Up.nm)
  rows : RowsAt h rts its
noncomputable def GrowBy (tps : List (Addr × Obj)) (root above kl ar : Addr) (ks : List Addr) (its : List It) (us : List Up) (rts : List Addr) : Prop := ∀ h, Holds h tps → Grow h root above kl ar ks its us rts
/-- what is said of the record's names -/
structure Names (root : Addr) (i : Nat) (its : List It) (us : List Up) : Prop where
  head : ∃ N tl, its = ⟨root, (Str.ofString "R"), [], false, (Str.ofString "group")⟩ :: ⟨N, (Str.ofString "N"), [⟨root, (Str.ofString "R"), false⟩], false, (Str.ofString "numeric")⟩ :: tl ∧ ∀ it ∈ tl, it.nm ≠ (Str.ofString "R") ∧ it.nm ≠ (Str.ofString "N") ∧ it.nm ≠ (Str.ofString "Q")
  plain : ∀ u ∈ us, u.nm ≠ (Str.ofString "FILLER")
  ilen : its.length ≤ 2 + 3 * i
  ulen : us.length ≤ i + 1
/-- a leaf stands -/
noncomputable def LeafAt (h : Heap) (x : Addr) (title : Str) (above : Addr) : Prop := ∃ kids shp, ItemAt h x title (.ref above) .none kids shp ∧ Lst h kids [] ∧ ShapeAt h shp (Str.ofString "numeric")
noncomputable def leafIt (us : List Up) (x : Addr × Str) : It := ⟨x.1, x.2, us, false, (Str.ofString "numeric")⟩
theorem LeafAt.it {h : Heap} {x : Addr × Str} {above : Addr} {us : List Up} (l : LeafAt h x.1 x.2 above) (ln : Line h (.ref above) us) (hz : us.length < 500) (hp : ∀ u ∈ us, u.nm ≠ (Str.ofString "FILLER")) : ItAt h (leafIt us x) := by
  obtain ⟨kids, shp, a, b, c⟩ := l
  exact ⟨_, _, _, _, ⟨a, rfl, .inl rfl, ln, hz, hp, c⟩⟩
theorem pre_leaves {h : Heap} {above : Addr} {rest st : List Addr} (p : Pre h st rest) : ∀ {lv : List (Addr × Str)}, (∀ x ∈ lv, LeafAt h x.1 x.2 above) → Pre h (st ++ (lv.map (·.1)).reverse) (lv.map (·.1) ++ rest)
  | [], _ => by simpa using p
  | x :: r, hl => by
    obtain ⟨kids, shp, a, b, _⟩ := hl x (.head _)
    have ih := pre_leaves p (lv := r) fun y hy => hl y (.tail _ hy)
    simp only [List.map_cons, List.reverse_cons, List.cons_append]
    rw [← List.append_assoc]
    exact .step (ks := []) a b (by simpa using ih)
theorem Grow.next {h : Heap} {root above kl ar ar' g klG : Addr} {ks : List Addr} {its : List It} {us : List Up} {rts rts' : List Addr} {oG : Obj} {esG : List DictEntry} {nG : Nat} {nmG : Str} {occ shp : Value} {lv : List (Addr × Str)} {tab : Bool} {av : List Value}
    (G : Grow h root above kl ar ks its us rts) (hz : us.length < 400) (hp : ∀ u ∈ us, u.nm ≠ (Str.ofString "FILLER")) (hpG : nmG ≠ (Str.ofString "FILLER")) (hc : Lst h kl (refs (ks ++ [g]))) (IG : InstAt h g oG 136 (some (dictOf esG nG))) (EG : ItemEs esG nmG (.ref above) occ klG shp) (hs : ShapeAt h shp (Str.ofString "group"))
    (ht : tab = (occ != .none)) (ho : occ = .none ∨ ∃ o, occ = .ref o) (hl : ∀ x ∈ lv, LeafAt h x.1 x.2 g) (ha : Lst h ar' av) (has : StrsAre av (nmG :: us.map Up.nm)) (hr : RowsAt h rts' (⟨g, nmG, us, tab, (Str.ofString "group")⟩ :: lv.map (leafIt (⟨g, nmG, tab⟩ :: us)))) :
    Grow h root g klG ar' (lv.map (·.1)) (its ++ ⟨g, nmG, us, tab, (Str.ofString "group")⟩ :: lv.map (leafIt (⟨g, nmG, tab⟩ :: us))) (⟨g, nmG, tab⟩ :: us) (rts ++ rts') := by
  have IA := itemAt_of IG EG
  have LN : Line h (.ref g) (⟨g, nmG, tab⟩ :: us) := .cons IA ht ho G.line
  have hp' : ∀ u ∈ (⟨g, nmG, tab⟩ : Up) :: us, u.nm ≠ (Str.ofString "FILLER") := allCons hpG hp
  refine ⟨?_, LN, ?_, ⟨_, _, _, _, _, _, _, IG, EG⟩, ⟨av, ha, has⟩, G.rows.append hr⟩
  · intro it hit
    rcases List.mem_append.mp hit with hit | hit
    · exact G.ok it hit
    · rcases List.mem_cons.mp hit with rfl | hit
      · exact ⟨_, _, _, _, ⟨IA, ht, ho, G.line, by show us.length < 500; (walk_at "M om"), hp, hs⟩⟩
      · obtain ⟨x, hx, rfl⟩ := List.mem_map.mp hit
        exact (hl x hx).it LN (by simp; (walk_at "M om")) hp'
  · intro more rest hk hm
    have e : (its ++ ⟨g, nmG, us, tab, (Str.ofString "group")⟩ :: lv.map (leafIt (⟨g, nmG, tab⟩ :: us))).map It.a ++ rest = its.map It.a ++ (g :: (lv.map (·.1) ++ rest)) := by
      simp [List.map_append, List.map_map, Function.comp_def, leafIt]
    rw [e]
    refine G.pre [g] _ hc ?_
    refine .step (st := []) IA hk ?_
    rw [List.reverse_append, List.nil_append]
    exact pre_leaves hm hl
theorem Grow.start {h : Heap} {root kl ar xN r1 r2 : Addr} {oG : Obj} {esG : List DictEntry} {nG : Nat} {shp : Value} {av : List Value}
    (IG : InstAt h root oG 136 (some (dictOf esG nG))) (EG : ItemEs esG (Str.ofString "R") .none .none kl shp) (hs : ShapeAt h shp (Str.ofString "group")) (hl : LeafAt h xN (Str.ofString "N") root) (ha : Lst h ar av) (has : StrsAre av [(Str.ofString "R")])
    (h1 : RowAt h r1 (Str.ofString "R") [] 0) (h2 : RowAt h r2 (Str.ofString "N") [(Str.ofString "R")] 0) :
    Grow h root root kl ar [xN] [⟨root, (Str.ofString "R"), [], false, (Str.ofString "group")⟩, ⟨xN, (Str.ofString "N"), [⟨root, (Str.ofString "R"), false⟩], false, (Str.ofString "numeric")⟩] [⟨root, (Str.ofString "R"), false⟩] [r1, r2] := by
  have IA := itemAt_of IG EG
  have LN : Line h (.ref root) [⟨root, (Str.ofString "R"), false⟩] := .cons IA rfl (.inl rfl) .nil
  have hp : ∀ u ∈ [(⟨root, (Str.ofString "R"), false⟩ : Up)], u.nm ≠ (Str.ofString "FILLER") := by intro u hu; rw [List.mem_singleton.mp hu]; show (Str.ofString "R") ≠ (Str.ofString "FILLER"); decide
  refine ⟨?_, LN, ?_, ⟨_, _, _, _, _, _, _, IG, EG⟩, ⟨av, ha, has⟩, .cons h1 (.cons h2 .nil)⟩
  · intro it hit
    rcases List.mem_cons.mp hit with rfl | hit
    · exact ⟨_, _, _, _, ⟨IA, rfl, .inl rfl, .nil, Nat.succ_pos _, (fun u hu => nomatch hu), hs⟩⟩
    · rw [List.mem_singleton.mp hit]
      exact LeafAt.it (x := (xN, (Str.ofString "N"))) hl LN (by simp) hp
  · intro more rest hk hm
    refine .step (st := []) IA hk ?_
    rw [List.reverse_append, List.nil_append]
    exact pre_leaves (lv := [(xN, (Str.ofString "N"))]) hm fun x hx => by rw [List.mem_singleton.mp hx]; exact hl
theorem GrowBy.tree {tps : List (Addr × Obj)} {root above kl ar : Addr} {ks : List Addr} {its : List It} {us : List Up} {rts : List Addr} {h : Heap} (G : GrowBy tps root above kl ar ks its us rts) (hh : Holds h tps) (hk : Lst h kl (refs ks)) (hz : its.length < 500) : Tree h root its := by
  have g := G h hh
  exact ⟨by simpa using g.pre [] [] (by simpa using hk) .nil, g.ok, hz⟩
theorem back_one {b h h' : Heap} {L a : Addr} {m : Str → Option Value} {o o' : Obj} {rest : List (Addr × Obj)} (F : Fr b L h m) (N : News b L h ((a, o) :: rest)) (k : ∀ c x, c ≠ a → h.get? c = some x → h'.get? c = some x) (e : h'.get? a = some o') (off : ∀ p ∈ rest, p.1 ≠ a) :
    Fr b L h' m ∧ News b L h' ((a, o') :: rest) := by
  have n := N _ (.head _)
  obtain ⟨ob, es, ep, ho, r⟩ := F.ns
  refine ⟨⟨⟨ob, es, ep, k _ _ (Ne.symm n.2.1) ho, r⟩, fun c x q => k c x (fun z => by rw [z, n.2.2] at q; cases q) (F.keep c x q), F.above⟩, ?_⟩
  intro p hp
  rcases List.mem_cons.mp hp with rfl | hp
  · exact ⟨e, n.2⟩
  · exact ⟨k _ _ (off p hp) (N p (.tail _ hp)).1, (N p (.tail _ hp)).2⟩
/-- behind _law_leaf -/
theorem leaf_back {b h h' : Heap} {L kl : Addr} {m : Str → Option Value} {o o' : Obj} {rest tps : List (Addr × Obj)} (F : Fr b L h m) (N : News b L h ((kl, o) :: rest)) (k : ∀ c x, c ≠ kl → h.get? c = some x → h'.get? c = some x) (e : h'.get? kl = some o') (off : ∀ p ∈ rest, @Ne Nat p.1 kl)
    (ht : Holds h' tps) (hf : ∀ p ∈ tps, h.get? p.1 = none) : Fr b L h' m ∧ News b L h' ((kl, o') :: (rest ++ tps)) ∧ ∀ q ∈ (kl, o) :: rest, ∀ p ∈ tps, @Ne Nat p.1 q.1 := by
  have n := N _ (.head _)
  obtain ⟨ob, es, ep, ho, r⟩ := F.ns
  have F' : Fr b L h' m := ⟨⟨ob, es, ep, k _ _ (Ne.symm n.2.1) ho, r⟩, fun c x q => k c x (fun z => by rw [z, n.2.2] at q; cases q) (F.keep c x q), F.above⟩
  refine ⟨F', ?_, ?_⟩
  · intro p hp
    rcases List.mem_cons.mp hp with rfl | hp
    · exact ⟨e, n.2⟩
    · rcases List.mem_append.mp hp with hp | hp
      · exact ⟨k _ _ (off p hp) (N p (.tail _ hp)).1, (N p (.tail _ hp)).2⟩
      · exact news_new F (ht p hp) (hf p hp) _ (.head _)
  · intro q hq p hp e
    have h1 := (N q hq).1
    have e' : p.1 = q.1 := e
    rw [← e', hf p hp] at h1; cases h1
theorem instAt_cut {h : Heap} {x dx : Addr} {C : Addr} {es : List DictEntry} {n : Nat} {S : List Addr} (h1 : h.get? x = some (instObj C dx)) (h2 : h.get? dx = some (dictOf es n)) (n1 : x ∉ S) (n2 : dx ∉ S) : InstAt (cut h S) x (instObj C dx) C (some (dictOf es n)) :=
  ⟨(cut_of n1).trans h1, rfl, rfl, (cut_of n2).trans h2⟩
theorem holds_cut {h : Heap} {tps : List (Addr × Obj)} {S : List Addr} (hh : Holds h tps) (hS : ∀ a ∈ S, ∀ p ∈ tps, @Ne Nat p.1 a) : Holds (cut h S) tps := fun p hp => (cut_of fun hm => hS _ hm p hp rfl).trans (hh p hp)
theorem holds_of {b h : Heap} {L : Addr} {tps news : List (Addr × Obj)} (N : News b L h news) (hs : ∀ p ∈ tps, p ∈ news) : Holds h tps := fun p hp => (N p (hs p hp)).1
theorem cut_frame {b h : Heap} {L : Addr} {m : Str → Option Value} {news : List (Addr × Obj)} {S : List Addr} (F : Fr b L h m) (N : News b L h news) (hS : ∀ a ∈ S, ∃ o, (a, o) ∈ news) : Fr b L (Mine.cut h S) m :=
  Fr.cutH F fun a ha => let ⟨_, ho⟩ := hS a ha; ⟨(N _ ho).2.1, (N _ ho).2.2⟩
theorem News.put {b h : Heap} {L a : Addr} {o o' : Obj} {news : List (Addr × Obj)} (N : News b L h news) (hm : (a, o) ∈ news) (e : h.get? a = some o') : News b L h [(a, o')] := fun p hp => by
  rw [List.mem_singleton.mp hp]; exact ⟨e, (N _ hm).2⟩
theorem allLt_off {d : Addr} : ∀ {l : List (Addr × Obj)}, AllLt d l → ∀ p ∈ l, @Ne Nat p.1 d
  | [], _, p, hp => nomatch hp
  | _ :: _, h, p, hp => by
    rcases List.mem_cons.mp hp with rfl | hp
    · exact Nat.ne_of_lt h.1
    · exact allLt_off h.2 p hp
noncomputable def xNames : List Str := [(Str.ofString "X0"), (Str.ofString "X1"), (Str.ofString "X2")]
/-- between two levels of the record -/
structure RecAt (w : World) (root data hand cells xd wl : Addr) (p0 : Int) (i : Nat) (m : Str → Option Value) (nx : List (Addr × Obj)) (above kl ar rl : Addr) (ks rts : List Addr) (its : List It) (us : List Up) (k1 k2 k3 : Nat) (p sd : Int) (t1 t2 td : Tok) (oX : Obj) (kvs : List (Str × Value)) (tps : List (Addr × Obj)) : Prop where
  eq : nx = (hand, handObj cells p sd t1 t2 k3) :: (kl, listOf (refs ks).toArray k1) :: (rl, listOf (refs rts).toArray k2) :: (xd, oX) :: tps
  m1 : m (Str.ofString "hand") = some (.ref hand)
  m2 : m (Str.ofString "data") = some (.ref data)
  m3 : m (Str.ofString "rows") = some (.ref rl)
  m4 : m (Str.ofString "above") = some (.ref above)
  m5 : m (Str.ofString "around") = some (.ref ar)
  m6 : m (Str.ofString "deep") = some (.int (deepOf us false : Nat) td)
  grow : GrowBy tps root above kl ar ks its us rts
  names : Names root i its us
  ix : oX.IsDictOf (strKind PR w) kvs
  kl_ : kvs.length ≤ i
  kx : ∀ q ∈ kvs, q.1 ∈ xNames
  p0_ : 0 ≤ p
  p1_ : p ≤ p0 + 2 * i
  s0_ : 0 ≤ sd
  s1_ : sd < 4294967296
  of1 : ∀ q ∈ tps, @Ne Nat q.1 hand
  of2 : ∀ q ∈ tps, @Ne Nat q.1 kl
  of3 : ∀ q ∈ tps, @Ne Nat q.1 rl
  of4 : ∀ q ∈ tps, @Ne Nat q.1 xd
  d1 : @Ne Nat kl hand
  d2 : @Ne Nat rl hand
  d3 : @Ne Nat rl kl
  d4 : @Ne Nat xd kl
  d5 : @Ne Nat xd rl
  ksl : ks.length ≤ 2
  rtl : rts.length = its.length
  wk : ∃ k, (wl, listOf (refs [root]).toArray k) ∈ tps
  ak : ∃ av k, (ar, listOf av.toArray k) ∈ tps ∧ StrsAre av (us.map Up.nm)
inductive RecJ (w : World) (root data hand cells xd wl : Addr) (p0 : Int) (i : Nat) (m : Str → Option Value) (nx : List (Addr × Obj)) : Prop
  | mk (above kl ar rl : Addr) (ks rts : List Addr) (its : List It) (us : List Up) (k1 k2 k3 : Nat) (p sd : Int) (t1 t2 td : Tok) (oX : Obj) (kvs : List (Str × Value)) (tps : List (Addr × Obj))
    (h : RecAt w root data hand cells xd wl p0 i m nx above kl ar rl ks rts its us k1 k2 k3 p sd t1 t2 td oX kvs tps) : RecJ w root data hand cells xd wl p0 i m nx
theorem tbEnd_mk {h₀ : Heap} {L : Addr} {J : (Str → Option Value) → List (Addr × Obj) → Prop} {own : List (Addr × Obj)} {s₁ s₂ : Shared} (h' : Heap) (tk : Tok) (m' : Str → Option Value) (news' nx : List (Addr × Obj)) (e : s₂ = { s₁ with heap := h', toks := tk })
    (F : Fr h₀ L h' m') (N : News h₀ L h' news') (a : ∀ p ∈ nx, p ∈ news') (b : ∀ p ∈ own, p ∈ news') (c : TbOff own nx) (j : J m' nx) : TbEnd h₀ L J own s₁ s₂ := ⟨h', tk, m', news', nx, e, F, N, a, b, c, j⟩
/-- the record stands, as long as these objects do -/
noncomputable def RecBy (tps : List (Addr × Obj)) (root wl rl : Addr) (rts : List Addr) (its : List It) : Prop := ∀ h, Holds h tps → Tree h root its ∧ Lst h rl (refs rts) ∧ RowsAt h rts its ∧ Lst h wl (refs [root])
/-- what _law_record leaves behind -/
structure Recd (w : World) (s₀ h' : Heap) (hand cells wl xd rl : Addr) (p0 : Int) (its : List It) (kvs : List (Str × Value)) (oX : Obj) (p sd : Int) (t1 t2 : Tok) (k3 : Nat) (root : Addr) (rts : List Addr) (us : List Up) (tps : List (Addr × Obj)) : Prop where
  stays : ∀ b o, b ≠ hand → b ≠ wl → b ≠ xd → s₀.get? b = some o → h'.get? b = some o
  hand_ : h'.get? hand = some (handObj cells p sd t1 t2 k3)
  p0_ : 0 ≤ p
  p1_ : p ≤ p0 + 7
  s0_ : 0 ≤ sd
  s1_ : sd < 4294967296
  xd_ : h'.get? xd = some oX
  ix : oX.IsDictOf (strKind PR w) kvs
  kl_ : kvs.length ≤ 3
  kx : ∀ q ∈ kvs, q.1 ∈ xNames
  holds : Holds h' tps
  fresh : ∀ q ∈ tps, (q.1 = wl ∨ s₀.get? q.1 = none) ∧ @Ne Nat q.1 hand ∧ @Ne Nat q.1 xd
  by_ : RecBy tps root wl rl rts its
  names : Names root 3 its us
  few : its.length ≤ 11
theorem back_two {b h h' : Heap} {L a c : Addr} {m : Str → Option Value} {o o' q q' : Obj} {rest : List (Addr × Obj)} (F : Fr b L h m) (N : News b L h ((a, o) :: (c, q) :: rest)) (k : ∀ d x, d ≠ a → d ≠ c → h.get? d = some x → h'.get? d = some x) (e1 : h'.get? a = some o') (e2 : h'.get? c = some q')
    (off : ∀ p ∈ rest, @Ne Nat p.1 a) (off' : ∀ p ∈ rest, @Ne Nat p.1 c) : Fr b L h' m ∧ News b L h' ((a, o') :: (c, q') :: rest) := by
  have n := N _ (.head _)
  have n' := N _ (mem1)
  obtain ⟨ob, es, ep, ho, r⟩ := F.ns
  refine ⟨⟨⟨ob, es, ep, k _ _ (Ne.symm n.2.1) (Ne.symm n'.2.1) ho, r⟩, fun d x z => k d x (fun e => by rw [e, n.2.2] at z; cases z) (fun e => by rw [e, n'.2.2] at z; cases z) (F.keep d x z), F.above⟩, ?_⟩
  intro p hp
  rcases List.mem_cons.mp hp with rfl | hp
  · exact ⟨e1, n.2⟩
  · rcases List.mem_cons.mp hp with rfl | hp
    · exact ⟨e2, n'.2⟩
    · exact ⟨k _ _ (off p hp) (off' p hp) (N p (memT2 hp)).1, (N p (memT2 hp)).2⟩
theorem digits3 {i : Nat} (h : i < 3) : Str.ofString (toString (i : Int)) = (Str.ofString "0") ∨ Str.ofString (toString (i : Int)) = (Str.ofString "1") ∨ Str.ofString (toString (i : Int)) = (Str.ofString "2") := by
  have := n3i h
  rcases this with rfl | rfl | rfl
  · exact .inl (by decide +kernel)
  · exact .inr (.inl (by decide +kernel))
  · exact .inr (.inr (by decide +kernel))
theorem gname {i : Nat} (h : i < 3) : ∀ x ∈ [(Str.ofString "FILLER"), (Str.ofString "R"), (Str.ofString "N"), (Str.ofString "Q")], (Str.ofString "G") ++ Str.ofString (toString (i : Int)) ≠ x := by
  rcases digits3 h with e | e | e <;> rw [e] <;> decide +kernel
theorem lname {i : Nat} (h : i < 3) : ∀ x ∈ [(Str.ofString "FILLER"), (Str.ofString "R"), (Str.ofString "N"), (Str.ofString "Q")], (Str.ofString "L") ++ Str.ofString (toString (i : Int)) ≠ x := by
  rcases digits3 h with e | e | e <;> rw [e] <;> decide +kernel
theorem xname {i : Nat} (h : i < 3) : (Str.ofString "X") ++ Str.ofString (toString (i : Int)) ∈ xNames := by
  rcases digits3 h with e | e | e <;> rw [e] <;> decide +kernel
theorem stored_mem {K : Type} [DecidableEq K] {kvs : List (K × Value)} {k : K} {v : Value} {P : K → Prop} (h : ∀ q ∈ kvs, P q.1) (hk : P k) : ∀ q ∈ PySem.stored kvs k v, P q.1 := by
  intro q hq
  unfold PySem.stored at hq
  split at hq
  · obtain ⟨p, hp, rfl⟩ := List.mem_map.mp hq
    by_cases e : p.1 = k
    · rw [if_pos e]; exact h p hp
    · rw [if_neg e]; exact h p hp
  · rcases List.mem_append.mp hq with hq | hq
    · exact h q hq
    · rw [List.mem_singleton.mp hq]; exact hk
theorem deep_up (us : List Up) (t : Tok) : some (Value.int ((deepOf us false : Nat) + 1) t) = some (Value.int (deepOf us true : Nat) t) := by
  have : deepOf us true = deepOf us false + 1 := rfl
  rw [this]; rfl
theorem GrowBy.next {tps tps' : List (Addr × Obj)} {root above kl ar ar' g dg klG sx sd : Addr} {ks : List Addr} {its : List It} {us : List Up} {rts rts' : List Addr} {esG ses : List DictEntry} {nG sn j ka : Nat} {nmG : Str} {occ : Value} {lv : List (Addr × Str)} {tab : Bool} {av : List Value} {ct : Tok}
    (G : GrowBy tps root above kl ar ks its us rts) (sub : ∀ q ∈ tps, q ∈ tps') (hz : us.length < 400) (hp : ∀ u ∈ us, u.nm ≠ (Str.ofString "FILLER")) (hpG : nmG ≠ (Str.ofString "FILLER")) (hc : (kl, listOf (refs (ks ++ [g])).toArray j) ∈ tps') (hg : (g, instObj 136 dg) ∈ tps') (hd : (dg, dictOf esG nG) ∈ tps') (EG : ItemEs esG nmG (.ref above) occ klG (.ref sx))
    (hs : (sx, instObj 331 sd) ∈ tps') (hsd : (sd, dictOf ses sn) ∈ tps') (hcat : getL (Str.ofString "category") ses = some (some (.str (Str.ofString "group") ct))) (ht : tab = (occ != .none)) (ho : occ = .none ∨ ∃ o, occ = .ref o)
    (hl : ∀ x ∈ lv, ∃ tpx, LeafBy tpx x.1 x.2 g ∧ ∀ q ∈ tpx, q ∈ tps') (ha : (ar', listOf av.toArray ka) ∈ tps') (has : StrsAre av (nmG :: us.map Up.nm)) (hr : ∀ h, Holds h tps' → RowsAt h rts' (⟨g, nmG, us, tab, (Str.ofString "group")⟩ :: lv.map (leafIt (⟨g, nmG, tab⟩ :: us)))) :
    GrowBy tps' root g klG ar' (lv.map (·.1)) (its ++ ⟨g, nmG, us, tab, (Str.ofString "group")⟩ :: lv.map (leafIt (⟨g, nmG, tab⟩ :: us))) (⟨g, nmG, tab⟩ :: us) (rts ++ rts') := by
  intro h hh
  exact Grow.next (G h fun q hq => hh q (sub q hq)) hz hp hpG ⟨_, hh _ hc⟩ ⟨hh _ hg, rfl, rfl, hh _ hd⟩ EG ⟨sx, _, ses, sn, ct, rfl, ⟨hh _ hs, rfl, rfl, hh _ hsd⟩, hcat⟩ ht ho
    (fun x hx => by obtain ⟨tpx, l, s⟩ := hl x hx; exact l h fun q hq => hh q (s q hq)) ⟨_, hh _ ha⟩ has (hr h hh)
theorem Names.next {root g : Addr} {i : Nat} {its : List It} {us : List Up} {nmG : Str} {tab : Bool} {lv : List (Addr × Str)} (N : Names root i its us) (hG : ∀ x ∈ [(Str.ofString "FILLER"), (Str.ofString "R"), (Str.ofString "N"), (Str.ofString "Q")], nmG ≠ x) (hl : ∀ y ∈ lv, ∀ x ∈ [(Str.ofString "FILLER"), (Str.ofString "R"), (Str.ofString "N"), (Str.ofString "Q")], y.2 ≠ x) (hz : lv.length ≤ 2) :
    Names root (i + 1) (its ++ ⟨g, nmG, us, tab, (Str.ofString "group")⟩ :: lv.map (leafIt (⟨g, nmG, tab⟩ :: us))) (⟨g, nmG, tab⟩ :: us) := by
  obtain ⟨⟨Nn, tl, rfl, ht⟩, hp, hi, hu⟩ := N
  refine ⟨⟨Nn, tl ++ ⟨g, nmG, us, tab, (Str.ofString "group")⟩ :: lv.map (leafIt (⟨g, nmG, tab⟩ :: us)), rfl, ?_⟩, allCons (hG _ (.head _)) hp, ?_, ?_⟩
  · intro it hit
    rcases List.mem_append.mp hit with hit | hit
    · exact ht it hit
    · rcases List.mem_cons.mp hit with rfl | hit
      · exact ⟨hG _ (mem1), hG _ (mem2), hG _ (mem3)⟩
      · obtain ⟨y, hy, rfl⟩ := List.mem_map.mp hit
        exact ⟨hl y hy _ (mem1), hl y hy _ (mem2), hl y hy _ (mem3)⟩
  · simp only [List.length_append, List.length_cons, List.length_map] at hi ⊢; (walk_at "M om")
  · simp only [List.length_cons]; (walk_at "M om")
theorem sname : ∀ x ∈ [(Str.ofString "FILLER"), (Str.ofString "R"), (Str.ofString "N"), (Str.ofString "Q")], (Str.ofString "S") ≠ x := by decide +kernel
theorem rowAt_of {h : Heap} {a la : Addr} {nm : Str} {t t2 : Tok} {d : Nat} {av : List Value} {ar : List Str} {k j : Nat} (h1 : h.get? a = some { cls := .type "tuple", data := .seq (List.toArray [.str nm t, .ref la, .int (d : Int) t2]) j }) (h2 : h.get? la = some (listOf av.toArray k)) (h3 : StrsAre av ar) : RowAt h a nm ar (d : Nat) :=
  ⟨t, la, t2, av, ⟨j, h1⟩, ⟨k, h2⟩, h3⟩
/-- a ≠ b, out of (walk_at "M om")'s sight -/
noncomputable def Apart (a b : Nat) : Prop := a ≠ b
theorem Apart.mk' {a b : Nat} (h : @Ne Nat a b) : Apart a b := h
theorem Apart.ne {a b : Nat} (h : Apart a b) : @Ne Nat a b := h
theorem Apart.en {a b : Nat} (h : Apart a b) : @Ne Nat b a := Ne.symm h
theorem notin1 {a b : Addr} (h : @Ne Nat a b) : a ∉ [b] := fun m => h (List.mem_singleton.mp m)
theorem notin2 {a b c : Addr} (h : @Ne Nat a b) (h' : @Ne Nat a c) : a ∉ [b, c] := fun m => (List.mem_cons.mp m).elim h fun m => h' (List.mem_singleton.mp m)
theorem deep_push (g : Addr) (nm : Str) (tab : Bool) (us : List Up) : deepOf (⟨g, nm, tab⟩ :: us) false = deepOf us tab := by
  cases tab <;> simp [deepOf]
noncomputable abbrev rowObj (nm : Str) (t : Tok) (la : Addr) (d : Nat) (t2 : Tok) : Obj := { cls := .type "tuple", data := .seq (List.toArray [.str nm t, .ref la, .int (d : Int) t2]) }
end T_R0
section T_G2
set_option maxHeartbeats 8000000
set_option maxRecDepth 100000
theorem num_end {g h' : Heap} {L hand : Addr} {m : Str → Option Value} {o : Obj} {tps : List (Addr × Obj)} (F : Fr (cut g [hand]) L h' m) (N : News (cut g [hand]) L h' (tps ++ [(hand, o)])) (off : ∀ p ∈ tps, p.1 ≠ hand) :
    (∀ b o, b ≠ hand → g.get? b = some o → h'.get? b = some o) ∧ h'.get? hand = some o ∧ Holds h' tps ∧ ∀ p ∈ tps, g.get? p.1 = none :=
  ⟨fun b x hb e => F.keep b x ((cut_of (by simpa using hb)).trans e), (N _ (List.mem_append_right _ (.head _))).1, fun p hp => (N p (List.mem_append_left _ hp)).1, fun p hp => by
    rw [← (N p (List.mem_append_left _ hp)).2.2]; exact (cut_of (by simpa using off p hp)).symm⟩
/-- the five ways of _law_number: the expression and the names of its faults -/
noncomputable def ways : List (Ex × List Str) := [(.num, []), (.ref (Str.ofString "N") [], []), (.ref (Str.ofString "R") [], [(Str.ofString "R")]), (.neg (.ref (Str.ofString "Q") []), [(Str.ofString "Q")]), (.plus (.ref (Str.ofString "N") [(Str.ofString "R")]) .text, [Str.ofString "a literal"])]
/-- what _law_number gives, as long as these objects stand -/
noncomputable def NumBy (tps : List (Addr × Obj)) (t : Addr) (v : Value) (f : Addr) (e : Ex) (names : List Str) : Prop := ∀ h, Holds h tps → Tpl h t [v, .ref f] ∧ ExAt h v e ∧ ∃ fv, Lst h f fv ∧ StrsAre fv names
theorem ref_plain {h : Heap} {a q sb : Addr} {nm : Str} {tn t0 : Tok} {us : List Str} {qv : List Value} (hn : nm.length ≤ 100) (hu : us.length < 1000) (h1 : Tpl h a [.str (Str.ofString "ref") t0, .str nm tn, .ref q, .ref sb, .none]) (h2 : Tpl h q qv) (h4 : StrsAre qv us) (h3 : Tpl h sb []) : ExAt h (.ref a) (.ref nm us) :=
  .ref ⟨⟨_, h1⟩, ⟨_, h2, h4⟩, h3, hu, hn, by decide⟩
theorem lenN : ((Str.ofString "N")).length ≤ 100 := by decide +kernel
theorem lenR : ((Str.ofString "R")).length ≤ 100 := by decide +kernel
theorem lenQ : ((Str.ofString "Q")).length ≤ 100 := by decide +kernel
local macro_rules | `(tactic| walk_at "exec If") => `(tactic| refine wpAny_If ?_)
section
variable {w : World} {A : Around} {base : Heap} {outer : List Env} {mean : ExcName → Option Value} {mg mb : Str → Option Value} {s : Shared} {n : Nat} {R : Result → Shared → Prop}
theorem number_law {hand cells : Addr} {cs : List Value} {ns : List Int} {p sd : Int} {t1 t2 : Tok} {k : Nat}
   (M : Amb w A base outer mean mg mb (cut s.heap [hand]) 10)
   (hh : s.heap.get? hand = some (handObj cells p sd t1 t2 k)) (hc : Lst s.heap cells cs) (hne : cells ≠ hand) (hi : IntsAre cs ns) (hcl : cs.length ≤ 50) (hp : 0 ≤ p) (hp2 : p < 100000) (hs : 0 ≤ sd) (hs2 : sd < 4294967296)
   (hR : ∀ h' tk t v f e names tps sd' t1' t2' k', (∀ b o, b ≠ hand → s.heap.get? b = some o → h'.get? b = some o) → h'.get? hand = some (handObj cells (p + 1) sd' t1' t2' k') → 0 ≤ sd' → sd' < 4294967296 → Holds h' tps → (∀ p ∈ tps, s.heap.get? p.1 = none) → NumBy tps t v f e names → (e, names) ∈ ways →
     R (.ok (.ret (.ref t))) { s with heap := h', toks := tk }) :
   codeAny (model PR w) A (.call (.ref 370) ⟨[.ref hand], []⟩) R s := by
  w_top off
  refine enter (rb := [((Str.ofString "hand"), .ref hand)]) (Amb.keeps M cut_sub) (by with_unfolding_all rfl) (by k_is) (BindsTo.of_eq rfl) (locs rfl) (by decide) ?_
  intro L h₁ tk hL F N
  with_reducible refine post_gen ?_
  intro Q₀ hQ₀
  have B := M.B
  have X := M.X
  have T := M.T
  have N₁ : News (cut s.heap [hand]) L h₁ [(hand, handObj cells p sd t1 t2 k)] := News.ofCut F (by simpa using hh)
  have F₁ := Fr.cut F [hand]
  have hcc : Lst (cut s.heap [hand]) cells cs := by obtain ⟨j, e⟩ := hc; exact ⟨j, (cut_of (by simpa using hne)).trans e⟩
  have ka : s.heap.StaysIn h₁ := F.keep
  clear F N
  (repeat' ((((fail_if_success (with_reducible show wpAny _ _ (exec (Stmt.While _ _ _ _) _) _ _ _)); (fail_if_success (with_reducible show wpAny _ _ (pyIter _) (fun it s₂ => LoopAtV _ _ _ _ _ _ _ _ _ it s₂) _ _)); (fail_if_success (with_reducible show wpAny _ _ (eval (Expr.ListComp _ _ _ _) _) _ _ _)); (fail_if_success (with_reducible show Exists _)))); first | (k_unfold; (try dsimp only)) | walk1 | (dsimp only; walk1) | fail "no step"))
  refine wpAny_callA (next_code (h₀ := cut s.heap [hand]) (Amb.down (Amb.inn M F₁) (by decide)) X T F₁.keep (cut_none (.head _)) (N₁ _ (.head _)).1 (hcc.keeps F₁.keep) hne hi hcl hp hp2 hs hs2 (by decide) (by decide) fun h₂ tk₂ r t₂ sd' t1' t2' k' k1 k2 k3 k4 k5 k6 => ?_)
  obtain ⟨F₂, N₂⟩ := back_one F₁ N₁ k1 k2 (by simp)
  clear F₁ N₁
  have hr := five k5 k6
  rcases hr with rfl | rfl | rfl | rfl | rfl
  · (repeat' ((((fail_if_success (with_reducible show wpAny _ _ (exec (Stmt.While _ _ _ _) _) _ _ _)); (fail_if_success (with_reducible show wpAny _ _ (pyIter _) (fun it s₂ => LoopAtV _ _ _ _ _ _ _ _ _ it s₂) _ _)); (fail_if_success (with_reducible show wpAny _ _ (eval (Expr.ListComp _ _ _ _) _) _ _ _)); (fail_if_success (with_reducible show Exists _)))); first | (k_unfold; (try dsimp only)) | walk1 | (dsimp only; walk1) | fail "no step"))
    rename Fr _ _ _ _ => F₃
    rename News _ _ _ _ => N₃
    obtain ⟨a1, a2, a3, a4⟩ := num_end (tps := [_, _, _, _]) F₃ N₃ (by k_all)
    refine hQ₀ _ _ ?_
    exact hR _ _ _ _ _ _ _ _ _ _ _ _ (fun b o hb e => a1 b o hb e) a2 k3 k4 a3 a4 (fun h hh => ⟨⟨_, hh _ (.head _)⟩, .num ⟨_, hh _ (mem2)⟩, _, ⟨_, hh _ (mem1)⟩, .nil⟩) (.head _)
  · (repeat' ((((fail_if_success (with_reducible show wpAny _ _ (exec (Stmt.While _ _ _ _) _) _ _ _)); (fail_if_success (with_reducible show wpAny _ _ (pyIter _) (fun it s₂ => LoopAtV _ _ _ _ _ _ _ _ _ it s₂) _ _)); (fail_if_success (with_reducible show wpAny _ _ (eval (Expr.ListComp _ _ _ _) _) _ _ _)); (fail_if_success (with_reducible show Exists _)))); first | (k_unfold; (try dsimp only)) | walk1 | (dsimp only; walk1) | fail "no step"))
    rename Fr _ _ _ _ => F₃
    rename News _ _ _ _ => N₃
    obtain ⟨a1, a2, a3, a4⟩ := num_end (tps := [_, _, _, _, _]) F₃ N₃ (by k_all)
    refine hQ₀ _ _ ?_
    refine hR _ _ _ _ _ (.ref (Str.ofString "N") []) [] _ _ _ _ _ (fun b o hb e => a1 b o hb e) a2 k3 k4 a3 a4 (fun h hh => ⟨⟨_, hh _ (.head _)⟩, ?_, _, ⟨_, hh _ (mem1)⟩, .nil⟩) (mem1)
    exact ref_plain lenN (Nat.succ_pos _) ⟨_, hh _ (mem2)⟩ ⟨_, hh _ (mem4)⟩ .nil ⟨_, hh _ (mem3)⟩
  · (repeat' ((((fail_if_success (with_reducible show wpAny _ _ (exec (Stmt.While _ _ _ _) _) _ _ _)); (fail_if_success (with_reducible show wpAny _ _ (pyIter _) (fun it s₂ => LoopAtV _ _ _ _ _ _ _ _ _ it s₂) _ _)); (fail_if_success (with_reducible show wpAny _ _ (eval (Expr.ListComp _ _ _ _) _) _ _ _)); (fail_if_success (with_reducible show Exists _)))); first | (k_unfold; (try dsimp only)) | walk1 | (dsimp only; walk1) | fail "no step"))
    rename Fr _ _ _ _ => F₃
    rename News _ _ _ _ => N₃
    obtain ⟨a1, a2, a3, a4⟩ := num_end (tps := [_, _, _, _, _]) F₃ N₃ (by k_all)
    refine hQ₀ _ _ ?_
    refine hR _ _ _ _ _ (.ref (Str.ofString "R") []) [(Str.ofString "R")] _ _ _ _ _ (fun b o hb e => a1 b o hb e) a2 k3 k4 a3 a4 (fun h hh => ⟨⟨_, hh _ (.head _)⟩, ?_, _, ⟨_, hh _ (mem1)⟩, .cons _ _ .nil⟩) (mem2)
    exact ref_plain lenR (Nat.succ_pos _) ⟨_, hh _ (mem2)⟩ ⟨_, hh _ (mem4)⟩ .nil ⟨_, hh _ (mem3)⟩
  · (repeat' ((((fail_if_success (with_reducible show wpAny _ _ (exec (Stmt.While _ _ _ _) _) _ _ _)); (fail_if_success (with_reducible show wpAny _ _ (pyIter _) (fun it s₂ => LoopAtV _ _ _ _ _ _ _ _ _ it s₂) _ _)); (fail_if_success (with_reducible show wpAny _ _ (eval (Expr.ListComp _ _ _ _) _) _ _ _)); (fail_if_success (with_reducible show Exists _)))); first | (k_unfold; (try dsimp only)) | walk1 | (dsimp only; walk1) | fail "no step"))
    rename Fr _ _ _ _ => F₃
    rename News _ _ _ _ => N₃
    obtain ⟨a1, a2, a3, a4⟩ := num_end (tps := [_, _, _, _, _, _]) F₃ N₃ (by k_all)
    refine hQ₀ _ _ ?_
    refine hR _ _ _ _ _ (.neg (.ref (Str.ofString "Q") [])) [(Str.ofString "Q")] _ _ _ _ _ (fun b o hb e => a1 b o hb e) a2 k3 k4 a3 a4 (fun h hh => ⟨⟨_, hh _ (.head _)⟩, .neg ⟨_, hh _ (mem2)⟩ ?_, _, ⟨_, hh _ (mem1)⟩, .cons _ _ .nil⟩) (mem3)
    exact ref_plain lenQ (Nat.succ_pos _) ⟨_, hh _ (mem3)⟩ ⟨_, hh _ (mem5)⟩ .nil ⟨_, hh _ (mem4)⟩
  · (repeat' ((((fail_if_success (with_reducible show wpAny _ _ (exec (Stmt.While _ _ _ _) _) _ _ _)); (fail_if_success (with_reducible show wpAny _ _ (pyIter _) (fun it s₂ => LoopAtV _ _ _ _ _ _ _ _ _ it s₂) _ _)); (fail_if_success (with_reducible show wpAny _ _ (eval (Expr.ListComp _ _ _ _) _) _ _ _)); (fail_if_success (with_reducible show Exists _)))); first | (k_unfold; (try dsimp only)) | walk1 | (dsimp only; walk1) | fail "no step"))
    rename Fr _ _ _ _ => F₃
    rename News _ _ _ _ => N₃
    obtain ⟨a1, a2, a3, a4⟩ := num_end (tps := [_, _, _, _, _, _, _]) F₃ N₃ (by k_all)
    refine hQ₀ _ _ ?_
    refine hR _ _ _ _ _ (.plus (.ref (Str.ofString "N") [(Str.ofString "R")]) .text) [Str.ofString "a literal"] _ _ _ _ _ (fun b o hb e => a1 b o hb e) a2 k3 k4 a3 a4 (fun h hh => ⟨⟨_, hh _ (.head _)⟩, .plus ⟨_, hh _ (mem2)⟩ ?_ (.text ⟨_, hh _ (mem3)⟩), _, ⟨_, hh _ (mem1)⟩, .cons _ _ .nil⟩) (mem4)
    exact ref_plain lenN (Nat.lt_of_sub_pos (Nat.succ_pos _)) ⟨_, hh _ (mem4)⟩ ⟨_, hh _ (mem6)⟩ (.cons _ _ .nil) ⟨_, hh _ (mem5)⟩
end
end T_G2
section T_R1
set_option maxHeartbeats 8000000
set_option maxRecDepth 100000
theorem off_new {b h : Heap} {L a : Addr} {news : List (Addr × Obj)} (N : News b L h news) (n : h.get? a = none) : ∀ q ∈ news, @Ne Nat q.1 a := fun q hq e => by
  have h1 := (N q hq).1
  have e' : q.1 = a := e
  rw [e', n] at h1; cases h1
theorem obj_ne {h : Heap} {a c : Addr} {o o' : Obj} (h1 : h.get? a = some o) (h2 : h.get? c = some o') (hn : o.cls ≠ o'.cls) : @Ne Nat a c := fun e => by
  have e' : a = c := e
  rw [e', h2] at h1; exact hn (congrArg Obj.cls (Option.some.inj h1)).symm
theorem NewItem.sep {s₀ h' : Heap} {title : Str} {x dx cl kl : Addr} {es : List DictEntry} {n : Nat} (NI : NewItem s₀ h' title x dx cl kl es n) : @Ne Nat x dx ∧ @Ne Nat cl dx ∧ @Ne Nat kl dx ∧ @Ne Nat x cl ∧ @Ne Nat x kl ∧ @Ne Nat cl kl :=
  ⟨obj_ne NI.x_ NI.dx_ (fun e => by cases e), obj_ne NI.cl_ NI.dx_ (fun e => absurd (Value.type.inj e) (by decide)), obj_ne NI.kl_ NI.dx_ (fun e => absurd (Value.type.inj e) (by decide)), obj_ne NI.x_ NI.cl_ (fun e => by cases e), obj_ne NI.x_ NI.kl_ (fun e => by cases e), NI.ck⟩
theorem NewShape.sep {s₀ h' : Heap} {cat : Str} {x dx : Addr} {es : List DictEntry} {n : Nat} (NI : NewShape s₀ h' cat x dx es n) : @Ne Nat x dx := obj_ne NI.x_ NI.dx_ (fun e => by cases e)
theorem NewItem.news {b s₀ h' : Heap} {L : Addr} {m : Str → Option Value} {news : List (Addr × Obj)} {title : Str} {x dx cl kl : Addr} {es : List DictEntry} {n : Nat} (NI : NewItem s₀ h' title x dx cl kl es n) (F : Fr b L s₀ m) (N : News b L s₀ news) :
    Fr b L h' m ∧ News b L h' ((x, instObj 136 dx) :: (dx, dictOf es n) :: (cl, listOf (List.toArray []) 0) :: (kl, listOf (List.toArray []) 0) :: news) :=
  ⟨Fr.keeps F NI.stays, News.app (news_new F NI.x_ NI.nx) (News.app (news_new F NI.dx_ NI.nd) (News.app (news_new F NI.cl_ NI.nc) (News.app (news_new F NI.kl_ NI.nk) (News.grown N NI.stays))))⟩
theorem NewShape.news {b s₀ h' : Heap} {L : Addr} {m : Str → Option Value} {news : List (Addr × Obj)} {cat : Str} {x dx : Addr} {es : List DictEntry} {n : Nat} (NS : NewShape s₀ h' cat x dx es n) (F : Fr b L s₀ m) (N : News b L s₀ news) :
    Fr b L h' m ∧ News b L h' ((x, instObj 331 dx) :: (dx, dictOf es n) :: news) :=
  ⟨Fr.keeps F NS.stays, News.app (news_new F NS.x_ NS.nx) (News.app (news_new F NS.dx_ NS.nd) (News.grown N NS.stays))⟩
inductive GroupJ (w : World) (s : Shared) (b : Heap) (L hand cells data dg sxG sdG g klG kl rl xd above ar : Addr) (sesG : List DictEntry) (snG : Nat) (ks rts : List Addr) (us : List Up) (j1 j2 i : Nat) (p : Int) (tlv : Tok) (tl : List (Addr × Obj)) (s' : Shared) : Prop
  | mk (h' : Heap) (tk' : Tok) (p2 sd2 : Int) (w1 w2 : Tok) (j4 : Nat) (esg3 : List DictEntry) (ng3 : Nat) (oX2 : Obj) (kvs2 : List (Str × Value)) (occ : Value) (tab : Bool) (td2 : Tok) (m2 : Str → Option Value) (e : s' = { s with heap := h', toks := tk' }) (F : Fr b L h' m2)
    (N : News b L h' ((hand, handObj cells p2 sd2 w1 w2 j4) :: (dg, dictOf esg3 ng3) :: (sxG, instObj 331 sdG) :: (sdG, dictOf sesG snG) :: (g, instObj 136 dg) :: (klG, listOf (List.toArray []) 0) :: (kl, listOf (refs ks).toArray j1) :: (rl, listOf (refs rts).toArray j2) :: (xd, oX2) :: tl))
    (q1 : 0 ≤ p2) (q2 : p2 ≤ p + 1) (q3 : 0 ≤ sd2) (q4 : sd2 < 4294967296) (q5 : ItemEs esg3 ((Str.ofString "G") ++ Str.ofString (toString (i : Int))) .none occ klG (.ref sxG)) (q6 : occ = .none ∨ ∃ o, occ = .ref o) (q7 : tab = (occ != .none)) (q8 : oX2.IsDictOf (strKind PR w) kvs2) (q9 : kvs2.length ≤ i + 1) (qa : ∀ q ∈ kvs2, q.1 ∈ xNames)
    (m1 : m2 (Str.ofString "hand") = some (.ref hand)) (m2_ : m2 (Str.ofString "data") = some (.ref data)) (m3 : m2 (Str.ofString "rows") = some (.ref rl)) (m4 : m2 (Str.ofString "above") = some (.ref above)) (m5 : m2 (Str.ofString "around") = some (.ref ar)) (m6 : m2 (Str.ofString "deep") = some (.int (deepOf us tab : Nat) td2)) (m7 : m2 (Str.ofString "level") = some (.int (i : Int) tlv)) (m8 : m2 (Str.ofString "group") = some (.ref g)) : GroupJ w s b L hand cells data dg sxG sdG g klG kl rl xd above ar sesG snG ks rts us j1 j2 i p tlv tl s'
local macro_rules | `(tactic| walk_at "M subs") => `(tactic| first | exact List.forall_mem_nil _ | (refine' allCons ?_ ?_; k_mem; walk_at "M subs") | walk_at "M sub")
local macro_rules | `(tactic| walk_at "call type:range") => `(tactic| ((rename Fr _ _ _ _ => F'); (rename News _ _ _ _ => N'); refine range1_rows F' N' ?_; intro _ _ _ _ _ _ _ _ _; (try k_sweep)))
local macro_rules | `(tactic| walk_at "call type:str cons") => `(tactic| refine P.str_of_int (log3 (by assumption)) ?_)
local macro_rules | `(tactic| walk_at "exec If") => `(tactic| refine wpAny_If ?_)
local macro_rules | `(tactic| walk_at "call builtin:list.append") => `(tactic| (k_here; k_dflt (apply append_K; k_asm; k_asm; k_upd; rotate_left; (simp only [List.size_toArray, refs_length, List.length_append, List.length_cons, List.length_nil]; rw [sizeLine_eq]; (walk_at "M om")); k_whole); intro h' F' N'; (try k_sweep)))
local macro_rules | `(tactic| k_ne) => `(tactic| (refine neN ?_; (try dsimp only); first | with_reducible assumption | exact Ne.symm (by with_reducible assumption) | exact Apart.ne (by with_reducible assumption) | exact Apart.en (by with_reducible assumption) | exact Nat.ne_of_lt (by with_reducible assumption) | exact Nat.ne_of_gt (by with_reducible assumption) | walk_at "M cj" | ((repeat ((with_reducible rename @Ne _ _ _ => kNz); clear kNz)); omega)))
section
variable {w : World} {A : Around} {base : Heap} {outer : List Env} {mean : ExcName → Option Value} {mg mb : Str → Option Value} {s : Shared} {n : Nat} {R : Result → Shared → Prop}
theorem record_code {hand cells data dd fd wl ll xd : Addr} {cs : List Value} {ns : List Int} {p sd0 : Int} {t1 t2 : Tok} {k kw nd : Nat} {oD oX : Obj} {esD : List DictEntry}
   (hA : A.handled = none) (M : Amb w A base outer mean mg mb (cut s.heap [hand, wl, xd]) 20)
   (ID : InstAt (cut s.heap [hand, wl, xd]) data oD 162 (some (dictOf esD nd))) (ED : DataEs esD fd wl ll xd) (hwl : s.heap.get? wl = some (listOf (List.toArray []) kw)) (hxd : s.heap.get? xd = some oX) (hX : oX.IsDictOf (strKind PR w) []) (lx : (xd == sysModules) = false)
   (hh : s.heap.get? hand = some (handObj cells p sd0 t1 t2 k)) (hc : Lst (cut s.heap [hand, wl, xd]) cells cs) (hi : IntsAre cs ns) (hcl : cs.length ≤ 50) (hp : 0 ≤ p) (hp2 : p < 50000) (hs : 0 ≤ sd0) (hs2 : sd0 < 4294967296)
   (hwx : wl ≠ xd) (hhw : hand ≠ wl) (hhx : hand ≠ xd)
   (hR : ∀ h' tk rl its kvs oX' p' sd' t1' t2' k3 root rts us tps, Recd w s.heap h' hand cells wl xd rl p its kvs oX' p' sd' t1' t2' k3 root rts us tps → R (.ok (.ret (.ref rl))) { s with heap := h', toks := tk }) :
   codeAny (model PR w) A (.call (.ref 356) ⟨[.ref hand, .ref data], []⟩) R s := by
  w_top off
  refine enter (rb := [((Str.ofString "data"), .ref data), ((Str.ofString "hand"), .ref hand)]) (Amb.keeps M cut_sub) (by with_unfolding_all rfl) (by k_is) (BindsTo.of_eq rfl) (locs rfl) (by decide) ?_
  intro L h₁ tk hL F N
  with_reducible refine post_gen ?_
  intro Q₀ hQ₀
  have B := M.B
  have X := M.X
  have T := M.T
  have N₁ : News (cut s.heap [hand, wl, xd]) L h₁ [(wl, listOf (List.toArray []) kw), (xd, oX), (hand, handObj cells p sd0 t1 t2 k)] := News.ofCut F (by
    intro q hq
    simp only [List.mem_cons, List.not_mem_nil, or_false] at hq
    rcases hq with rfl | rfl | rfl
    · exact ⟨hwl, by simp⟩
    · exact ⟨hxd, by simp⟩
    · exact ⟨hh, by simp⟩)
  have F₁ := Fr.cut F [hand, wl, xd]
  clear F N
  (repeat' ((fail_if_success (with_reducible show wpAny _ _ (call (Value.ref _) _ _) _ _ _)); (((fail_if_success (with_reducible show wpAny _ _ (exec (Stmt.While _ _ _ _) _) _ _ _)); (fail_if_success (with_reducible show wpAny _ _ (pyIter _) (fun it s₂ => LoopAtV _ _ _ _ _ _ _ _ _ it s₂) _ _)); (fail_if_success (with_reducible show wpAny _ _ (eval (Expr.ListComp _ _ _ _) _) _ _ _)); (fail_if_success (with_reducible show Exists _)))); first | (k_unfold; (try dsimp only)) | walk1 | (dsimp only; walk1) | fail "no step"))
  refine make_item (Amb.down (Amb.inn M F₁) (by decide)) fun h₂ tk₂ x dx cl kl es n NI => ?_
  have o1 := off_new N₁ NI.nx
  have o2 := off_new N₁ NI.nd
  have o3 := off_new N₁ NI.nc
  have o4 := off_new N₁ NI.nk
  have o11 := ne0 o1
  have o12 := ne1 o1
  have o13 := ne2 o1
  clear o1
  have o21 := ne0 o2
  have o22 := ne1 o2
  have o23 := ne2 o2
  clear o2
  have o31 := ne0 o3
  have o32 := ne1 o3
  have o33 := ne2 o3
  clear o3
  have o41 := ne0 o4
  have o42 := ne1 o4
  have o43 := ne2 o4
  clear o4
  obtain ⟨s1, s2, s3, s4, s5, s6⟩ := NI.sep
  obtain ⟨F₂, N₂⟩ := NI.news F₁ N₁
  have ES := NI.es_
  clear NI F₁ N₁
  (repeat' ((fail_if_success (with_reducible show wpAny _ _ (call (Value.ref _) _ _) _ _ _)); (((fail_if_success (with_reducible show wpAny _ _ (exec (Stmt.While _ _ _ _) _) _ _ _)); (fail_if_success (with_reducible show wpAny _ _ (pyIter _) (fun it s₂ => LoopAtV _ _ _ _ _ _ _ _ _ it s₂) _ _)); (fail_if_success (with_reducible show wpAny _ _ (eval (Expr.ListComp _ _ _ _) _) _ _ _)); (fail_if_success (with_reducible show Exists _)))); first | (k_unfold; (try dsimp only)) | walk1 | (dsimp only; walk1) | fail "no step"))
  rename Fr _ _ _ _ => F₃
  rename News _ _ _ _ => N₃
  refine make_shape (Amb.down (Amb.inn M F₃) (by decide)) fun h₄ tk₄ sx sd ses sn NS => ?_
  have p1 := off_new N₃ NS.nx
  have p2 := off_new N₃ NS.nd
  have p11 := ne0 p1
  have p12 := ne1 p1
  have p13 := ne2 p1
  have p14 := ne3 p1
  have p15 := ne4 p1
  have p16 := ne5 p1
  have p17 := ne6 p1
  clear p1
  have p21 := ne0 p2
  have p22 := ne1 p2
  have p23 := ne2 p2
  have p24 := ne3 p2
  have p25 := ne4 p2
  have p26 := ne5 p2
  have p27 := ne6 p2
  clear p2
  have s7 := NS.sep
  obtain ⟨F₄, N₄⟩ := NS.news F₃ N₃
  obtain ⟨ct, hcat⟩ := NS.es_
  clear F₃ N₃ NS
  (repeat' ((fail_if_success (with_reducible show wpAny _ _ (call (Value.ref _) _ _) _ _ _)); (((fail_if_success (with_reducible show wpAny _ _ (exec (Stmt.While _ _ _ _) _) _ _ _)); (fail_if_success (with_reducible show wpAny _ _ (pyIter _) (fun it s₂ => LoopAtV _ _ _ _ _ _ _ _ _ it s₂) _ _)); (fail_if_success (with_reducible show wpAny _ _ (eval (Expr.ListComp _ _ _ _) _) _ _ _)); (fail_if_success (with_reducible show Exists _)))); first | (k_unfold; (try dsimp only)) | walk1 | (dsimp only; walk1) | fail "no step"))
  have IX : InstAt h₄ x (instObj 136 dx) 136 (some (dictOf es n)) := ⟨(N₄ _ (mem2)).1, rfl, rfl, (N₄ _ (mem3)).1⟩
  refine' set_dict F₄ X N₄ IX rfl ?k6 ?k7 ?k8 ?k9 ?k10 rfl ?k12 ?k13 ?_
  case k6 => k_is
  case k7 => k_is
  case k8 => k_is
  case k9 => k_is
  case k10 => rw [ES.shape]; rfl
  case k12 => k_upd
  case k13 => rw [putL_len ⟨_, ES.shape⟩]; exact l19 ES.len
  intro h₅ F₅ N₅
  obtain ⟨esR, nR, ES', hE⟩ : ∃ esR nR, ItemEs esR (Str.ofString "R") .none .none kl (.ref sx) ∧ h₅.get? dx = some (dictOf esR nR) := ⟨_, _, ES.setShape, (N₅ _ (mem3)).1⟩
  replace N₅ : News (cut s.heap [hand, wl, xd]) L h₅ [(dx, dictOf esR nR), (sx, instObj 331 sd), (sd, dictOf ses sn), (x, instObj 136 dx), (cl, listOf (List.toArray []) 0), (kl, listOf (List.toArray []) 0), (wl, listOf (List.toArray []) kw), (xd, oX), (hand, handObj cells p sd0 t1 t2 k)] :=
    News.app (News.put N₅ (mem3) hE) (news_sub N₅ (by walk_at "M subs"))
  clear F₄ N₄ IX hE ES
  have D1 := ED.working
  (repeat' ((fail_if_success (with_reducible show wpAny _ _ (call (Value.ref _) _ _) _ _ _)); (((fail_if_success (with_reducible show wpAny _ _ (exec (Stmt.While _ _ _ _) _) _ _ _)); (fail_if_success (with_reducible show wpAny _ _ (pyIter _) (fun it s₂ => LoopAtV _ _ _ _ _ _ _ _ _ it s₂) _ _)); (fail_if_success (with_reducible show wpAny _ _ (eval (Expr.ListComp _ _ _ _) _) _ _ _)); (fail_if_success (with_reducible show Exists _)))); first | (k_unfold; (try dsimp only)) | walk1 | (dsimp only; walk1) | fail "no step"))
  rename Fr _ _ _ _ => F₆
  rename News _ _ _ _ => N₆
  have nkl := N₆ _ (mem5)
  have Fc : Fr (cut s.heap [hand, wl, xd]) L (cut _ [kl]) _ := cut_frame F₆ N₆ (S := [kl]) (by intro a ha; rw [List.mem_singleton.mp ha]; exact ⟨_, mem5⟩)
  refine wpAny_callA (leaf_code (ks := []) (Amb.down (Amb.inn M Fc) (by decide)) (instAt_cut (N₆ _ (mem3)).1 (N₆ _ (.head _)).1 (by simpa using s5) (by simpa using Ne.symm s3)) ES' nkl.1 (by decide) fun h₇ tk₇ xN tpN k1 k2 k3 k4 k5 => ?_)
  clear Fc nkl
  obtain ⟨F₇, N₇, O₇⟩ := leaf_back (kl := kl) (rest := [(xd, _), (hand, _), (dx, _), (sx, _), (sd, _), (x, _), (cl, _), (wl, _)]) F₆ (news_sub N₆ (by walk_at "M subs")) k1 k2 (by k_all) k3 k4
  clear F₆ N₆ k1 k2
  have O1 := nn0 O₇
  have O2 := nn1 O₇
  have O3 := nn2 O₇
  clear O₇
  dsimp only [List.cons_append, List.nil_append] at N₇
  (repeat' ((fail_if_success (with_reducible show wpAny _ _ (call (Value.ref _) _ _) _ _ _)); (((fail_if_success (with_reducible show wpAny _ _ (exec (Stmt.While _ _ _ _) _) _ _ _)); (fail_if_success (with_reducible show wpAny _ _ (pyIter _) (fun it s₂ => LoopAtV _ _ _ _ _ _ _ _ _ it s₂) _ _)); (fail_if_success (with_reducible show wpAny _ _ (eval (Expr.ListComp _ _ _ _) _) _ _ _)); (fail_if_success (with_reducible show Exists _)))); first | (k_unfold; (try dsimp only)) | walk1 | (dsimp only; walk1) | fail "no step"))
  rename_i a3 _ _ d2 _ _ a2 _ _ d1 _ _ rl _ lrl _ _ ar _ _ dt _ _ _ _ _ _ F₈ N₈
  have hcH : cells ≠ hand := fun e => by
    obtain ⟨j, q⟩ := hc
    rw [e, cut_none (.head _)] at q; cases q
  have q3 := allLt_off lrl.2.2.2.2.2.2.2.2.2.2.2.2.2
  have N₉ := news_sub N₈ (l' := (hand, _) :: (kl, _) :: (rl, _) :: (xd, _) :: (ar, _) :: (d1, _) :: (a2, _) :: (d2, _) :: (a3, _) :: (dx, _) :: (sx, _) :: (sd, _) :: (x, _) :: (wl, _) :: tpN) (by walk_at "M subs")
  refine wpAny_callA (next_code (h₀ := cut s.heap [hand, wl, xd]) (Amb.down (Amb.inn M F₈) (by decide)) X T F₈.keep (cut_none (.head _)) (N₉ _ (.head _)).1 (hc.keeps F₈.keep) hcH hi hcl hp (Int.lt_trans hp2 (by decide)) hs hs2 (by decide) (by decide) fun h₉ tk₉ r t₉ sd' t1' t2' k' k1 k2 k3' k4' k5' k6' => ?_)
  obtain ⟨F₉, N₉⟩ := back_one F₈ N₉ k1 k2 (by k_all)
  clear F₈ N₈ k1 k2
  (repeat' ((fail_if_success (with_reducible show wpAny _ _ (call (Value.ref _) _ _) _ _ _)); (((fail_if_success (with_reducible show wpAny _ _ (exec (Stmt.While _ _ _ _) _) _ _ _)); (fail_if_success (with_reducible show wpAny _ _ (pyIter _) (fun it s₂ => LoopAtV _ _ _ _ _ _ _ _ _ it s₂) _ _)); (fail_if_success (with_reducible show wpAny _ _ (eval (Expr.ListComp _ _ _ _) _) _ _ _)); (fail_if_success (with_reducible show Exists _)))); first | (k_unfold; (try dsimp only)) | walk1 | (dsimp only; walk1) | fail "no step"))
  rename Fr _ _ _ _ => F₁₀
  rename News _ _ _ _ => N₁₀
  rename IsRange _ _ _ _ _ _ _ _ => hRg
  have hr3 := tri k5' k6'
  refine tbr_invG (n := (1 + r).toNat) (fun i m nx => RecJ w x data hand cells xd wl (p + 1) i m nx)
    hA hRg (by rcases hr3 with rfl | rfl | rfl <;> decide) (by rcases hr3 with rfl | rfl | rfl <;> decide) F₁₀ N₁₀ ?_ ?_ ?_
  · refine ⟨x, kl, ar, rl, [xN], [d2, d1], _, [⟨x, (Str.ofString "R"), false⟩], _, _, _, p + 1, sd', _, _, _, oX, [], _, ⟨rfl, rfl, rfl, rfl, rfl, rfl, rfl, ?_, ⟨⟨xN, [], rfl, (fun _ hq => nomatch hq)⟩, ?_, Nat.le_refl _, Nat.le_refl _⟩, hX, Nat.le_refl _, (fun _ hq => nomatch hq), nw1 hp, r0z, k3', k4', ?_, ?_, ?_, ?_, ?_, ?_, ?_, ?_, ?_, Nat.le_succ _, rfl, ?_, ?_⟩⟩
    · intro h hh
      refine Grow.start (kl := kl) (shp := .ref sx) (av := _) ⟨hh (x, _) (by k_mem), rfl, rfl, hh (dx, _) (by k_mem)⟩ ES' ⟨sx, instObj 331 sd, ses, sn, ct, rfl, ⟨hh (sx, _) (by k_mem), rfl, rfl, hh (sd, _) (by k_mem)⟩, hcat⟩ (k5 h fun q hq => hh q (by revert q hq; walk_at "M sub")) ⟨0, hh (ar, _) (by k_mem)⟩ (.cons _ _ .nil)
        ⟨_, a3, _, [], ⟨_, hh (d2, _) (by k_mem)⟩, ⟨0, hh (a3, _) (by k_mem)⟩, .nil⟩ ⟨_, a2, _, _, ⟨_, hh (d1, _) (by k_mem)⟩, ⟨0, hh (a2, _) (by k_mem)⟩, .cons _ _ .nil⟩
    · intro u hu; rw [List.mem_singleton.mp hu]; show (Str.ofString "R") ≠ (Str.ofString "FILLER"); decide
    · k_all
    · k_all
    · k_all
    · k_all
    · k_ne
    · k_ne
    · k_ne
    · k_ne
    · k_ne
    · exact ⟨kw + 1, by k_mem⟩
    · exact ⟨_, 0, List.Mem.head _, .cons _ _ .nil⟩
  · rintro i lv tlv m₁ nx h tk own hk hoff ⟨above, kl', ar', rl', ks, rts, its, us, j1, j2, j3, p', sd1, u1, u2, td, oX', kvs, tps, hS⟩ F N
    with_reducible refine post_gen ?_
    intro QT hQT
    obtain rfl := hS.eq
    have hi3 : i < 3 ∧ lv = (i : Int) := by
      have := List.getElem?_eq_some_iff.mp hk
      obtain ⟨hlt, he⟩ := this
      simp [rangeKs] at hlt he
      exact rlv k6' hlt he
    obtain ⟨hi3, rfl⟩ := hi3
    replace F := Fr.upd [((Str.ofString "hand"), _), ((Str.ofString "data"), _), ((Str.ofString "rows"), _), ((Str.ofString "above"), _), ((Str.ofString "around"), _), ((Str.ofString "deep"), _)] F (allCons hS.m1 (allCons hS.m2 (allCons hS.m3 (allCons hS.m4 (allCons hS.m5 (allCons hS.m6 (List.forall_mem_nil _)))))))
    clear F₁₀ N₁₀
    dsimp only [List.cons_append] at N
    have T1 : ∀ q ∈ tps ++ own, @Ne Nat q.1 hand := fun q hq => (List.mem_append.mp hq).elim (hS.of1 q) fun hq => hoff q hq _ (.head _)
    have T2 : ∀ q ∈ tps ++ own, @Ne Nat q.1 kl' := fun q hq => (List.mem_append.mp hq).elim (hS.of2 q) fun hq => hoff q hq _ (mem1)
    have T3 : ∀ q ∈ tps ++ own, @Ne Nat q.1 rl' := fun q hq => (List.mem_append.mp hq).elim (hS.of3 q) fun hq => hoff q hq _ (mem2)
    have T4 : ∀ q ∈ tps ++ own, @Ne Nat q.1 xd := fun q hq => (List.mem_append.mp hq).elim (hS.of4 q) fun hq => hoff q hq _ (mem3)
    have subT : ∀ q ∈ tps, q ∈ tps ++ own := fun q hq => List.mem_append_left _ hq
    have subO : ∀ q ∈ own, q ∈ tps ++ own := fun q hq => List.mem_append_right _ hq
    have e1 := hS.d1
    have e2 := hS.d2
    have e3 := hS.d3
    have e4 := hS.d4
    have e5 := hS.d5
    generalize htl : tps ++ own = tl at N T1 T2 T3 T4 subT subO
    have DX := ED.indexes
    ((repeat ((with_reducible rename @Ne _ _ _ => kNz); (have kNa := Apart.mk' kNz); clear kNz)))
    (repeat' ((fail_if_success (with_reducible show wpAny _ _ (call (Value.ref _) _ _) _ _ _)); (fail_if_success (with_reducible show wpAny _ _ (execs (Stmt.If _ _ _ _ :: _) _) _ _ _)); (((fail_if_success (with_reducible show wpAny _ _ (exec (Stmt.While _ _ _ _) _) _ _ _)); (fail_if_success (with_reducible show wpAny _ _ (pyIter _) (fun it s₂ => LoopAtV _ _ _ _ _ _ _ _ _ it s₂) _ _)); (fail_if_success (with_reducible show wpAny _ _ (eval (Expr.ListComp _ _ _ _) _) _ _ _)); (fail_if_success (with_reducible show Exists _)))); first | (k_unfold; (try dsimp only)) | walk1 | (dsimp only; walk1) | fail "no step"))
    refine make_item (Amb.down (Amb.inn M F) (by decide)) fun hg1 tg1 g dg clg klG esg ng NI => ?_
    have g1 := off_new N NI.nx
    have g2 := off_new N NI.nd
    have g3 := off_new N NI.nk
    have g11 := ne0 g1
    have g12 := ne1 g1
    have g13 := ne2 g1
    have g14 := ne3 g1
    have g15 := neT4 g1
    clear g1
    have g21 := ne0 g2
    have g22 := ne1 g2
    have g23 := ne2 g2
    have g24 := ne3 g2
    have g25 := neT4 g2
    clear g2
    have g31 := ne0 g3
    have g32 := ne1 g3
    have g33 := ne2 g3
    have g34 := ne3 g3
    have g35 := neT4 g3
    clear g3
    obtain ⟨y1, -, y3, -, y5, -⟩ := NI.sep
    obtain ⟨Fg, Ng⟩ := NI.news F N
    have ESg := NI.es_
    replace Ng := news_sub Ng (l' := (g, _) :: (dg, _) :: (klG, _) :: (hand, _) :: (kl', _) :: (rl', _) :: (xd, _) :: tl) (by walk_at "M subs")
    clear F N NI
    ((repeat ((with_reducible rename @Ne _ _ _ => kNz); (have kNa := Apart.mk' kNz); clear kNz)))
    (repeat' ((fail_if_success (with_reducible show wpAny _ _ (call (Value.ref _) _ _) _ _ _)); (fail_if_success (with_reducible show wpAny _ _ (execs (Stmt.If _ _ _ _ :: _) _) _ _ _)); (((fail_if_success (with_reducible show wpAny _ _ (exec (Stmt.While _ _ _ _) _) _ _ _)); (fail_if_success (with_reducible show wpAny _ _ (pyIter _) (fun it s₂ => LoopAtV _ _ _ _ _ _ _ _ _ it s₂) _ _)); (fail_if_success (with_reducible show wpAny _ _ (eval (Expr.ListComp _ _ _ _) _) _ _ _)); (fail_if_success (with_reducible show Exists _)))); first | (k_unfold; (try dsimp only)) | walk1 | (dsimp only; walk1) | fail "no step"))
    rename Fr _ _ _ _ => Fa
    rename News _ _ _ _ => Na
    refine make_shape (Amb.down (Amb.inn M Fa) (by decide)) fun hg2 tg2 sxG sdG sesG snG NS => ?_
    have v1 := off_new Na NS.nx
    have v2 := off_new Na NS.nd
    have v11 := ne0 v1
    have v12 := ne1 v1
    have v13 := ne2 v1
    have v14 := ne3 v1
    have v15 := ne4 v1
    have v16 := ne5 v1
    have v17 := ne6 v1
    have v18 := neT7 v1
    clear v1
    have v21 := ne0 v2
    have v22 := ne1 v2
    have v23 := ne2 v2
    have v24 := ne3 v2
    have v25 := ne4 v2
    have v26 := ne5 v2
    have v27 := ne6 v2
    have v28 := neT7 v2
    clear v2
    have s8 := NS.sep
    obtain ⟨Fb, Nb⟩ := NS.news Fa Na
    obtain ⟨ctG, hcatG⟩ := NS.es_
    clear Fa Na NS
    ((repeat ((with_reducible rename @Ne _ _ _ => kNz); (have kNa := Apart.mk' kNz); clear kNz)))
    (repeat' ((fail_if_success (with_reducible show wpAny _ _ (call (Value.ref _) _ _) _ _ _)); (fail_if_success (with_reducible show wpAny _ _ (execs (Stmt.If _ _ _ _ :: _) _) _ _ _)); (((fail_if_success (with_reducible show wpAny _ _ (exec (Stmt.While _ _ _ _) _) _ _ _)); (fail_if_success (with_reducible show wpAny _ _ (pyIter _) (fun it s₂ => LoopAtV _ _ _ _ _ _ _ _ _ it s₂) _ _)); (fail_if_success (with_reducible show wpAny _ _ (eval (Expr.ListComp _ _ _ _) _) _ _ _)); (fail_if_success (with_reducible show Exists _)))); first | (k_unfold; (try dsimp only)) | walk1 | (dsimp only; walk1) | fail "no step"))
    have IG : InstAt hg2 g (instObj 136 dg) 136 (some (dictOf esg ng)) := ⟨(Nb _ (mem2)).1, rfl, rfl, (Nb _ (mem3)).1⟩
    refine' set_dict Fb X Nb IG rfl ?k6 ?k7 ?k8 ?k9 ?k10 rfl ?k12 ?k13 ?_
    case k6 => k_is
    case k7 => k_is
    case k8 => k_is
    case k9 => k_is
    case k10 => rw [ESg.shape]; rfl
    case k12 => k_upd
    case k13 => rw [putL_len ⟨_, ESg.shape⟩]; exact l19 ESg.len
    intro hg3 Fc Nc
    obtain ⟨esg2, ng2, ESg2, hEg⟩ : ∃ e n, ItemEs e ((Str.ofString "G") ++ Str.ofString (toString (i : Int))) .none .none klG (.ref sxG) ∧ hg3.get? dg = some (dictOf e n) := ⟨_, _, ESg.setShape, (Nc _ (mem3)).1⟩
    replace Nc : News (cut s.heap [hand, wl, xd]) L hg3 ((hand, handObj cells p' sd1 u1 u2 j3) :: (dg, dictOf esg2 ng2) :: (sxG, instObj 331 sdG) :: (sdG, dictOf sesG snG) :: (g, instObj 136 dg) :: (klG, listOf (List.toArray []) 0) :: (kl', listOf (refs ks).toArray j1) :: (rl', listOf (refs rts).toArray j2) :: (xd, oX') :: tl) :=
      news_sub (News.app (News.put Nc (mem3) hEg) Nc) (by walk_at "M subs")
    clear Fb Nb IG hEg ESg
    ((repeat ((with_reducible rename @Ne _ _ _ => kNz); (have kNa := Apart.mk' kNz); clear kNz)))
    (repeat' ((fail_if_success (with_reducible show wpAny _ _ (call (Value.ref _) _ _) _ _ _)); (fail_if_success (with_reducible show wpAny _ _ (execs (Stmt.If _ _ _ _ :: _) _) _ _ _)); (((fail_if_success (with_reducible show wpAny _ _ (exec (Stmt.While _ _ _ _) _) _ _ _)); (fail_if_success (with_reducible show wpAny _ _ (pyIter _) (fun it s₂ => LoopAtV _ _ _ _ _ _ _ _ _ it s₂) _ _)); (fail_if_success (with_reducible show wpAny _ _ (eval (Expr.ListComp _ _ _ _) _) _ _ _)); (fail_if_success (with_reducible show Exists _)))); first | (k_unfold; (try dsimp only)) | walk1 | (dsimp only; walk1) | fail "no step"))
    rename Fr _ _ _ _ => Fd
    rename News _ _ _ _ => Nd
    refine execs_joinG (GroupJ w s (cut s.heap [hand, wl, xd]) L hand cells data dg sxG sdG g klG kl' rl' xd above ar' sesG snG ks rts us j1 j2 i p' tlv tl) (fun QJ hQJ => ?_) ?_
    · ((repeat ((with_reducible rename @Ne _ _ _ => kNz); (have kNa := Apart.mk' kNz); clear kNz)))
      (repeat' ((fail_if_success (with_reducible show wpAny _ _ (call (Value.ref _) _ _) _ _ _)); (((fail_if_success (with_reducible show wpAny _ _ (exec (Stmt.While _ _ _ _) _) _ _ _)); (fail_if_success (with_reducible show wpAny _ _ (pyIter _) (fun it s₂ => LoopAtV _ _ _ _ _ _ _ _ _ it s₂) _ _)); (fail_if_success (with_reducible show wpAny _ _ (eval (Expr.ListComp _ _ _ _) _) _ _ _)); (fail_if_success (with_reducible show Exists _)))); first | (k_unfold; (try dsimp only)) | walk1 | (dsimp only; walk1) | fail "no step"))
      have hpb := hS.p1_
      refine wpAny_callA (next_code (h₀ := cut s.heap [hand, wl, xd]) (Amb.down (Amb.inn M Fd) (by decide)) X T Fd.keep (cut_none (.head _)) (Nd _ (.head _)).1 (hc.keeps Fd.keep) (by k_ne) hi hcl hS.p0_ (rpa hp2 hi3 hS.p1_) hS.s0_ hS.s1_ (by decide) (by decide) fun hg4 tg4 r2 tr2 sd2 w1 w2 j4 z1 z2 z3 z4 z5 z6 => ?_)
      obtain ⟨Fe, Ne⟩ := back_one Fd Nd z1 z2 (by k_all)
      clear Fd Nd z1 z2
      have hr2 := two z5 z6
      rcases hr2 with rfl | rfl
      · ((repeat ((with_reducible rename @Ne _ _ _ => kNz); (have kNa := Apart.mk' kNz); clear kNz)))
        (repeat' ((fail_if_success (with_reducible show wpAny _ _ (call (Value.ref _) _ _) _ _ _)); (((fail_if_success (with_reducible show wpAny _ _ (exec (Stmt.While _ _ _ _) _) _ _ _)); (fail_if_success (with_reducible show wpAny _ _ (pyIter _) (fun it s₂ => LoopAtV _ _ _ _ _ _ _ _ _ it s₂) _ _)); (fail_if_success (with_reducible show wpAny _ _ (eval (Expr.ListComp _ _ _ _) _) _ _ _)); (fail_if_success (with_reducible show Exists _)))); first | (k_unfold; (try dsimp only)) | walk1 | (dsimp only; walk1) | fail "no step"))
        exact hQJ _ ⟨_, _, p' + 1, sd2, w1, w2, j4, esg2, ng2, oX', kvs, .none, false, td, _, rfl, Fe, Ne, nw1 hS.p0_, Int.le_refl _, z3, z4, ESg2, .inl rfl, rfl, hS.ix, Nat.le_succ_of_le hS.kl_, hS.kx, rfl, rfl, rfl, rfl, rfl, rfl, rfl, rfl⟩
      · ((repeat ((with_reducible rename @Ne _ _ _ => kNz); (have kNa := Apart.mk' kNz); clear kNz)))
        (repeat' ((fail_if_success (with_reducible show wpAny _ _ (call (Value.ref _) _ _) _ _ _)); (((fail_if_success (with_reducible show wpAny _ _ (exec (Stmt.While _ _ _ _) _) _ _ _)); (fail_if_success (with_reducible show wpAny _ _ (pyIter _) (fun it s₂ => LoopAtV _ _ _ _ _ _ _ _ _ it s₂) _ _)); (fail_if_success (with_reducible show wpAny _ _ (eval (Expr.ListComp _ _ _ _) _) _ _ _)); (fail_if_success (with_reducible show Exists _)))); first | (k_unfold; (try dsimp only)) | walk1 | (dsimp only; walk1) | fail "no step"))
        rename_i ta _ _ _ _ _ tb _ Ff Nf _
        refine make_occurs (Amb.down (Amb.inn M Ff) (by decide)) (Tpl.news Nf (mem1)) (Tpl.news Nf (.head _)) fun hg5 tg5 oc doc eso no st n1 n2 _ _ => ?_
        have Fh := Fr.keeps Ff st
        have Nh := news_sub (News.grown Nf st) (l' := (hand, _) :: (dg, _) :: (sxG, _) :: (sdG, _) :: (g, _) :: (klG, _) :: (kl', _) :: (rl', _) :: (xd, _) :: tl) (by walk_at "M subs")
        clear Ff Nf st n1 n2
        ((repeat ((with_reducible rename @Ne _ _ _ => kNz); (have kNa := Apart.mk' kNz); clear kNz)))
        (repeat' ((fail_if_success (with_reducible show wpAny _ _ (call (Value.ref _) _ _) _ _ _)); (((fail_if_success (with_reducible show wpAny _ _ (exec (Stmt.While _ _ _ _) _) _ _ _)); (fail_if_success (with_reducible show wpAny _ _ (pyIter _) (fun it s₂ => LoopAtV _ _ _ _ _ _ _ _ _ it s₂) _ _)); (fail_if_success (with_reducible show wpAny _ _ (eval (Expr.ListComp _ _ _ _) _) _ _ _)); (fail_if_success (with_reducible show Exists _)))); first | (k_unfold; (try dsimp only)) | walk1 | (dsimp only; walk1) | fail "no step"))
        have IG : InstAt hg5 g (instObj 136 dg) 136 (some (dictOf esg2 ng2)) := ⟨(Nh _ (mem4)).1, rfl, rfl, (Nh _ (mem1)).1⟩
        refine' set_dict Fh X Nh IG rfl ?k6 ?k7 ?k8 ?k9 ?k10 rfl ?k12 ?k13 ?_
        case k6 => k_is
        case k7 => k_is
        case k8 => k_is
        case k9 => k_is
        case k10 => rw [ESg2.occurs]; rfl
        case k12 => k_upd
        case k13 => rw [putL_len ⟨_, ESg2.occurs⟩]; exact l19 ESg2.len
        intro hg6 Fi Ni
        obtain ⟨esg3, ng3, ESg3, hEg3⟩ : ∃ e n, ItemEs e ((Str.ofString "G") ++ Str.ofString (toString (i : Int))) .none (.ref oc) klG (.ref sxG) ∧ hg6.get? dg = some (dictOf e n) := ⟨_, _, ESg2.setOccurs, (Ni _ (mem1)).1⟩
        replace Ni : News (cut s.heap [hand, wl, xd]) L hg6 ((hand, handObj cells (p' + 1) sd2 w1 w2 j4) :: (dg, dictOf esg3 ng3) :: (sxG, instObj 331 sdG) :: (sdG, dictOf sesG snG) :: (g, instObj 136 dg) :: (klG, listOf (List.toArray []) 0) :: (kl', listOf (refs ks).toArray j1) :: (rl', listOf (refs rts).toArray j2) :: (xd, oX') :: tl) :=
          news_sub (News.app (News.put Ni (mem1) hEg3) Ni) (by walk_at "M subs")
        clear Fh Nh IG hEg3 ESg2
        ((repeat ((with_reducible rename @Ne _ _ _ => kNz); (have kNa := Apart.mk' kNz); clear kNz)))
        (repeat' ((fail_if_success (with_reducible show wpAny _ _ (call (Value.ref _) _ _) _ _ _)); (((fail_if_success (with_reducible show wpAny _ _ (exec (Stmt.While _ _ _ _) _) _ _ _)); (fail_if_success (with_reducible show wpAny _ _ (pyIter _) (fun it s₂ => LoopAtV _ _ _ _ _ _ _ _ _ it s₂) _ _)); (fail_if_success (with_reducible show wpAny _ _ (eval (Expr.ListComp _ _ _ _) _) _ _ _)); (fail_if_success (with_reducible show Exists _)))); first | (k_unfold; (try dsimp only)) | walk1 | (dsimp only; walk1) | fail "no step"))
        dsimp only
        have hkl := hS.kl_
        refine kda_set (knd := strKind PR w) Fi Ni (by k_updF) hS.ix (strKind_is PR w _ _) (by rw [sizeLine_eq]; exact le16 (Nat.le_trans hkl (Nat.le_of_lt hi3))) fun hg7 oX2 Fj Nj hX2 => ?_
        clear Fi Ni
        dsimp only at Nj ⊢
        ((repeat ((with_reducible rename @Ne _ _ _ => kNz); (have kNa := Apart.mk' kNz); clear kNz)))
        (repeat' ((fail_if_success (with_reducible show wpAny _ _ (call (Value.ref _) _ _) _ _ _)); (((fail_if_success (with_reducible show wpAny _ _ (exec (Stmt.While _ _ _ _) _) _ _ _)); (fail_if_success (with_reducible show wpAny _ _ (pyIter _) (fun it s₂ => LoopAtV _ _ _ _ _ _ _ _ _ it s₂) _ _)); (fail_if_success (with_reducible show wpAny _ _ (eval (Expr.ListComp _ _ _ _) _) _ _ _)); (fail_if_success (with_reducible show Exists _)))); first | (k_unfold; (try dsimp only)) | walk1 | (dsimp only; walk1) | fail "no step"))
        rename Fr _ _ _ _ => Fk
        rename News _ _ _ _ => Nk
        refine hQJ _ ⟨_, _, p' + 1, sd2, w1, w2, j4, esg3, ng3, oX2, _, .ref oc, true, _, _, rfl, Fk, Nk, ?_, Int.le_refl _, z3, z4, ESg3, .inr ⟨_, rfl⟩, rfl, hX2, ?_, ?_, rfl, rfl, rfl, rfl, rfl, deep_up us _, rfl, rfl⟩
        · exact nw1 hS.p0_
        · exact Nat.le_trans (stored_length_le kvs _ _) (Nat.succ_le_succ hkl)
        · exact stored_mem hS.kx (xname hi3)
    · rintro _ ⟨hg8, tg8, p2, sd2, w1, w2, j4, esg3, ng3, oX2, kvs2, occ, tab, td2, m2, rfl, Fl, Nl, P1, P2, P3, P4, ESg3, ho3, htab, hX2, hkl2, hkx2, M1, M2, M3, M4, M5, M6, M7, M8⟩
      clear Fd Nd ESg2
      obtain ⟨av, ka, hak, has⟩ := hS.ak
      have hakT := subT _ hak
      have hal := has.len_eq
      rw [List.length_map] at hal
      have hul := hS.names.ulen
      have hil := hS.names.ilen
      have hrl := hS.rtl
      have hr11 : rts.length ≤ 2 + 3 * 3 := by rw [hrl]; exact i11 hil (Nat.le_of_lt hi3)
      have hz0 : rts.length ≤ 16777216 := Nat.le_trans hr11 (by decide)
      have hz1 : rts.length + (0 + 1) ≤ 16777216 := Nat.le_trans (Nat.add_le_add_right hr11 _) (by decide)
      have hz2 : rts.length + (0 + 1) + (0 + 1) ≤ 16777216 := Nat.le_trans (Nat.add_le_add_right (Nat.add_le_add_right hr11 _) _) (by decide)
      have hz3 : 0 + 1 + av.length < 50000 := by rw [hal]; exact Nat.lt_of_le_of_lt (Nat.add_le_add_left (Nat.le_trans hul (Nat.succ_le_of_lt hi3)) _) (by decide)
      replace Fl := Fr.upd0 [((Str.ofString "hand"), _), ((Str.ofString "data"), _), ((Str.ofString "rows"), _), ((Str.ofString "above"), _), ((Str.ofString "around"), _), ((Str.ofString "deep"), _), ((Str.ofString "level"), _), ((Str.ofString "group"), _)] Fl (allCons M1 (allCons M2 (allCons M3 (allCons M4 (allCons M5 (allCons M6 (allCons M7 (allCons M8 (List.forall_mem_nil _)))))))))
      have hT : ∀ S, (∀ a ∈ S, ∀ p ∈ tl, @Ne Nat p.1 a) → Holds (cut hg8 S) tps := fun S hS' => holds_cut (holds_of Nl fun q hq => memT9 (subT q hq)) fun a ha q hq => hS' a ha q (subT q hq)
      ((repeat ((with_reducible rename @Ne _ _ _ => kNz); (have kNa := Apart.mk' kNz); clear kNz)))
      (repeat' ((fail_if_success (with_reducible show wpAny _ _ (call (Value.ref _) _ _) _ _ _)); (fail_if_success (with_reducible show wpAny _ _ (execs (Stmt.If _ _ _ _ :: _) _) _ _ _)); (((fail_if_success (with_reducible show wpAny _ _ (exec (Stmt.While _ _ _ _) _) _ _ _)); (fail_if_success (with_reducible show wpAny _ _ (pyIter _) (fun it s₂ => LoopAtV _ _ _ _ _ _ _ _ _ it s₂) _ _)); (fail_if_success (with_reducible show wpAny _ _ (eval (Expr.ListComp _ _ _ _) _) _ _ _)); (fail_if_success (with_reducible show Exists _)))); first | (k_unfold; (try dsimp only)) | walk1 | (dsimp only; walk1) | fail "no step"))
      obtain ⟨oA, esA, nA, nmA, parA, occA, shpA, IA, EA⟩ := (hS.grow hg8 (holds_of Nl fun q hq => memT9 (subT q hq))).top
      refine' method_inst Fl X IA ?j4 ?j5 ?j6 ?j7 ?_
      case j4 => k_is
      case j5 => k_is
      case j6 => k_is
      case j7 => exact EA.noAdd
      ((repeat ((with_reducible rename @Ne _ _ _ => kNz); (have kNa := Apart.mk' kNz); clear kNz)))
      (repeat' ((fail_if_success (with_reducible show wpAny _ _ (call (Value.ref _) _ _) _ _ _)); (fail_if_success (with_reducible show wpAny _ _ (execs (Stmt.If _ _ _ _ :: _) _) _ _ _)); (((fail_if_success (with_reducible show wpAny _ _ (exec (Stmt.While _ _ _ _) _) _ _ _)); (fail_if_success (with_reducible show wpAny _ _ (pyIter _) (fun it s₂ => LoopAtV _ _ _ _ _ _ _ _ _ it s₂) _ _)); (fail_if_success (with_reducible show wpAny _ _ (eval (Expr.ListComp _ _ _ _) _) _ _ _)); (fail_if_success (with_reducible show Exists _)))); first | (k_unfold; (try dsimp only)) | walk1 | (dsimp only; walk1) | fail "no step"))
      clear IA EA
      have nbk : ∀ a ∈ [dg, kl'], (cut s.heap [hand, wl, xd]).get? a = none := by
        intro a ha
        rcases List.mem_cons.mp ha with rfl | ha
        · exact (Nl _ (mem1)).2.2
        · rw [List.mem_singleton.mp ha]; exact (Nl _ (mem6)).2.2
      have kc := stays_cut Fl.keep nbk
      obtain ⟨oA, esA, nA, nmA, parA, occA, shpA, IA, EA⟩ := (hS.grow _ (hT [dg, kl'] (allCons g25 (allCons T2 (List.forall_mem_nil _))))).top
      refine wpAny_callA (add_code (h₀ := cut hg8 [dg, kl']) (oX := instObj 136 dg) (Amb.down (Amb.inn M Fl) (by decide)) (X.keeps kc) (T.keeps kc) cut_sub (cut_none (.head _)) (cut_none (mem1)) (by k_ne) IA EA ((cut_of (notin2 (by k_ne) (by k_ne))).trans (Nl _ (mem4)).1) rfl rfl rfl
        (Nl _ (mem1)).1 ESg3 (Nl _ (mem6)).1 (Nat.lt_of_le_of_lt hS.ksl (by decide)) fun hg9 tg9 es9 n9 a1 a2 a3 a4 => ?_)
      obtain ⟨Fm, Nm⟩ := back_two Fl (news_sub Nl (l' := (dg, _) :: (kl', _) :: (hand, _) :: (sxG, _) :: (sdG, _) :: (g, _) :: (klG, _) :: (rl', _) :: (xd, _) :: tl) (by walk_at "M subs")) a1 a2 a4 (by k_all) (by k_all)
      have b1 := T1 _ hakT
      have b2 := T2 _ hakT
      have b3 := T3 _ hakT
      have b4 := T4 _ hakT
      have b5 := g15 _ hakT
      have b6 := g25 _ hakT
      have b7 := g35 _ hakT
      dsimp only at b1 b2 b3 b4 b5 b6 b7
      replace Nm := news_sub Nm (l' := (ar', listOf av.toArray ka) :: (dg, _) :: (kl', _) :: (hand, _) :: (sxG, _) :: (sdG, _) :: (g, _) :: (klG, _) :: (rl', _) :: (xd, _) :: tl) (allCons (memT9 hakT) (by walk_at "M subs"))
      obtain ⟨tnG, hnm⟩ := a3.name
      clear Fl Nl a1 a2 a4 kc nbk IA EA hT ESg3
      ((repeat ((with_reducible rename @Ne _ _ _ => kNz); (have kNa := Apart.mk' kNz); clear kNz)))
      (repeat' ((fail_if_success (with_reducible show wpAny _ _ (call (Value.ref _) _ _) _ _ _)); (fail_if_success (with_reducible show wpAny _ _ (execs (Stmt.If _ _ _ _ :: _) _) _ _ _)); (((fail_if_success (with_reducible show wpAny _ _ (exec (Stmt.While _ _ _ _) _) _ _ _)); (fail_if_success (with_reducible show wpAny _ _ (pyIter _) (fun it s₂ => LoopAtV _ _ _ _ _ _ _ _ _ it s₂) _ _)); (fail_if_success (with_reducible show wpAny _ _ (eval (Expr.ListComp _ _ _ _) _) _ _ _)); (fail_if_success (with_reducible show Exists _)))); first | (k_unfold; (try dsimp only)) | walk1 | (dsimp only; walk1) | fail "no step"))
      rename_i rG _ lrG _ _ _ _ _ arN _ larN _ Fn Nn _ _ _
      have c1 := allLt_off lrG.2.2.2.2.2.2.2.2.2.2
      have c2 := allLt_off larN.2.2.2.2.2.2.2.2.2.2.2.2
      replace Nn := news_sub Nn (l' := (klG, _) :: (arN, _) :: (rG, _) :: (ar', _) :: (dg, _) :: (kl', _) :: (hand, _) :: (sxG, _) :: (sdG, _) :: (g, _) :: (rl', _) :: (xd, _) :: tl) (by walk_at "M subs")
      have Fct : Fr (cut s.heap [hand, wl, xd]) L (cut _ [klG]) _ := cut_frame Fn Nn (S := [klG]) (by intro a ha; rw [List.mem_singleton.mp ha]; exact ⟨_, .head _⟩)
      refine wpAny_callA (leaf_code (ks := []) (Amb.down (Amb.inn M Fct) (by decide)) (instAt_cut (Nn _ (mem9)).1 (Nn _ (mem4)).1 (notin1 (by k_ne)) (notin1 (by k_ne))) a3 (Nn _ (.head _)).1 (by decide) fun hgA tgA xL tpL z1 z2 z3 z4 lbL => ?_)
      clear Fct
      obtain ⟨Fo, No, OL⟩ := leaf_back Fn Nn z1 z2 (by k_all) z3 z4
      clear Fn Nn z1 z2 z3 z4
      dsimp only [List.cons_append] at No
      have OL1 := nn0 OL
      have OL2 := nn1 OL
      have OL3 := nn2 OL
      have OL4 := nn6 OL
      have OL5 := nn10 OL
      have OL6 := nn11 OL
      have OL7 := nnT12 OL
      clear OL
      rw [refs_push] at No
      have U1 : ∀ q ∈ tl ++ tpL, @Ne Nat q.1 hand := fun q hq => (List.mem_append.mp hq).elim (T1 q) (OL4 q)
      have U2 : ∀ q ∈ tl ++ tpL, @Ne Nat q.1 rl' := fun q hq => (List.mem_append.mp hq).elim (T3 q) (OL5 q)
      have U3 : ∀ q ∈ tl ++ tpL, @Ne Nat q.1 klG := fun q hq => (List.mem_append.mp hq).elim (g35 q) (OL1 q)
      have U4 : ∀ q ∈ tl ++ tpL, @Ne Nat q.1 xd := fun q hq => (List.mem_append.mp hq).elim (T4 q) (OL6 q)
      have sub1 : ∀ q ∈ tps, q ∈ tl ++ tpL := fun q hq => List.mem_append_left _ (subT q hq)
      have sub2 : ∀ q ∈ own, q ∈ tl ++ tpL := fun q hq => List.mem_append_left _ (subO q hq)
      have sub3 : ∀ q ∈ tpL, q ∈ tl ++ tpL := fun q hq => List.mem_append_right _ hq
      generalize htl2 : tl ++ tpL = tl2 at No U1 U2 U3 U4 sub1 sub2 sub3
      ((repeat ((with_reducible rename @Ne _ _ _ => kNz); (have kNa := Apart.mk' kNz); clear kNz)))
      (repeat' ((fail_if_success (with_reducible show wpAny _ _ (call (Value.ref _) _ _) _ _ _)); (fail_if_success (with_reducible show wpAny _ _ (execs (Stmt.If _ _ _ _ :: _) _) _ _ _)); (((fail_if_success (with_reducible show wpAny _ _ (exec (Stmt.While _ _ _ _) _) _ _ _)); (fail_if_success (with_reducible show wpAny _ _ (pyIter _) (fun it s₂ => LoopAtV _ _ _ _ _ _ _ _ _ it s₂) _ _)); (fail_if_success (with_reducible show wpAny _ _ (eval (Expr.ListComp _ _ _ _) _) _ _ _)); (fail_if_success (with_reducible show Exists _)))); first | (k_unfold; (try dsimp only)) | walk1 | (dsimp only; walk1) | fail "no step"))
      rename_i tL _ _ rL _ lrL _ Fp Np
      rw [refs_push] at Np
      have c3 := allLt_off lrL.2.2.2.2.2.2.2.2.2.2.2.2
      replace Np := news_sub Np (l' := (hand, _) :: (rL, _) :: (klG, _) :: (arN, _) :: (rG, _) :: (ar', _) :: (dg, _) :: (kl', _) :: (sxG, _) :: (sdG, _) :: (g, _) :: (rl', _) :: (xd, _) :: tl2) (by walk_at "M subs")
      have offO : ∀ a o, (a, o) ∈ (hand, handObj cells p' sd1 u1 u2 j3) :: (kl', listOf (refs ks).toArray j1) :: (rl', listOf (refs rts).toArray j2) :: (xd, oX') :: tps → ∀ q ∈ own, @Ne Nat q.1 a := fun a o ha q hq => hoff q hq _ ha
      ((repeat ((with_reducible rename @Ne _ _ _ => kNz); (have kNa := Apart.mk' kNz); clear kNz)))
      (repeat' ((fail_if_success (with_reducible show wpAny _ _ (call (Value.ref _) _ _) _ _ _)); (((fail_if_success (with_reducible show wpAny _ _ (exec (Stmt.While _ _ _ _) _) _ _ _)); (fail_if_success (with_reducible show wpAny _ _ (pyIter _) (fun it s₂ => LoopAtV _ _ _ _ _ _ _ _ _ it s₂) _ _)); (fail_if_success (with_reducible show wpAny _ _ (eval (Expr.ListComp _ _ _ _) _) _ _ _)); (fail_if_success (with_reducible show Exists _)))); first | (k_unfold; (try dsimp only)) | walk1 | (dsimp only; walk1) | fail "no step"))
      have hpb := hS.p1_
      refine wpAny_callA (next_code (h₀ := cut s.heap [hand, wl, xd]) (Amb.down (Amb.inn M Fp) (by decide)) X T Fp.keep (cut_none (.head _)) (Np _ (.head _)).1 (hc.keeps Fp.keep) (by k_ne) hi hcl P1 (Int.lt_of_le_of_lt P2 (rpb hp2 hi3 hS.p1_)) P3 P4 (by decide) (by decide) fun hgB tgB r3 tr3 sd3 x1 x2 j5 z1 z2 z3 z4 z5 z6 => ?_)
      obtain ⟨Fq, Nq⟩ := back_one Fp Np z1 z2 (by k_all)
      clear Fp Np z1 z2
      have hr3' := two z5 z6
      rcases hr3' with rfl | rfl
      · ((repeat ((with_reducible rename @Ne _ _ _ => kNz); (have kNa := Apart.mk' kNz); clear kNz)))
        (repeat' ((fail_if_success (with_reducible show wpAny _ _ (call (Value.ref _) _ _) _ _ _)); (((fail_if_success (with_reducible show wpAny _ _ (exec (Stmt.While _ _ _ _) _) _ _ _)); (fail_if_success (with_reducible show wpAny _ _ (pyIter _) (fun it s₂ => LoopAtV _ _ _ _ _ _ _ _ _ it s₂) _ _)); (fail_if_success (with_reducible show wpAny _ _ (eval (Expr.ListComp _ _ _ _) _) _ _ _)); (fail_if_success (with_reducible show Exists _)))); first | (k_unfold; (try dsimp only)) | walk1 | (dsimp only; walk1) | fail "no step"))
        rename Fr _ _ _ _ => Fz
        rename News _ _ _ _ => Nz
        have V : ∀ a, (∀ q ∈ tl2, @Ne Nat q.1 a) → ∀ q ∈ tps ++ tpL, @Ne Nat q.1 a := fun a hU q hq => hU q ((List.mem_append.mp hq).elim (sub1 q) (sub3 q))
        have V1 := V _ U1
        have V2 := V _ U2
        have V3 := V _ U3
        have V4 := V _ U4
        have hrt : rts ++ [rG] ++ [rL] = rts ++ [rG, rL] := by simp
        rw [hrt] at Nz
        have hdp := deep_push g ((Str.ofString "G") ++ Str.ofString (toString (i : Int))) tab us
        obtain ⟨kw0, hwk⟩ := hS.wk
        refine hQT _ _ ?_
        show TbEnd _ _ _ _ _ _
        refine tbEnd_mk _ _ _ _ ((hand, handObj cells (p2 + 1) sd3 x1 x2 j5) :: (klG, listOf (refs [xL]).toArray 1) :: (rl', listOf (refs (rts ++ [rG, rL])).toArray (j2 + 1 + 1)) :: (xd, oX2) :: (rL, rowObj ((Str.ofString "L") ++ Str.ofString (toString (i : Int))) tL arN (deepOf us tab) td2) :: (arN, listOf (Value.str ((Str.ofString "G") ++ Str.ofString (toString (i : Int))) tnG :: av).toArray 0) :: (rG, rowObj ((Str.ofString "G") ++ Str.ofString (toString (i : Int))) tnG ar' (deepOf us tab) td2) :: (ar', listOf av.toArray ka) :: (dg, dictOf es9 n9) :: (kl', listOf (refs (ks ++ [g])).toArray (j1 + 1)) :: (sxG, instObj 331 sdG) :: (sdG, dictOf sesG snG) :: (g, instObj 136 dg) :: (tps ++ tpL)) rfl Fz Nz ?_ ?_ ?_ ⟨g, klG, arN, rl', [xL], _, _, _, _, _, _, p2 + 1, sd3, _, _, td2, oX2, kvs2, _, ⟨rfl, rfl, rfl, rfl, rfl, rfl, ?_, GrowBy.next (lv := [(xL, (Str.ofString "L") ++ Str.ofString (toString (i : Int)))]) (rts' := [rG, rL]) hS.grow ?_ (Nat.lt_of_le_of_lt (Nat.le_trans hul (Nat.succ_le_of_lt hi3)) (by decide)) hS.names.plain (gname hi3 _ (.head _)) (by k_mem) (by k_mem) (by k_mem) a3 (by k_mem) (by k_mem) hcatG htab ho3 ?_ (by k_mem) (.cons _ _ has) ?_,
            Names.next hS.names (gname hi3) (by intro y hy; rw [List.mem_singleton.mp hy]; exact lname hi3) (by simp), hX2, hkl2, hkx2, nw1 P1, rps hS.p1_ P2, z3, z4, ?_, ?_, ?_, ?_, ?_, ?_, ?_, ?_, ?_, by simp, ?_, ⟨kw0, ?_⟩, ⟨_, 0, by k_mem, .cons _ _ has⟩⟩⟩
        · refine allCons (by k_mem) (allCons (by k_mem) (allCons (by k_mem) (allCons (by k_mem) (allCons (by k_mem) (allCons (by k_mem) (allCons (by k_mem) (allCons (by k_mem) (allCons (by k_mem) (allCons (by k_mem) (allCons (by k_mem) (allCons (by k_mem) (allCons (by k_mem) ?_))))))))))))
          intro q hq
          have hq2 := (List.mem_append.mp hq).elim (sub1 q) (sub3 q)
          exact memT13 hq2
        · intro q hq
          exact memT13 (sub2 q hq)
        · intro q hq
          refine allCons (T1 q (subO q hq)) (allCons (g35 q (subO q hq)) (allCons (T3 q (subO q hq)) (allCons (T4 q (subO q hq)) (allCons (c3 q (sub2 q hq)) (allCons (c2 q (subO q hq)) (allCons (c1 q (subO q hq)) (allCons (hoff q hq _ (memT4 hak)) (allCons (g25 q (subO q hq)) (allCons (T2 q (subO q hq)) (allCons (v18 q (subO q hq)) (allCons (v28 q (subO q hq)) (allCons (g15 q (subO q hq)) ?_))))))))))))
          intro r hr
          rcases List.mem_append.mp hr with hr | hr
          · exact hoff q hq r (memT4 hr)
          · exact Ne.symm (OL7 q (subO q hq) r hr)
        · rw [hdp]; rfl
        · intro q hq; exact memT9 (List.mem_append_left _ hq)
        · intro y hy
          rw [List.mem_singleton.mp hy]
          exact ⟨tpL, lbL, fun q hq => memT9 (List.mem_append_right _ hq)⟩
        · intro h hh
          refine .cons (rowAt_of (hh (rG, _) (by k_mem)) (hh (ar', _) (by k_mem)) has) (.cons ?_ .nil)
          show RowAt h rL _ _ (deepOf (⟨g, _, tab⟩ :: us) false : Nat)
          rw [hdp]
          exact rowAt_of (hh (rL, _) (by k_mem)) (hh (arN, _) (by k_mem)) (.cons _ _ has)
        · k_all
        · k_all
        · k_all
        · k_all
        · k_ne
        · k_ne
        · k_ne
        · k_ne
        · k_ne
        · simp [hrl]
        · exact memT9 (List.mem_append_left _ hwk)
      · ((repeat ((with_reducible rename @Ne _ _ _ => kNz); (have kNa := Apart.mk' kNz); clear kNz)))
        (repeat' ((fail_if_success (with_reducible show wpAny _ _ (call (Value.ref _) _ _) _ _ _)); (((fail_if_success (with_reducible show wpAny _ _ (exec (Stmt.While _ _ _ _) _) _ _ _)); (fail_if_success (with_reducible show wpAny _ _ (pyIter _) (fun it s₂ => LoopAtV _ _ _ _ _ _ _ _ _ it s₂) _ _)); (fail_if_success (with_reducible show wpAny _ _ (eval (Expr.ListComp _ _ _ _) _) _ _ _)); (fail_if_success (with_reducible show Exists _)))); first | (k_unfold; (try dsimp only)) | walk1 | (dsimp only; walk1) | fail "no step"))
        replace Nq := news_sub Nq (l' := (klG, _) :: (hand, _) :: (rL, _) :: (arN, _) :: (rG, _) :: (ar', _) :: (dg, _) :: (kl', _) :: (sxG, _) :: (sdG, _) :: (g, _) :: (rl', _) :: (xd, _) :: tl2) (by walk_at "M subs")
        have Fct : Fr (cut s.heap [hand, wl, xd]) L (cut _ [klG]) _ := cut_frame Fq Nq (S := [klG]) (by intro a ha; rw [List.mem_singleton.mp ha]; exact ⟨_, .head _⟩)
        refine wpAny_callA (leaf_code (ks := [xL]) (Amb.down (Amb.inn M Fct) (by decide)) (instAt_cut (Nq _ (mem10)).1 (Nq _ (mem6)).1 (notin1 (by k_ne)) (notin1 (by k_ne))) a3 (Nq _ (.head _)).1 (by simp) fun hgC tgC xS tpS z1 z2 z7 z8 lbS => ?_)
        clear Fct
        obtain ⟨Fr1, Nr1, OS⟩ := leaf_back Fq Nq z1 z2 (by k_all) z7 z8
        clear Fq Nq z1 z2 z7 z8
        dsimp only [List.cons_append] at Nr1
        have OS1 := nn0 OS
        have OS2 := nn1 OS
        have OS3 := nn11 OS
        have OS4 := nn12 OS
        have OS5 := nnT13 OS
        clear OS
        have U1' : ∀ q ∈ tl2 ++ tpS, @Ne Nat q.1 hand := fun q hq => (List.mem_append.mp hq).elim (U1 q) (OS2 q)
        have U2' : ∀ q ∈ tl2 ++ tpS, @Ne Nat q.1 rl' := fun q hq => (List.mem_append.mp hq).elim (U2 q) (OS3 q)
        have U3' : ∀ q ∈ tl2 ++ tpS, @Ne Nat q.1 klG := fun q hq => (List.mem_append.mp hq).elim (U3 q) (OS1 q)
        have U4' : ∀ q ∈ tl2 ++ tpS, @Ne Nat q.1 xd := fun q hq => (List.mem_append.mp hq).elim (U4 q) (OS4 q)
        have sub1' : ∀ q ∈ tps, q ∈ tl2 ++ tpS := fun q hq => List.mem_append_left _ (sub1 q hq)
        have sub2' : ∀ q ∈ own, q ∈ tl2 ++ tpS := fun q hq => List.mem_append_left _ (sub2 q hq)
        have sub3' : ∀ q ∈ tpL, q ∈ tl2 ++ tpS := fun q hq => List.mem_append_left _ (sub3 q hq)
        have sub4' : ∀ q ∈ tpS, q ∈ tl2 ++ tpS := fun q hq => List.mem_append_right _ hq
        generalize htl3 : tl2 ++ tpS = tl3 at Nr1 U1' U2' U3' U4' sub1' sub2' sub3' sub4'
        (repeat' ((fail_if_success (with_reducible show wpAny _ _ (call (Value.ref _) _ _) _ _ _)); (((fail_if_success (with_reducible show wpAny _ _ (exec (Stmt.While _ _ _ _) _) _ _ _)); (fail_if_success (with_reducible show wpAny _ _ (pyIter _) (fun it s₂ => LoopAtV _ _ _ _ _ _ _ _ _ it s₂) _ _)); (fail_if_success (with_reducible show wpAny _ _ (eval (Expr.ListComp _ _ _ _) _) _ _ _)); (fail_if_success (with_reducible show Exists _)))); first | (k_unfold; (try dsimp only)) | walk1 | (dsimp only; walk1) | fail "no step"))
        rename_i rS _ lrS _ _ Fz Nz
        have sub5' : ∀ q ∈ (tps ++ tpL) ++ tpS, q ∈ tl3 := fun q hq => (List.mem_append.mp hq).elim (fun h => (List.mem_append.mp h).elim (sub1' q) (sub3' q)) (sub4' q)
        have V : ∀ a, (∀ q ∈ tl3, @Ne Nat q.1 a) → ∀ q ∈ (tps ++ tpL) ++ tpS, @Ne Nat q.1 a := fun a hU q hq => hU q (sub5' q hq)
        have V1 := V _ U1'
        have V2 := V _ U2'
        have V3 := V _ U3'
        have V4 := V _ U4'
        rw [refs_push] at Nz
        have hrt : rts ++ [rG] ++ [rL] ++ [rS] = rts ++ [rG, rL, rS] := by simp
        rw [hrt] at Nz
        have c4 := allLt_off lrS.2.2.2.2.2.2.2.2.2.2.2.2.2
        have hdp := deep_push g ((Str.ofString "G") ++ Str.ofString (toString (i : Int))) tab us
        obtain ⟨kw0, hwk⟩ := hS.wk
        refine hQT _ _ ?_
        show TbEnd _ _ _ _ _ _
        refine tbEnd_mk _ _ _ _ ((hand, handObj cells (p2 + 1) sd3 x1 x2 j5) :: (klG, listOf (refs [xL, xS]).toArray 2) :: (rl', listOf (refs (rts ++ [rG, rL, rS])).toArray (j2 + 1 + 1 + 1)) :: (xd, oX2) :: (rS, rowObj (Str.ofString "S") tgC arN (deepOf us tab) td2) :: (rL, rowObj ((Str.ofString "L") ++ Str.ofString (toString (i : Int))) tL arN (deepOf us tab) td2) :: (arN, listOf (Value.str ((Str.ofString "G") ++ Str.ofString (toString (i : Int))) tnG :: av).toArray 0) :: (rG, rowObj ((Str.ofString "G") ++ Str.ofString (toString (i : Int))) tnG ar' (deepOf us tab) td2) :: (ar', listOf av.toArray ka) :: (dg, dictOf es9 n9) :: (kl', listOf (refs (ks ++ [g])).toArray (j1 + 1)) :: (sxG, instObj 331 sdG) :: (sdG, dictOf sesG snG) :: (g, instObj 136 dg) :: ((tps ++ tpL) ++ tpS)) rfl Fz Nz ?_ ?_ ?_ ⟨g, klG, arN, rl', [xL, xS], _, _, _, _, _, _, p2 + 1, sd3, _, _, td2, oX2, kvs2, _, ⟨rfl, rfl, rfl, rfl, rfl, rfl, ?_, GrowBy.next (lv := [(xL, (Str.ofString "L") ++ Str.ofString (toString (i : Int))), (xS, (Str.ofString "S"))]) (rts' := [rG, rL, rS]) hS.grow ?_ (Nat.lt_of_le_of_lt (Nat.le_trans hul (Nat.succ_le_of_lt hi3)) (by decide)) hS.names.plain (gname hi3 _ (.head _)) (by k_mem) (by k_mem) (by k_mem) a3 (by k_mem) (by k_mem) hcatG htab ho3 ?_ (by k_mem) (.cons _ _ has) ?_,
            Names.next hS.names (gname hi3) (allCons (lname hi3) (allCons sname (List.forall_mem_nil _))) (by simp), hX2, hkl2, hkx2, nw1 P1, rps hS.p1_ P2, z3, z4, ?_, ?_, ?_, ?_, ?_, ?_, ?_, ?_, ?_, by simp, ?_, ⟨kw0, ?_⟩, ⟨_, 0, by k_mem, .cons _ _ has⟩⟩⟩
        · refine allCons (by k_mem) (allCons (by k_mem) (allCons (by k_mem) (allCons (by k_mem) (allCons (by k_mem) (allCons (by k_mem) (allCons (by k_mem) (allCons (by k_mem) (allCons (by k_mem) (allCons (by k_mem) (allCons (by k_mem) (allCons (by k_mem) (allCons (by k_mem) (allCons (by k_mem) ?_)))))))))))))
          intro q hq
          have hq2 := sub5' q hq
          exact memT14 hq2
        · intro q hq
          exact memT14 (sub2' q hq)
        · intro q hq
          refine allCons (T1 q (subO q hq)) (allCons (g35 q (subO q hq)) (allCons (T3 q (subO q hq)) (allCons (T4 q (subO q hq)) (allCons (c4 q (sub2' q hq)) (allCons (c3 q (sub2 q hq)) (allCons (c2 q (subO q hq)) (allCons (c1 q (subO q hq)) (allCons (hoff q hq _ (memT4 hak)) (allCons (g25 q (subO q hq)) (allCons (T2 q (subO q hq)) (allCons (v18 q (subO q hq)) (allCons (v28 q (subO q hq)) (allCons (g15 q (subO q hq)) ?_)))))))))))))
          intro r hr
          rcases List.mem_append.mp hr with hr | hr
          · rcases List.mem_append.mp hr with hr | hr
            · exact hoff q hq r (memT4 hr)
            · exact Ne.symm (OL7 q (subO q hq) r hr)
          · exact Ne.symm (OS5 q (sub2 q hq) r hr)
        · rw [hdp]; rfl
        · intro q hq; exact memT10 (List.mem_append_left _ (List.mem_append_left _ hq))
        · refine allCons (⟨tpL, lbL, fun q hq => memT10 (List.mem_append_left _ (List.mem_append_right _ hq))⟩) (allCons (⟨tpS, lbS, fun q hq => memT10 (List.mem_append_right _ hq)⟩) (List.forall_mem_nil _))
        · intro h hh
          refine .cons (rowAt_of (hh (rG, _) (by k_mem)) (hh (ar', _) (by k_mem)) has) (.cons ?_ (.cons ?_ .nil))
          · show RowAt h rL _ _ (deepOf (⟨g, _, tab⟩ :: us) false : Nat)
            rw [hdp]
            exact rowAt_of (hh (rL, _) (by k_mem)) (hh (arN, _) (by k_mem)) (.cons _ _ has)
          · show RowAt h rS _ _ (deepOf (⟨g, _, tab⟩ :: us) false : Nat)
            rw [hdp]
            exact rowAt_of (hh (rS, _) (by k_mem)) (hh (arN, _) (by k_mem)) (.cons _ _ has)
        · k_all
        · k_all
        · k_all
        · k_all
        · k_ne
        · k_ne
        · k_ne
        · k_ne
        · k_ne
        · simp [hrl]
        · exact memT10 (List.mem_append_left _ (List.mem_append_left _ hwk))
  · rintro m₁ nx h tk ⟨above, kl', ar', rl', ks, rts, its, us, j1, j2, j3, p', sd, u1, u2, td, oX', kvs, tps, hS⟩ F N
    obtain rfl := hS.eq
    replace F := Fr.upd0 [((Str.ofString "rows"), _)] F (allCons hS.m3 (List.forall_mem_nil _))
    clear F₁₀ N₁₀
    (repeat' ((fail_if_success (with_reducible show wpAny _ _ (call (Value.ref _) _ _) _ _ _)); (((fail_if_success (with_reducible show wpAny _ _ (exec (Stmt.While _ _ _ _) _) _ _ _)); (fail_if_success (with_reducible show wpAny _ _ (pyIter _) (fun it s₂ => LoopAtV _ _ _ _ _ _ _ _ _ it s₂) _ _)); (fail_if_success (with_reducible show wpAny _ _ (eval (Expr.ListComp _ _ _ _) _) _ _ _)); (fail_if_success (with_reducible show Exists _)))); first | (k_unfold; (try dsimp only)) | walk1 | (dsimp only; walk1) | fail "no step"))
    have hn3 := rn3 k6'
    have il := hS.names.ilen
    refine hQ₀ _ _ ?_
    refine hR _ _ rl' its kvs oX' p' sd u1 u2 j3 x rts us ((kl', listOf (refs ks).toArray j1) :: (rl', listOf (refs rts).toArray j2) :: tps) ⟨?_, (N _ (.head _)).1, hS.p0_, ?_, hS.s0_, hS.s1_, (N _ (mem3)).1, hS.ix, Nat.le_trans hS.kl_ hn3, hS.kx, ?_, ?_, ?_, ⟨hS.names.head, hS.names.plain, i11 il hn3, Nat.le_trans hS.names.ulen (Nat.succ_le_succ hn3)⟩, i11 il hn3⟩
    · intro b o b1 b2 b3 e
      exact F.keep b o ((cut_of (by simp [b1, b2, b3])).trans e)
    · exact rpe k6' hS.p1_
    · exact holds_of N (allCons (mem1) (allCons (mem2) (by walk_at "M sub")))
    · intro q hq
      have off : ∀ q ∈ (kl', listOf (refs ks).toArray j1) :: (rl', listOf (refs rts).toArray j2) :: tps, @Ne Nat q.1 hand ∧ @Ne Nat q.1 xd :=
        allCons (⟨hS.d1, Ne.symm hS.d4⟩) (allCons (⟨hS.d2, Ne.symm hS.d5⟩) (fun q hq => ⟨hS.of1 q hq, hS.of4 q hq⟩))
      obtain ⟨f1, f2⟩ := off q hq
      refine ⟨?_, f1, f2⟩
      by_cases e : q.1 = wl
      · exact .inl e
      · refine .inr ?_
        have fr := (N q (.tail _ (by
          rcases List.mem_cons.mp hq with rfl | hq
          · exact .head _
          · rcases List.mem_cons.mp hq with rfl | hq
            · exact mem1
            · exact memT3 hq))).2.2
        rwa [cut_of (by simp; exact ⟨f1, e, f2⟩)] at fr
    · intro h hh
      obtain ⟨kk, hk⟩ := hS.wk
      have ht : Holds h tps := fun q hq => hh q (memT2 hq)
      exact ⟨GrowBy.tree hS.grow ht ⟨_, hh _ (.head _)⟩ (Nat.lt_of_le_of_lt (i11 hS.names.ilen hn3) (by decide)), ⟨_, hh _ (mem1)⟩, (hS.grow h ht).rows, ⟨_, ht _ hk⟩⟩
end
end T_R1
section T_M1
set_option maxHeartbeats 1000000
set_option maxRecDepth 100000
section
variable {prog : Program} {w : World} {A : Around} {E : Value → Shared → Prop} {R : Result → Shared → Prop} {s : Shared} {env : Env}
/-- a comprehension whose element turns one object -/
theorem compLoop_mut {elt iter : PySem.Expr} {x : Str} {px : Pos} {scope : Scope} {pos : Pos} {I D a : Addr} {fp wr : List Addr} {n : Nat} {P : Nat → Value → Prop} {St : Nat → Heap → Prop} {cenv : Env} {m : Str → Option Value} {o₀ : Obj}
    (W : Walks prog w A I fp wr n P St) (H : Nat → List Value → Obj → Prop)
    (hx : cenv.kindOf x = some .local) (hp : (cenv.scope.kind == .class || (cenv.scope.kind == .module && cenv.locals != cenv.globals)) = false)
    (hDC : D ≠ cenv.locals) (hDf : D ∉ fp) (hCf : cenv.locals ∉ fp) (haf : a ∉ fp) (haC : a ≠ cenv.locals) (haD : a ≠ D)
    (hst : St 0 s.heap) (hacc : s.heap.PlainList D #[]) (hn : s.heap.Ns cenv.locals m) (ho : s.heap.get? a = some o₀) (hH : H 0 [] o₀)
    (helt : ∀ i v ys o s₂ m₂, i < n → P i v → H i ys o → s₂.heap.get? a = some o → s₂.heap.Ns cenv.locals m₂ → m₂ x = some v → (∀ b q, b ≠ a → b ≠ cenv.locals → b ∉ wr → b ≠ D → s.heap.get? b = some q → s₂.heap.get? b = some q) → (∃ hh tk, s₂ = { s with heap := hh, toks := tk }) →
      wpAny (model prog w) A (eval elt cenv) (fun y s₃ => ∃ h' tk o', s₃ = { s₂ with heap := h', toks := tk } ∧ (∀ b q, b ≠ a → s₂.heap.get? b = some q → h'.get? b = some q) ∧ h'.get? a = some o' ∧ H (i + 1) (ys ++ [y]) o') (notedBy (model prog w) A cenv fun e s' => R (.error e) s') s₂)
    (hR : ∀ h' tk m' ys o, h'.Ns cenv.locals m' → h'.PlainList D ys → h'.get? a = some o → H n ys.toList o →
      (∀ b q, b ≠ a → b ≠ cenv.locals → b ∉ wr → b ≠ D → s.heap.get? b = some q → h'.get? b = some q) → R (.ok .next) { s with heap := h', toks := tk })
    (hsz : n ≤ sizeLine) :
    codeAny (model prog w) A (.compLoop (.ListComp elt [⟨.Name x px, iter, [], 0⟩] scope pos) 0 (.ref I) (.ref D) cenv) R s := by
  w_top off
  refine codeAny_compLoop_tests
    (fun k s' => ∃ h' tk m' ys o i, s' = { s with heap := h', toks := tk } ∧ St i h' ∧ h'.PlainList D ys ∧ h'.Ns cenv.locals m' ∧ h'.get? a = some o ∧ H i ys.toList o ∧ ys.size = i ∧ i ≤ n ∧ k = n + 1 - i ∧
      (∀ b q, b ≠ a → b ≠ cenv.locals → b ∉ wr → b ≠ D → s.heap.get? b = some q → h'.get? b = some q)) ?_ (n + 1)
    ⟨s.heap, s.toks, m, #[], o₀, 0, rfl, hst, hacc, hn, ho, hH, rfl, Nat.zero_le _, rfl, fun _ _ _ _ _ _ e => e⟩
  rintro k s' ⟨Hh, tk, m', ys, o, i, rfl, hst', hacc', hn', ho', hH', hys, hi, rfl, hk⟩
  have hCw : cenv.locals ∉ wr := fun h => hCf (W.sub _ h)
  have hDw : D ∉ wr := fun h => hDf (W.sub _ h)
  have haw : a ∉ wr := fun h => haf (W.sub _ h)
  by_cases hlt : i < n
  · refine W.item i _ _ _ hlt hst' fun v h₁ tk₁ hPv hst₁ hk₁ => ?_
    refine wpAny_assign_Name (wpAny_storeName_local hx (hn'.at' fun o e => hk₁ _ o hCw e) (fun h₂ hn₂ hs₂ => ?_) hp)
    have up₂ : ∀ b o, b ≠ cenv.locals → b ∉ wr → Hh.get? b = some o → h₂.get? b = some o := fun b o hbC hbf e => hs₂.extBut b o hbC (hk₁ b o hbf e)
    have hst₂ : St (i + 1) h₂ := W.frame _ _ _ hst₁ fun b hb o e => hs₂.extBut b o (fun h => hCf (h ▸ hb)) e
    refine wpAny_tests_nil ?_
    simp only [if_true]
    refine wpAny_mono (helt i v ys.toList o _ _ hlt hPv hH' (up₂ a o haC haw ho') hn₂ (by simp) (fun b q hba hbC hbf hbD e => up₂ b q hbC hbf (hk b q hba hbC hbf hbD e)) ⟨_, _, rfl⟩) (fun y s₄ h₄ => ?_) fun _ _ e => e
    obtain ⟨h₄, tk₄, o', rfl, hk₄, ho₄, hH₄⟩ := h₄
    refine wpAny_list_append_plain (hsz := by (walk_at "M om")) (hacc'.at fun o e => hk₄ _ o (Ne.symm haD) (up₂ D o hDC hDw e)) fun h₅ hl₅ hs₅ => ?_
    refine ⟨n + 1 - (i + 1), m1x hlt, h₅, tk₄, _, ys.push y, o', i + 1, rfl, ?_, hl₅, (hn₂.at' fun o e => hk₄ _ o (Ne.symm haC) e).sameBut hs₅ (Ne.symm hDC), hs₅.extBut a o' haD ho₄, by simpa using hH₄, by simp [hys], hlt, rfl,
      fun b q hba hbC hbf hbD e => hs₅.extBut b q hbD (hk₄ b q hba (up₂ b q hbC hbf (hk b q hba hbC hbf hbD e)))⟩
    exact W.frame _ _ h₅ hst₂ fun b hb o e => hs₅.extBut b o (fun h => hDf (h ▸ hb)) (hk₄ b o (fun h => haf (h ▸ hb)) e)
  · have hin : i = n := by (walk_at "M om")
    subst hin
    refine W.done _ _ _ hst' fun h₁ tk₁ hk₁ => ?_
    exact hR h₁ tk₁ m' ys o (hn'.at' fun o e => hk₁ _ o hCw e) (hacc'.at fun o e => hk₁ _ o hDw e) (hk₁ _ _ haw ho') hH' fun b q hba hbC hbf hbD e => hk₁ b q hbf (hk b q hba hbC hbf hbD e)

inductive MutIn (prog : Program) (w : World) (A : Around) (env : Env) (scope : Scope) (cl : List (Str × Addr)) (x : Str) (elt : PySem.Expr) (a : Addr) (H : Nat → List Value → Obj → Prop) (s₂ : Shared) (Q : Value → Shared → Prop) (it : Value) : Prop
  | mk (I : Addr) (fp wr : List Addr) (n : Nat) (P : Nat → Value → Prop) (St : Nat → Heap → Prop) (o₀ : Obj) (e : it = .ref I) (W : Walks prog w A I fp wr n P St) (hz : n ≤ sizeLine) (hst : St 0 s₂.heap) (hfp : ∀ b ∈ fp, b < s₂.heap.objs.size) (haf : a ∉ fp) (ho : s₂.heap.get? a = some o₀) (hH : H 0 [] o₀)
    (he : ∀ C i v ys o s₃ m₃ E', i < n → P i v → H i ys o → s₃.heap.get? a = some o → s₂.heap.objs.size ≤ C → s₃.heap.Ns C m₃ → m₃ x = some v → (∀ b q, b ≠ a → b ∉ wr → s₂.heap.get? b = some q → s₃.heap.get? b = some q) → (∃ hh tk, s₃ = { s₂ with heap := hh, toks := tk }) →
        wpAny (model prog w) A (eval elt (compEnvC scope cl C env)) (fun y s₄ => ∃ h' tk o', s₄ = { s₃ with heap := h', toks := tk } ∧ (∀ b q, b ≠ a → s₃.heap.get? b = some q → h'.get? b = some q) ∧ h'.get? a = some o' ∧ H (i + 1) (ys ++ [y]) o') E' s₃)
    (hQ : ∀ D h' tk ys o, s₂.heap.get? D = none → h'.PlainList D ys → h'.get? a = some o → H n ys.toList o → (∀ b q, b ≠ a → b ∉ wr → s₂.heap.get? b = some q → h'.get? b = some q) → Q (.ref D) { s₂ with heap := h', toks := tk }) : MutIn prog w A env scope cl x elt a H s₂ Q it
theorem compMut {elt iter : PySem.Expr} {x : Str} {px : Pos} {scope : Scope} {cl : List (Str × Addr)} {pos : Pos} {Q : Value → Shared → Prop} {a : Addr} (H : Nat → List Value → Obj → Prop)
    (hclos : closureFor scope env = pure cl) (hcell : ∀ y ∈ scope.names, y.2 ≠ .cell) (hkind : scope.kind = .function)
    (hnames : ∀ y ∈ scope.names, y.2 = .local → scope.names.lookup y.1 = some .local) (hx : scope.names.lookup x = some .local)
    (hs : ∀ x, foldedSetIterable iter env x = pure x)
    (h : wpAny (model prog w) A (eval iter env) (fun xv s₁ => wpAny (model prog w) A (pyIter xv) (fun it s₂ => MutIn prog w A env scope cl x elt a H s₂ Q it) E s₁) E s) :
    wpAny (model prog w) A (eval (.ListComp elt [⟨.Name x px, iter, [], 0⟩] scope pos) env) Q E s := by
  rw [eval_ListComp]
  refine wpAny_comprehension_free (use := none) rfl hs hclos hkind hnames (wpAny_mono h (fun xv s₁ h₁ => wpAny_mono h₁ (fun it s₂ h₂ => ?_) fun _ _ e => e) fun _ _ e => e)
  obtain ⟨I, fp, wr, n, P, St, o₀, rfl, W, hsz, hst, hfp, haf, ho, hH, helt, hQ⟩ := h₂
  refine wpAny_newObj_type (wpAny_newFunctionEnv hcell (by intro y hy; simp at hy) (fun h₁ hns₁ hsb₁ => ?_) hkind)
  dsimp only at hns₁ hsb₁ ⊢
  generalize hH2 : s₂.heap.push { cls := .type "list", dict := none, data := .seq ([] : List Value).toArray } = H2 at hns₁ hsb₁ ⊢
  have hC : H2.objs.size = s₂.heap.objs.size + 1 := by rw [← hH2, Heap.size_push]
  have hDC : s₂.heap.objs.size ≠ H2.objs.size := by rw [hC]; exact Nat.ne_of_lt (Nat.lt_succ_self _)
  have hCle : s₂.heap.objs.size ≤ H2.objs.size := by rw [hC]; exact Nat.le_succ _
  have below : ∀ b, b < s₂.heap.objs.size → b ≠ H2.objs.size ∧ b ≠ s₂.heap.objs.size := fun b hb => ⟨by rw [hC]; exact Nat.ne_of_lt (Nat.lt_succ_of_lt hb), Nat.ne_of_lt hb⟩
  have hDf : s₂.heap.objs.size ∉ fp := fun hm => Nat.lt_irrefl _ (hfp _ hm)
  have hCf : H2.objs.size ∉ fp := fun hm => by have := hfp _ hm; rw [hC] at this; exact Nat.lt_irrefl _ (Nat.lt_of_succ_lt this)
  have old : ∀ b o, s₂.heap.get? b = some o → h₁.get? b = some o := fun b o e => hsb₁.extBut b o (below b (Heap.lt_size e)).1 (Heap.get?_push_of_some _ (hH2 ▸ Heap.get?_push_of_some _ e))
  have hacc : h₁.PlainList s₂.heap.objs.size #[] := ⟨_, hsb₁.extBut _ _ hDC (Heap.get?_push_of_some _ (hH2 ▸ Heap.get?_push_size _ rfl))⟩
  have hst₁ : St 0 h₁ := W.frame _ _ _ hst fun b _ o e => old b o e
  have fresh : ∀ a, s₂.heap.objs.size ≤ a → s₂.heap.get? a = none := fun a ha => by
    cases e : s₂.heap.get? a with
    | none => rfl
    | some o' => exact absurd (Heap.lt_size e) (Nat.not_lt.mpr ha)
  have hba := below a (Heap.lt_size ho)
  have loop : ∀ s₃ : Shared, s₃ = { s₂ with heap := h₁, toks := s₂.toks + ([] : List (Str × Value)).length } →
      codeAny (model prog w) A (.compLoop (.ListComp elt [⟨.Name x px, iter, [], 0⟩] scope pos) 0 (.ref I) (.ref s₂.heap.objs.size) (compEnvC scope cl H2.objs.size env))
        (compPost (model prog w) A E none Q (.ref s₂.heap.objs.size) H2.objs.size) s₃ := by
    rintro s₃ rfl
    refine compLoop_mut (hsz := hsz) (cenv := compEnvC scope cl H2.objs.size env) (a := a) (o₀ := o₀) W H (lookup_relabel_local hx) (by simp [compEnvC, relabel, hkind]) hDC hDf hCf haf hba.1 hba.2 hst₁ hacc hns₁ (old _ _ ho) hH
      (fun i v ys o s₃ m₃ hi hv hHi hoi hn hm hk hex => ?_) fun h' tk m' ys o hn ha hoa hHn hk => ?_
    · obtain ⟨hh, tk, rfl⟩ := hex
      exact helt _ i v ys o _ m₃ _ hi hv hHi hoi hCle hn hm (fun b q hb hbf e => hk b q hb (below b (Heap.lt_size e)).1 hbf (below b (Heap.lt_size e)).2 (old b q e)) ⟨_, _, rfl⟩
    · refine ⟨m', hn, fun h'' hs'' => hQ _ h'' tk ys o (fresh _ (Nat.le_refl _)) (ha.extBut hs''.extBut hDC) (hs''.extBut _ _ hba.1 hoa) hHn fun b q hb hbf e => ?_⟩
      have hb2 := below b (Heap.lt_size e)
      exact hs''.extBut b q hb2.1 (hk b q hb hb2.1 hbf hb2.2 (old b q e))
  exact codeAny_compStart_list (loop _ rfl) (W.self 0 _ _ _ hst₁ (loop _ rfl))
end
end T_M1
section T_P1
set_option maxHeartbeats 1000000
set_option maxRecDepth 100000
theorem fold_follows : ∀ (ns us : List Str) (k : Nat), k ≤ us.length → (ns.foldl (ldStep us) k == us.length) = follows ns (us.drop k)
  | [], us, k, hk => by
    by_cases e : k = us.length
    · subst e; rw [List.drop_length]; show (us.length == us.length) = true; simp
    · have hlt : k < us.length := by (walk_at "M om")
      rw [List.drop_eq_getElem_cons hlt]
      show (k == us.length) = false
      simpa using e
  | n :: ns, us, k, hk => by
    rw [List.foldl_cons]
    by_cases e : k = us.length
    · subst e
      have h1 : ldStep us us.length n = us.length := by unfold ldStep; rw [if_neg (by simp)]
      rw [h1, fold_follows ns us us.length (Nat.le_refl _), List.drop_length]
      cases ns <;> rfl
    · have hlt : k < us.length := by (walk_at "M om")
      have hd : us.drop k = us[k] :: us.drop (k + 1) := List.drop_eq_getElem_cons hlt
      by_cases he : n = us[k]
      · have h1 : ldStep us k n = k + 1 := by unfold ldStep; rw [if_pos (by rw [List.getElem?_eq_getElem hlt, he])]
        rw [h1, fold_follows ns us (k + 1) hlt, hd]
        show _ = (match dropTo us[k] (n :: ns) with | none => false | some r => follows r (us.drop (k + 1)))
        have : dropTo us[k] (n :: ns) = some ns := by unfold dropTo; rw [if_pos he]
        rw [this]
      · have h1 : ldStep us k n = k := by unfold ldStep; rw [if_neg (by rw [List.getElem?_eq_getElem hlt]; intro q; exact he (Option.some.inj q).symm)]
        rw [h1, fold_follows ns us k hk, hd]
        show (match dropTo us[k] ns with | none => false | some r => follows r (us.drop (k + 1))) = (match dropTo us[k] (n :: ns) with | none => false | some r => follows r (us.drop (k + 1)))
        have : dropTo us[k] (n :: ns) = dropTo us[k] ns := by rw [dropTo, if_neg he]
        rw [this]
theorem leads_follows {ns us : List Str} (h : Str.ofString "" ∉ us) : leads (ns ++ [Str.ofString ""]) us = follows ns us := by
  w_top off
  unfold leads
  rw [List.foldl_append]
  have h1 : ∀ k, ldStep us k (Str.ofString "") = k := fun k => by
    unfold ldStep
    rw [if_neg]
    intro e
    obtain ⟨hl, e⟩ := List.getElem?_eq_some_iff.mp e
    exact h (e ▸ List.getElem_mem hl)
  show (ldStep us (ns.foldl (ldStep us) 0) (Str.ofString "") == us.length) = _
  rw [h1, fold_follows ns us 0 (Nat.zero_le _)]
  rfl
noncomputable def meets (title : Str) (us : List Str) (it : It) : Bool := follows (it.us.map Up.nm) us && it.nm == title
theorem hits_meets {its : List It} {title : Str} {us : List Str} (h : Str.ofString "" ∉ us) : hits its title us = its.filter (meets title us) := by
  unfold hits
  rw [List.filter_filter]
  congr 1
  funext it
  rw [leads_follows h]
  rfl
theorem valueAt_none {kvs : List (Str × Value)} {k : Str} (h : ∀ q ∈ kvs, q.1 ∈ xNames) (hk : k ∉ xNames) : valueAt kvs k = none := by
  unfold valueAt
  rw [List.find?_eq_none.mpr, Option.map_none]
  intro q hq e
  have e' : q.1 = k := by simpa using e
  exact hk (e' ▸ h q hq)
theorem isIx_no {kvs : List (Str × Value)} {k : Str} {us : List Str} (h : ∀ q ∈ kvs, q.1 ∈ xNames) (hk : k ∉ xNames) : isIx kvs k us = false := by
  unfold isIx hasIx
  rw [valueAt_none h hk]
  cases us.isEmpty <;> rfl
theorem RowAt.inj {h : Heap} {a : Addr} {nm nm' : Str} {ar ar' : List Str} {d d' : Int} (r : RowAt h a nm ar d) (r' : RowAt h a nm' ar' d') : nm = nm' ∧ ar = ar' ∧ d = d' := by
  obtain ⟨t, la, t2, av, ⟨n, h1⟩, ⟨k, h2⟩, h3⟩ := r
  obtain ⟨t', la', t2', av', ⟨n', h1'⟩, ⟨k', h2'⟩, h3'⟩ := r'
  rw [h1] at h1'
  have e1 := Option.some.inj h1'
  simp only [Obj.mk.injEq, Data.seq.injEq, List.toArray_inj, List.cons.injEq, Value.str.injEq, Value.ref.injEq, Value.int.injEq, true_and, and_true] at e1
  obtain ⟨⟨⟨rfl, rfl⟩, rfl, rfl, rfl⟩, _⟩ := e1
  rw [h2] at h2'
  have e2 := Option.some.inj h2'
  have e3 : av = av' := by
    simp only [W.listOf, Obj.mk.injEq, Data.seq.injEq, true_and, and_true] at e2
    have := congrArg Array.toList e2.1
    simpa using this
  subst e3
  refine ⟨rfl, ?_, rfl⟩
  clear h1 h2 h1' h2' e2
  induction h3 generalizing ar' with
  | nil => cases h3'; rfl
  | cons y t _ ih => cases h3' with | cons y' t' h' => rw [ih h']
section
variable {root : Addr} {its : List It} {us : List Up} {kvs : List (Str × Value)} {i : Nat}
theorem notX : (Str.ofString "N") ∉ xNames ∧ (Str.ofString "R") ∉ xNames ∧ (Str.ofString "Q") ∉ xNames := by decide +kernel
theorem emptyNot : Str.ofString "" ∉ [(Str.ofString "R")] := by decide +kernel
theorem hits_N (N : Names root i its us) : ∃ n, hits its (Str.ofString "N") [] = [⟨n, (Str.ofString "N"), [⟨root, (Str.ofString "R"), false⟩], false, (Str.ofString "numeric")⟩] ∧ hits its (Str.ofString "N") [(Str.ofString "R")] = [⟨n, (Str.ofString "N"), [⟨root, (Str.ofString "R"), false⟩], false, (Str.ofString "numeric")⟩] := by
  obtain ⟨⟨n, tl, rfl, ht⟩, _, _, _⟩ := N
  have hRN : ((Str.ofString "R") == (Str.ofString "N")) = false := by decide +kernel
  have hNN : ((Str.ofString "N") == (Str.ofString "N")) = true := by decide +kernel
  have f : ∀ us, follows [(Str.ofString "R")] us = true → ∀ tl' : List It, (∀ it ∈ tl', it ∈ tl) → tl'.filter (meets (Str.ofString "N") us) = [] := fun us _ tl' hs => List.filter_eq_nil_iff.mpr fun it hi e => by
    unfold meets at e
    rw [Bool.and_eq_true] at e
    exact (ht it (hs it hi)).2.1 (eq_of_beq e.2)
  refine ⟨n, ?_, ?_⟩
  · rw [hits_meets (by simp)]
    rw [List.filter_cons_of_neg (by unfold meets; show ¬ ((follows [] [] && ((Str.ofString "R") == (Str.ofString "N"))) = true); rw [hRN]; simp), List.filter_cons_of_pos (by unfold meets; show ((follows [(Str.ofString "R")] [] && ((Str.ofString "N") == (Str.ofString "N"))) = true); rw [hNN]; rfl), f [] rfl tl fun _ h => h]
  · rw [hits_meets emptyNot]
    have h1 : follows [(Str.ofString "R")] [(Str.ofString "R")] = true := by decide +kernel
    rw [List.filter_cons_of_neg (by unfold meets; show ¬ ((follows [] [(Str.ofString "R")] && ((Str.ofString "R") == (Str.ofString "N"))) = true); rw [hRN]; simp), List.filter_cons_of_pos (by unfold meets; show ((follows [(Str.ofString "R")] [(Str.ofString "R")] && ((Str.ofString "N") == (Str.ofString "N"))) = true); rw [hNN, h1]; rfl), f [(Str.ofString "R")] h1 tl fun _ h => h]
theorem hits_R (N : Names root i its us) : hits its (Str.ofString "R") [] = [⟨root, (Str.ofString "R"), [], false, (Str.ofString "group")⟩] := by
  obtain ⟨⟨n, tl, rfl, ht⟩, _, _, _⟩ := N
  have hRR : ((Str.ofString "R") == (Str.ofString "R")) = true := by decide +kernel
  have hNR : ((Str.ofString "N") == (Str.ofString "R")) = false := by decide +kernel
  rw [hits_meets (by simp), List.filter_cons_of_pos (by unfold meets; show ((follows [] [] && ((Str.ofString "R") == (Str.ofString "R"))) = true); rw [hRR]; rfl), List.filter_cons_of_neg (by unfold meets; show ¬ ((follows [(Str.ofString "R")] [] && ((Str.ofString "N") == (Str.ofString "R"))) = true); rw [hNR]; simp)]
  rw [List.filter_eq_nil_iff.mpr]
  intro it hi e
  unfold meets at e
  rw [Bool.and_eq_true] at e
  exact (ht it hi).1 (eq_of_beq e.2)
theorem hits_Q (N : Names root i its us) : hits its (Str.ofString "Q") [] = [] := by
  obtain ⟨⟨n, tl, rfl, ht⟩, _, _, _⟩ := N
  rw [hits_meets (by simp)]
  refine List.filter_eq_nil_iff.mpr fun it hi e => ?_
  unfold meets at e
  rw [Bool.and_eq_true] at e
  have e2 := eq_of_beq e.2
  have a1 : (Str.ofString "R") ≠ (Str.ofString "Q") := by decide +kernel
  have a2 : (Str.ofString "N") ≠ (Str.ofString "Q") := by decide +kernel
  rcases List.mem_cons.mp hi with rfl | hi
  · exact a1 e2
  · rcases List.mem_cons.mp hi with rfl | hi
    · exact a2 e2
    · exact (ht it hi).2.2 e2
/-- the names of the faults of the five expressions are those that the law notes -/
theorem ways_names (N : Names root i its us) (hk : ∀ q ∈ kvs, q.1 ∈ xNames) : ∀ x ∈ ways, exNames its kvs x.1 = x.2 := by
  obtain ⟨n, n1, n2⟩ := hits_N N
  have rN : ∀ us, hits its (Str.ofString "N") us = [⟨n, (Str.ofString "N"), [⟨root, (Str.ofString "R"), false⟩], false, (Str.ofString "numeric")⟩] → exNames its kvs (.ref (Str.ofString "N") us) = [] := by
    intro us hh
    have h1 : refNames its kvs (Str.ofString "N") us 0 false [] 0 = [] := by
      unfold refNames
      rw [isIx_no hk notX.1, hh]
      rfl
    have h2 : catOf its kvs (Str.ofString "N") us = (Str.ofString "numeric") := by
      unfold catOf
      rw [isIx_no hk notX.1, hh]
      rfl
    unfold exNames
    rw [h1, h2]
    have : isNum (Str.ofString "numeric") = true := by decide +kernel
    rw [this]
    rfl
  have rR : exNames its kvs (.ref (Str.ofString "R") []) = [(Str.ofString "R")] := by
    have h1 : refNames its kvs (Str.ofString "R") [] 0 false [] 0 = [] := by
      unfold refNames
      rw [isIx_no hk notX.2.1, hits_R N]
      rfl
    have h2 : catOf its kvs (Str.ofString "R") [] = (Str.ofString "group") := by
      unfold catOf
      rw [isIx_no hk notX.2.1, hits_R N]
      rfl
    unfold exNames
    rw [h1, h2]
    have : isNum (Str.ofString "group") = false := by decide +kernel
    rw [this]
    rfl
  have rQ : exNames its kvs (.ref (Str.ofString "Q") []) = [(Str.ofString "Q")] := by
    have h1 : refNames its kvs (Str.ofString "Q") [] 0 false [] 0 = [(Str.ofString "Q")] := by
      unfold refNames
      rw [isIx_no hk notX.2.2, hits_Q N]
      rfl
    unfold exNames
    rw [h1]
    rfl
  intro x hx
  unfold ways at hx
  simp only [List.mem_cons, List.not_mem_nil, or_false] at hx
  rcases hx with rfl | rfl | rfl | rfl | rfl
  · rfl
  · exact rN [] n1
  · exact rR
  · exact rQ
  · show exNames its kvs (.ref (Str.ofString "N") [(Str.ofString "R")]) ++ exNames its kvs .text = _
    rw [rN _ n2]
    rfl
theorem ways_ok : ∀ x ∈ ways, x.1.ok := by
  intro x hx
  unfold ways at hx
  simp only [List.mem_cons, List.not_mem_nil, or_false] at hx
  rcases hx with rfl | rfl | rfl | rfl | rfl
  · exact Nat.zero_le _
  · exact Nat.zero_le _
  · exact Nat.zero_le _
  · exact Nat.le_refl _
  · exact Nat.le_refl _
end
end T_P1
section T_M2
set_option maxHeartbeats 1000000
set_option maxRecDepth 100000
section
variable {w : World} {A : Around} {base : Heap} {outer : List Env} {mean : ExcName → Option Value} {mg mb : Str → Option Value} {s : Shared} {n : Nat} {E : Value → Shared → Prop} {Q : Value → Shared → Prop} {env : Env} {L : Addr} {m : Str → Option Value}
theorem next_any {hand cells : Addr} {cs : List Value} {ns : List Int} {p sd : Int} {t1 t2 : Tok} {k : Nat} {many : Int} {tm : Tok} {rest : List (Addr × Obj)}
   (M : Amb w A base outer mean mg mb base (n + 4)) (F : Fr base L s.heap m) (N : News base L s.heap ((hand, handObj cells p sd t1 t2 k) :: rest)) (off : ∀ q ∈ rest, @Ne Nat q.1 hand) (hf : env.frame = some L) (hk : env.scope.kind = .function)
   (hc : Lst s.heap cells cs) (hne : @Ne Nat cells hand) (hi : IntsAre cs ns) (hcl : cs.length ≤ 50) (hp : 0 ≤ p) (hp2 : p < 100000) (hs : 0 ≤ sd) (hs2 : sd < 4294967296) (hm : 1 ≤ many) (hm2 : many ≤ 10)
   (h : ∀ h' tk r t sd' t1' t2' k', Fr base L h' m → News base L h' ((hand, handObj cells (p + 1) sd' t1' t2' k') :: rest) → (∀ b o, b ≠ hand → s.heap.get? b = some o → h'.get? b = some o) → 0 ≤ sd' → sd' < 4294967296 → 0 ≤ r → r < many → Q (.int r t) { s with heap := h', toks := tk }) :
   wpAny (model PR w) (A.deeper env) (call (.ref 342) [.ref hand, .int many tm]) Q E s := by
  w_top off
  have M' := Amb.innC M F hf hk
  refine wpAny_callA (next_code (h₀ := base) (Amb.down M' (by (walk_at "M om"))) M.X M.T F.keep (N _ (.head _)).2.2 (N _ (.head _)).1 hc hne hi hcl hp hp2 hs hs2 hm hm2 fun h' tk r t sd' t1' t2' k' k1 k2 k3 k4 k5 k6 => ?_)
  obtain ⟨F', N'⟩ := back_one F N k1 k2 off
  exact h h' tk r t sd' t1' t2' k' F' N' k1 k3 k4 k5 k6
/-- behind a call that turns hand and makes tps -/
theorem back_more {b h h' : Heap} {L a : Addr} {m : Str → Option Value} {o o' : Obj} {rest tps : List (Addr × Obj)} (F : Fr b L h m) (N : News b L h ((a, o) :: rest)) (k : ∀ c x, c ≠ a → h.get? c = some x → h'.get? c = some x) (e : h'.get? a = some o') (off : ∀ p ∈ rest, @Ne Nat p.1 a)
    (ht : Holds h' tps) (hf : ∀ p ∈ tps, h.get? p.1 = none) : Fr b L h' m ∧ News b L h' ((a, o') :: (rest ++ tps)) ∧ ∀ q ∈ (a, o) :: rest, ∀ p ∈ tps, @Ne Nat p.1 q.1 := leaf_back F N k e off ht hf
theorem number_any {hand cells : Addr} {cs : List Value} {ns : List Int} {p sd : Int} {t1 t2 : Tok} {k : Nat} {rest : List (Addr × Obj)}
   (M : Amb w A base outer mean mg mb base (n + 11)) (F : Fr base L s.heap m) (N : News base L s.heap ((hand, handObj cells p sd t1 t2 k) :: rest)) (off : ∀ q ∈ rest, @Ne Nat q.1 hand) (hf : env.frame = some L) (hk : env.scope.kind = .function)
   (hc : Lst s.heap cells cs) (hne : @Ne Nat cells hand) (hi : IntsAre cs ns) (hcl : cs.length ≤ 50) (hp : 0 ≤ p) (hp2 : p < 100000) (hs : 0 ≤ sd) (hs2 : sd < 4294967296)
   (h : ∀ h' tk t v f e names tps sd' t1' t2' k', Fr base L h' m → News base L h' ((hand, handObj cells (p + 1) sd' t1' t2' k') :: (rest ++ tps)) → (∀ q ∈ (hand, handObj cells p sd t1 t2 k) :: rest, ∀ y ∈ tps, @Ne Nat y.1 q.1) → 0 ≤ sd' → sd' < 4294967296 → NumBy tps t v f e names → (e, names) ∈ ways → Q (.ref t) { s with heap := h', toks := tk }) :
   wpAny (model PR w) (A.deeper env) (call (.ref 370) [.ref hand]) Q E s := by
  have Fc : Fr base L (cut s.heap [hand]) m := cut_frame F N (S := [hand]) (by intro a ha; rw [List.mem_singleton.mp ha]; exact ⟨_, .head _⟩)
  have M' := Amb.innC M Fc hf hk
  refine wpAny_callA (number_law (Amb.down M' (by (walk_at "M om"))) (N _ (.head _)).1 hc hne hi hcl hp hp2 hs hs2 fun h' tk t v f e names tps sd' t1' t2' k' k1 k2 k3 k4 k5 k6 k7 k8 => ?_)
  obtain ⟨F', N', O⟩ := back_more F N k1 k2 off k5 k6
  exact h h' tk t v f e names tps sd' t1' t2' k' F' N' O k3 k4 k7 k8
end
theorem but_back {b h h' : Heap} {L a : Addr} {m : Str → Option Value} {o o' : Obj} {rest : List (Addr × Obj)} {I : Addr} (F : Fr b L h m) (N : News b L h ((a, o) :: rest)) (k : ∀ c q, c ≠ a → c ∉ [I] → h.get? c = some q → h'.get? c = some q) (e : h'.get? a = some o') (hI : h.get? I = none) (off : ∀ p ∈ rest, @Ne Nat p.1 a) :
    Fr b L h' m ∧ News b L h' ((a, o') :: rest) := by
  have n := N _ (.head _)
  obtain ⟨ob, es, ep, ho, r⟩ := F.ns
  have nI : ∀ c q, h.get? c = some q → c ∉ [I] := fun c q e m => by rw [List.mem_singleton.mp m, hI] at e; cases e
  refine ⟨⟨⟨ob, es, ep, k _ _ (Ne.symm n.2.1) (nI _ _ ho) ho, r⟩, fun c x q => k c x (fun z => by rw [z, n.2.2] at q; cases q) (nI _ _ (F.keep c x q)) (F.keep c x q), F.above⟩, ?_⟩
  intro p hp
  rcases List.mem_cons.mp hp with rfl | hp
  · exact ⟨e, n.2⟩
  · exact ⟨k _ _ (off p hp) (nI _ _ (N p (.tail _ hp)).1) (N p (.tail _ hp)).1, (N p (.tail _ hp)).2⟩
theorem tuple_list {prog : Program} {w : World} {A : Around} {E : Value → Shared → Prop} {s : Shared} {Q : Value → Shared → Prop} {b : Heap} {L l : Addr} {m : Str → Option Value} {news : List (Addr × Obj)} {vs : List Value} {k : Nat} (F : Fr b L s.heap m) (N : News b L s.heap news) (hl : (l, listOf vs.toArray k) ∈ news) (hz : vs.length < 1000)
    (h : ∀ t h' tk j, Fr b L h' m → News b L h' ((t, ({ cls := .type "tuple", data := .seq vs.toArray j } : Obj)) :: news) → (∀ q ∈ news, @Ne Nat q.1 t) → Q (.ref t) { s with heap := h', toks := tk }) :
    wpAny (model prog w) A (call (.type "tuple") [.ref l]) Q E s := by
  refine call_tuple_list (News.isList N hl) (fun h' hk => ?_) (by rw [List.size_toArray, sizeLine_eq]; (walk_at "M om"))
  have F' := Fr.keeps F hk
  have N' := News.grown N hk
  exact h _ _ s.toks 0 (F'.push _) (News.push F' N' _) fun q hq e => by
    have h1 := Heap.lt_size (N' q hq).1
    have e' : q.1 = h'.objs.size := e
    rw [e'] at h1; exact Nat.lt_irrefl _ h1
theorem range_small {n : Nat} (h : n < 5) : Builtin.Range.small 0 (n : Int) 1 = true ∧ Builtin.Range.rangeSize 0 (n : Int) 1 = (n : Int) := by
  have := n5i h
  rcases this with rfl | rfl | rfl | rfl | rfl <;> exact ⟨by decide, by decide⟩
end T_M2
section T_P2
set_option maxHeartbeats 1000000
set_option maxRecDepth 100000
section
/-- does this row meet what is asked -/
noncomputable def rowP (h : Heap) (title : Str) (us : List Str) (v : Value) : Bool := @decide (∃ a nm ar d, v = .ref a ∧ RowAt h a nm ar d ∧ (follows ar us && nm == title) = true) (Classical.propDecidable _)
theorem rowP_is {h : Heap} {title nm : Str} {us ar : List Str} {a : Addr} {d : Int} (r : RowAt h a nm ar d) : rowP h title us (.ref a) = (follows ar us && nm == title) := by
  w_top off
  unfold rowP
  cases e : (follows ar us && nm == title) with
  | true => exact @decide_eq_true _ (Classical.propDecidable _) ⟨a, nm, ar, d, rfl, r, e⟩
  | false =>
    refine @decide_eq_false _ (Classical.propDecidable _) ?_
    rintro ⟨a', nm', ar', d', q, r', e'⟩
    obtain rfl := Value.ref.inj q
    obtain ⟨rfl, rfl, -⟩ := r.inj r'
    rw [e] at e'; cases e'
theorem rows_filter {h : Heap} {title : Str} {us : List Str} {rts : List Addr} {its : List It} (R : RowsAt h rts its) : ∃ rts', (refs rts).filter (rowP h title us) = refs rts' ∧ ∀ h', RowsAt h' rts its → RowsAt h' rts' (its.filter (meets title us)) := by
  induction R with
  | nil => exact ⟨[], rfl, fun _ _ => .nil⟩
  | @cons a it as its r rs ih =>
    obtain ⟨rts', e, rs'⟩ := ih
    have hp : rowP h title us (.ref a) = meets title us it := rowP_is r
    show ∃ rts', (Value.ref a :: refs as).filter (rowP h title us) = refs rts' ∧ _
    rw [List.filter_cons, List.filter_cons, hp, e]
    cases meets title us it with
    | true => exact ⟨a :: rts', rfl, fun h' q => by cases q with | cons q qs => exact .cons q (rs' h' qs)⟩
    | false => exact ⟨rts', rfl, fun h' q => by cases q with | cons q qs => exact rs' h' qs⟩
theorem rowsAt_mem {h : Heap} {rts : List Addr} {its : List It} (R : RowsAt h rts its) : ∀ v ∈ refs rts, ∃ a, ∃ it ∈ its, v = .ref a ∧ RowAt h a it.nm (it.us.map Up.nm) (deepOf it.us it.tab : Nat) := by
  induction R with
  | nil => intro v hv; cases hv
  | cons r _ ih =>
    intro v hv
    rcases List.mem_cons.mp hv with rfl | hv
    · exact ⟨_, _, .head _, rfl, r⟩
    · obtain ⟨a, it, hi, e, q⟩ := ih v hv
      exact ⟨a, it, .tail _ hi, e, q⟩
variable {its : List It} {kvs : List (Str × Value)} {title : Str} {us : List Str}
theorem names_one {it : It} {k : Nat} {b : Bool} {inner : List Str} {less : Int} (hx : isIx kvs title us = false) (hu : Str.ofString "" ∉ us) (h : its.filter (meets title us) = [it]) :
    refNames its kvs title us k b inner less = inner ++ (if (k : Int) = (deepOf it.us it.tab : Int) - less then [] else [title]) := by
  unfold refNames
  rw [hx, hits_meets hu, h]
  rfl
theorem names_not {k : Nat} {b : Bool} {inner : List Str} {less : Int} (hx : isIx kvs title us = false) (hu : Str.ofString "" ∉ us) (h : (its.filter (meets title us)).length ≠ 1) :
    refNames its kvs title us k b inner less = title :: inner := by
  unfold refNames
  rw [hx, hits_meets hu]
  match e : its.filter (meets title us), h with
  | [], _ => rfl
  | [x], h => exact absurd rfl h
  | x :: y :: r, _ => rfl
theorem ways_flat {root : Addr} {i : Nat} {up : List Up} (N : Names root i its up) (hk : ∀ q ∈ kvs, q.1 ∈ xNames) : ∀ {ws : List (Ex × List Str)}, (∀ y ∈ ws, y ∈ ways) → ((ws.map (·.1)).map (exNames its kvs)).flatten = (ws.map (·.2)).flatten
  | [], _ => rfl
  | y :: r, h => by
    simp only [List.map_cons, List.flatten_cons]
    rw [ways_names N hk y (h y (.head _)), ways_flat N hk fun z hz => h z (.tail _ hz)]
/-- the part's ends, with the names of their faults -/
noncomputable def ptEx : Option ((Ex × List Str) × Option (Ex × List Str)) → Option (Ex × Option Ex)
  | none => none
  | some (a, b) => some (a.1, b.map (·.1))
noncomputable def ptNm : Option ((Ex × List Str) × Option (Ex × List Str)) → List Str
  | none => []
  | some (a, none) => a.2
  | some (a, some b) => a.2 ++ b.2
noncomputable def ptOk (p : Option ((Ex × List Str) × Option (Ex × List Str))) : Prop := ∀ x, p = some x → x.1 ∈ ways ∧ ∀ y, x.2 = some y → y ∈ ways
theorem part_names {root : Addr} {i : Nat} {up : List Up} (N : Names root i its up) (hk : ∀ q ∈ kvs, q.1 ∈ xNames) {p : Option ((Ex × List Str) × Option (Ex × List Str))} (h : ptOk p) : partNames its kvs (ptEx p) = ptNm p := by
  match p, h with
  | none, _ => rfl
  | some (a, none), h => exact ways_names N hk a (h _ rfl).1
  | some (a, some b), h =>
    show exNames its kvs a.1 ++ exNames its kvs b.1 = a.2 ++ b.2
    rw [ways_names N hk a (h _ rfl).1, ways_names N hk b ((h _ rfl).2 _ rfl)]
theorem pt_ok {p : Option ((Ex × List Str) × Option (Ex × List Str))} (h : ptOk p) : ∀ x, ptEx p = some x → x.1.ok ∧ ∀ y, x.2 = some y → y.ok := by
  intro x hx
  match p, h with
  | none, _ => cases hx
  | some (a, none), h =>
    cases hx
    exact ⟨ways_ok a (h _ rfl).1, fun y hy => nomatch hy⟩
  | some (a, some b), h =>
    cases hx
    refine ⟨ways_ok a (h _ rfl).1, fun y hy => ?_⟩
    cases hy
    exact ways_ok b ((h _ rfl).2 _ rfl)
theorem inner_names {root : Addr} {i : Nat} {up : List Up} (N : Names root i its up) (hk : ∀ q ∈ kvs, q.1 ∈ xNames) {ws : List (Ex × List Str)} (hw : ∀ y ∈ ws, y ∈ ways) {p : Option ((Ex × List Str) × Option (Ex × List Str))} (h : ptOk p) :
    innerNames its kvs (ws.map (·.1)) (ptEx p) = (ws.map (·.2)).flatten ++ ptNm p := by
  unfold innerNames
  rw [ways_flat N hk hw, part_names N hk h]
/-- a name of an index, standing alone -/
theorem ix_in {q : Str × Value} (hq : q ∈ kvs) : isIx kvs q.1 [] = true := by
  unfold isIx hasIx valueAt
  rw [Option.isSome_map]
  show (true && (kvs.find? _).isSome) = true
  rw [Bool.true_and, List.find?_isSome]
  exact ⟨q, hq, by simp⟩
theorem ix_names {q : Str × Value} (hq : q ∈ kvs) {k : Nat} {inner : List Str} : refNames its kvs q.1 [] k false inner 0 = if k = 0 then [] else [q.1] := by
  unfold refNames
  rw [if_pos (ix_in hq)]
  by_cases e : k = 0
  · rw [if_pos (by simp [e]), if_pos e]
  · rw [if_neg (by simp [e]), if_neg e]
/-- two lists of the same names -/
theorem ne_same {prog : Program} {w : World} {A : Around} {E : Value → Shared → Prop} {s : Shared} {Q : Value → Shared → Prop} {a b : Addr} {xs ys : List Value} {ns : List Str} (hl : Lst s.heap a xs) (hb : Lst s.heap b ys) (hx : StrsAre xs ns) (hy : StrsAre ys ns) (hu : A.units < cLine) (h : Q (.bool false) s) :
    wpAny (model prog w) A (compareOp .NotEq (.ref a) (.ref b)) Q E s := by
  have e1 := hx.len_eq
  have e2 := hy.len_eq
  refine cmp_ofNotEq (PySem.SeqAt.RcNeAt.lists (e := fun _ => true) hl.isList hb.isList (by simp [e1, e2]) hu (fun j h1 h2 => ?_) prog w E Q ?_)
  · have h1' : j < xs.length := by simpa using h1
    have h2' : j < ys.length := by simpa using h2
    have h3 : j < ns.length := by (walk_at "M om")
    obtain ⟨t1, q1⟩ := strs_at hx (List.getElem?_eq_getElem h3)
    obtain ⟨t2, q2⟩ := strs_at hy (List.getElem?_eq_getElem h3)
    rw [List.getElem?_eq_getElem h1'] at q1
    rw [List.getElem?_eq_getElem h2'] at q2
    have r1 : xs.toArray[j] = .str ns[j] t1 := by simpa using q1
    have r2 : ys.toArray[j] = .str ns[j] t2 := by simpa using q2
    rw [r1, r2]
    have := PySem.SeqAt.EqAt.str_str (A := A.in1) (s := s) ns[j] t1 ns[j] t2
    rwa [show (ns[j] == ns[j]) = true by simp] at this
  · rw [show (!(List.range xs.toArray.size).all fun _ => true) = false by simp]; exact h
end
section
theorem faults_names {tps : List (Addr × Obj)} {h : Heap} (H : Holds h tps) {vs : List Value} {ns : List Str} (F : FaultsIn tps vs ns) : ∀ {ys : List Value},
    Paired (fun v y => ∃ a x nm t k, v = .ref a ∧ (a, tupObj x (.str nm t) k) ∈ tps ∧ y = .str nm t) vs ys → StrsAre ys ns := by
  induction F with
  | nil => intro ys h; cases h; exact .nil
  | cons m _ ih =>
    intro ys h
    cases h with
    | cons h1 h2 =>
      obtain ⟨a, x, nm, t, k, e, m', rfl⟩ := h1
      obtain rfl := Value.ref.inj e
      have e1 := H _ m
      have e2 := H _ m'
      rw [e1] at e2
      have e3 := Option.some.inj e2
      simp only [tupObj, Obj.mk.injEq, Data.seq.injEq, true_and, and_true] at e3
      have e4 := congrArg Array.toList e3.1
      simp only [List.cons.injEq, Value.str.injEq, and_true] at e4
      rw [e4.2.1]
      exact .cons _ _ (ih h2)
theorem faults_mem {tps : List (Addr × Obj)} {vs : List Value} {ns : List Str} (F : FaultsIn tps vs ns) : ∀ v ∈ vs, ∃ a x nm t k, v = .ref a ∧ (a, tupObj x (.str nm t) k) ∈ tps := by
  induction F with
  | nil => intro v hv; cases hv
  | cons m _ ih =>
    intro v hv
    rcases List.mem_cons.mp hv with rfl | hv
    · exact ⟨_, _, _, _, _, rfl, m⟩
    · exact ih v hv
end
end T_P2
section T_M3
set_option maxHeartbeats 1000000
set_option maxRecDepth 100000
section
variable {w : World} {A : Around} {base : Heap} {mean : ExcName → Option Value} {mg mb : Str → Option Value} {s : Shared} {n : Nat} {E : Value → Shared → Prop} {Q : Value → Shared → Prop} {env : Env} {L : Addr} {m : Str → Option Value}
theorem ambF_law (M : Amb w A base [] mean mg mb base (n + 1)) (F : Fr base L s.heap m) (hf : env.frame = some L) (hk : env.scope.kind = .function) : AmbF w (A.deeper env) (cut s.heap [L]) [env] mean mg mb s.heap n := by
  w_top off
  have hL : base.get? L = none := by
    cases hq : base.get? L with
    | none => rfl
    | some o => exact absurd (Nat.lt_of_lt_of_le (Heap.lt_size hq) F.above) (Nat.lt_irrefl _)
  have gb : base.StaysIn (cut s.heap [L]) := stays_cut F.keep fun a ha => by rw [List.mem_singleton.mp ha]; exact hL
  have M' := Amb.innC M F hf hk
  obtain ⟨k1, ⟨L', o, hf', hn, ho, hd⟩, hr⟩ := M'.B.frames
  have e : L' = L := by rw [hf] at hf'; exact (Option.some.inj hf').symm
  subst e
  refine ⟨⟨M'.X, M'.T, ⟨M'.B.stack, cut_sub, ⟨k1, ⟨L', o, hf', cut_none (.head _), ho, hd⟩, trivial⟩⟩, M'.depth, M'.units⟩, M.X.keeps gb, M.T.keeps gb, ?_⟩
  intro a ha
  rw [fsOf_cons hf] at ha
  rcases List.mem_cons.mp ha with rfl | ha
  · obtain ⟨o, es, ep, ho, hd, _⟩ := F.ns
    exact ⟨o, ho, es, ep, hd⟩
  · exact nomatch ha
/-- ref_faults, called by the law -/
theorem ref_law {data root xd a q sb : Addr} {nm : Str} {tn : Tok} {us : List Str} {sv : List Value} {part : Value} {its : List It} {kvs : List (Str × Value)} {vals : List Value} {less : Int} {tl : Tok} {subs : List Ex} {pt : Option (Ex × Option Ex)} {news : List (Addr × Obj)}
   (hargs : (vals = [.ref data, .ref a] ∧ less = 0 ∧ tl = 536) ∨ vals = [.ref data, .ref a, .int less tl])
   (M : Amb w A base [] mean mg mb base 47) (hA : A.handled = none) (F : Fr base L s.heap m) (N : News base L s.heap news) (hf : env.frame = some L) (hk : env.scope.kind = .function)
   (D : DataAt (cut s.heap [L]) data root xd) (TR : Tree (cut s.heap [L]) root its) (I : Ix w (cut s.heap [L]) xd kvs) (RF : RefAt (cut s.heap [L]) a nm tn q sb us sv part) (hs : ExsAt (cut s.heap [L]) sv subs) (hp : PartAt (cut s.heap [L]) part pt)
   (hok : ∀ e ∈ subs, e.ok) (hpo : ∀ x, pt = some x → x.1.ok ∧ ∀ y, x.2 = some y → y.ok)
   (h : ∀ h' tk l vs k tps, Fr base L h' m → News base L h' ((l, listOf vs.toArray k) :: (news ++ tps)) → FaultsIn tps vs (refNames its kvs nm us subs.length pt.isSome (innerNames its kvs subs pt) less) → (∀ p ∈ news, @Ne Nat p.1 l) → (∀ q ∈ news, ∀ p ∈ tps, @Ne Nat p.1 q.1) → Q (.ref l) { s with heap := h', toks := tk }) :
   wpAny (model PR w) (A.deeper env) (call (.ref 264) vals) Q E s := by
  have hL : base.get? L = none := by
    cases hq : base.get? L with
    | none => rfl
    | some o => exact absurd (Nat.lt_of_lt_of_le (Heap.lt_size hq) F.above) (Nat.lt_irrefl _)
  have MF := ambF_law (s := s) M F hf hk
  refine wpAny_callA (ref_any (less := less) (tl := tl) (args := ⟨vals, []⟩) ?_ MF (HOK.none hA) D TR I RF hs hp hok hpo fun h' tk l vs k tps U G => ?_)
  · rcases hargs with ⟨rfl, h1⟩ | rfl
    · exact .inl ⟨rfl, h1⟩
    · exact .inr rfl
  rw [fsOf_cons hf] at U
  have hU : ∀ b o, b ≠ L → s.heap.get? b = some o → h'.get? b = some o := fun b o hb e => U.1 b o e fun hm => (List.mem_cons.mp hm).elim hb fun hm => nomatch hm
  refine h h' tk l vs k tps ⟨U.ns F.ns, fun b o e => hU b o (fun z => by rw [z, hL] at e; cases e) (F.keep b o e), F.above⟩ ?_ G.faults ?_ ?_
  · intro p hp
    rcases List.mem_cons.mp hp with rfl | hp
    · exact news_new F G.at_ G.new _ (.head _)
    · rcases List.mem_append.mp hp with hp | hp
      · exact ⟨hU _ _ (N p hp).2.1 (N p hp).1, (N p hp).2⟩
      · exact news_new F (G.pairs p hp).1 (G.pairs p hp).2.1 _ (.head _)
  · intro p hp e
    have h1 := (N p hp).1
    have e' : p.1 = l := e
    rw [e', G.new] at h1; cases h1
  · intro q hq p hp e
    have h1 := (N q hq).1
    have e' : p.1 = q.1 := e
    rw [← e', (G.pairs p hp).2.1] at h1; cases h1
end
section
variable {w : World} {prog : Program} {A : Around} {E : Value → Shared → Prop} {s : Shared} {env : Env} {h₀ : Heap} {x : Str} {body : List Stmt} {Q : Flow → Shared → Prop}
/-- a loop over a dict that the call has made and does not turn -/
theorem iter_dictK {K : Type} [DecidableEq K] {knd : KeyKind prog w K} {d : Addr} {oX : Obj} {kvs : List (K × Value)} {m₀ : Str → Option Value} {nx₀ : List (Addr × Obj)} (J : Nat → (Str → Option Value) → List (Addr × Obj) → Prop)
    (hh : A.handled = none) (lo : (d == sysModules) = false) (hd : s.heap.get? d = some oX) (ix : oX.IsDictOf knd kvs) (hb : h₀.get? d = none) (hLd : env.locals ≠ d) (F : Fr h₀ env.locals s.heap m₀) (N : News h₀ env.locals s.heap nx₀) (hna : ∀ p ∈ nx₀, p.1 ≠ d) (hj : J 0 m₀ nx₀)
    (turn : ∀ i k y key m₁ nx h tk own, kvs[i]? = some (k, y) → knd.is k key = true → OwnOff own (nx.map (·.1)) → (d, oX) ∈ own → J i m₁ nx → Fr h₀ env.locals h (fun z => if z = x then some key else m₁ z) → News h₀ env.locals h (nx ++ own) →
      wpAny (model prog w) A (execs body env) (InvPostG h₀ env.locals (J (i + 1)) own { s with heap := h, toks := tk } Q) E { s with heap := h, toks := tk })
    (done : ∀ m₁ nx h tk, J kvs.length m₁ nx → Fr h₀ env.locals h m₁ → News h₀ env.locals h nx → Q .next { s with heap := h, toks := tk }) :
    wpAny (model prog w) A (pyIter (.ref d)) (fun it s₂ => LoopAtV prog w A h₀ env x body Q E it s₂) E s := by
  obtain ⟨es, ep, i1, i2, i3, i4, i5⟩ := ix
  have hda : s.heap.DictAt knd d kvs ep := ⟨oX, es, hd, i1, i2, i3, i4, i5⟩
  have hlt : d < s.heap.objs.size := Heap.lt_size hd
  have hne : d ≠ s.heap.objs.size := Nat.ne_of_lt hlt
  refine wpAny_pyIter_dict lo hda ?_
  have W := Walks.dictKeys (prog := prog) (w := w) (A := A) (knd := knd) hh s.heap.objs.size d hne kvs ep
  have W2 : Walks prog w A s.heap.objs.size [s.heap.objs.size, d] [s.heap.objs.size] kvs.length (fun i v => ∃ k x, kvs[i]? = some (k, x) ∧ knd.is k v = true)
      (fun i h => (h.IsKeyIter s.heap.objs.size d i kvs.length ep ∧ h.DictAt knd d kvs ep) ∧ h.get? d = some oX) := {
    sub := W.sub
    frame := fun i h h' st hk => ⟨W.frame i h h' st.1 hk, hk d (mem1) _ st.2⟩
    item := fun i s Q E hi st hQ => W.item i s Q E hi st.1 fun v h' tk hP hst hk => hQ v h' tk hP ⟨hst, hk d _ (fun hm => hne (List.mem_singleton.mp hm)) st.2⟩ hk
    done := fun s Q E st hQ => W.done s Q E st.1 hQ
    self := fun a b c d st hQ => W.self a b c d st.1 hQ }
  refine ⟨_, _, _, _, _, _, m₀, nx₀, fun i m nx => (∀ p ∈ nx, p.1 ≠ d) ∧ J i m nx, rfl, W2, ?_, ?_, ?_,
    ⟨⟨⟨_, Heap.get?_push_size _ rfl, rfl, rfl⟩, hda.at' fun o e => Heap.get?_push_of_some _ e⟩, Heap.get?_push_of_some _ hd⟩, F.push _, (fun p hp => ⟨Heap.get?_push_of_some _ (N p hp).1, (N p hp).2⟩), ⟨hna, hj⟩, ?_, ?_⟩
  · intro hm
    rcases List.mem_cons.mp hm with e | hm
    · exact absurd F.ns.lt (e ▸ Nat.lt_irrefl _)
    · exact hLd (List.mem_singleton.mp hm)
  · intro b hb
    rw [List.mem_singleton.mp hb]
    exact next_is_new F
  · intro p hp hI
    exact absurd (Heap.lt_size (N p hp).1) ((List.mem_singleton.mp hI) ▸ Nat.lt_irrefl _)
  · rintro i v m₁ news₁ s₁ own ⟨hh', tk', rfl⟩ hin ⟨k, y, hk, hkey⟩ ⟨hax, hJ⟩ hoff hown hat hmem hst F₁ N₁
    have hsep : OwnOff own (news₁.map (·.1)) := by
      intro p hp b hb e
      obtain ⟨q, hq, rfl⟩ := List.mem_map.mp hb
      rcases List.mem_cons.mp (hown p hp) with h1 | h1
      · exact hoff q hq (List.mem_singleton.mpr (e ▸ h1))
      · exact hax q hq (e ▸ List.mem_singleton.mp h1)
    have hdo : (d, oX) ∈ own := hmem d (mem1) hb oX hst.2
    have N₂ : News h₀ env.locals hh' (news₁ ++ own) := fun p hp => N₁ p ((List.mem_append.mp hp).elim (fun h => List.mem_append.mpr (.inr h)) fun h => List.mem_append.mpr (.inl h))
    refine wpAny_mono (turn i k y v m₁ news₁ hh' tk' own hk hkey hsep hdo hJ F₁ N₂) (fun f s₂ p => ?_) fun _ _ e => e
    have fin : InvEndG h₀ env.locals (J (i + 1)) own { s with heap := hh', toks := tk' } s₂ → LoopStepU h₀ env.locals [s.heap.objs.size] own (fun m nx => (∀ p ∈ nx, p.1 ≠ d) ∧ J (i + 1) m nx) { s with heap := hh', toks := tk' } .next s₂ := by
      rintro ⟨h', tk, m', news', nx, e, F', N', hn, ho, ha, hm⟩
      have hI' : ∃ o, (s.heap.objs.size, o) ∈ own := by
        obtain ⟨⟨⟨o, h0, _⟩, _⟩, _⟩ := hst
        exact ⟨o, hmem _ (.head _) (next_is_new F) o h0⟩
      refine ⟨rfl, h', tk, m', nx, e, F', fun p hp => N' p ((List.mem_append.mp hp).elim (ho p) (hn p)), fun p hp hq => ?_, fun p hp hq => ?_, hm⟩
      · obtain ⟨o, hI'⟩ := hI'
        exact ha _ hI' p.1 (List.mem_map.mpr ⟨p, hp, rfl⟩) (List.mem_singleton.mp hq).symm
      · exact ha _ hdo p.1 (List.mem_map.mpr ⟨p, hp, rfl⟩) hq.symm
    cases f with
    | ret v => exact .ret p
    | brk => exact .brk p
    | next => exact .next (fin p)
    | cont => exact .cont (fin p)
  · rintro h' tk m' news' F' N' _ ⟨_, hJ⟩
    exact done m' news' h' tk hJ F' N'
end
/-- behind the part: the reference's pieces stand -/
structure PartD (m : Str → Option Value) (nx : List (Addr × Obj)) (hand csA x rl sl : Addr) (less : Int) (tls : Tok) (base2 : List (Addr × Obj)) (pc : Int) (p sd : Int) (t1 t2 : Tok) (k3 : Nat) (wr : Addr) (ks kw : Nat) (subs wrs : List Value) (ws : List (Ex × List Str)) (tps : List (Addr × Obj)) (pv : Value) (pt : Option ((Ex × List Str) × Option (Ex × List Str))) : Prop where
  eq : nx = (hand, handObj csA p sd t1 t2 k3) :: (sl, listOf subs.toArray ks) :: (wr, listOf wrs.toArray kw) :: (base2 ++ tps)
  m1 : m (Str.ofString "data") = some (.ref x)
  m2 : m (Str.ofString "rows") = some (.ref rl)
  m3 : m (Str.ofString "less") = some (.int less tls)
  m4 : m (Str.ofString "subscripts") = some (.ref sl)
  m5 : m (Str.ofString "wrongs") = some (.ref wr)
  m6 : m (Str.ofString "part") = some pv
  exs : ∀ h, Holds h tps → ExsAt h subs (ws.map (·.1)) ∧ PartAt h pv (ptEx pt)
  nms : StrsAre wrs ((ws.map (·.2)).flatten ++ ptNm pt)
  ok : ptOk pt
  few : wrs.length ≤ 6
  p0_ : 0 ≤ p
  p1_ : p ≤ pc + 7
  s0_ : 0 ≤ sd
  s1_ : sd < 4294967296
inductive PartJ (s1 : Shared) (hand csA x rl sl : Addr) (less : Int) (tls : Tok) (base2 : List (Addr × Obj)) (pc : Int) (ks : Nat) (subs : List Value) (ws : List (Ex × List Str)) (s' : Shared) : Prop
  | mk (h' : Heap) (tk' : Tok) (m' : Str → Option Value) (nx : List (Addr × Obj)) (p' sd' : Int) (t1' t2' : Tok) (k3' : Nat) (wr' : Addr) (kw' : Nat) (wrs' : List Value) (tps' : List (Addr × Obj)) (pv : Value) (pt : Option ((Ex × List Str) × Option (Ex × List Str)))
    (e : s' = { s1 with heap := h', toks := tk' }) (F : Fr s1.heap s1.heap.objs.size h' m') (N : News s1.heap s1.heap.objs.size h' nx) (h : PartD m' nx hand csA x rl sl less tls base2 pc p' sd' t1' t2' k3' wr' ks kw' subs wrs' ws tps' pv pt) : PartJ s1 hand csA x rl sl less tls base2 pc ks subs ws s'
inductive DueJ (s1 : Shared) (mm : Addr → Str → Option Value) (rest : List (Addr × Obj)) (names : List Str) (s' : Shared) : Prop
  | mk (h' : Heap) (tk' : Tok) (dA : Addr) (dk : Nat) (dvs : List Value) (e : s' = { s1 with heap := h', toks := tk' }) (F : Fr s1.heap s1.heap.objs.size h' (mm dA)) (N : News s1.heap s1.heap.objs.size h' ((dA, listOf dvs.toArray dk) :: rest)) (hd : StrsAre dvs names) : DueJ s1 mm rest names s'
theorem mem_ins {α : Type} {z p : α} {A B C : List α} (h : z ∈ A ++ (p :: B)) (hp : p ∈ C) (hr : ∀ z, z ∈ A ++ B → z ∈ C) : z ∈ C := by
  rcases List.mem_append.mp h with h | h
  · exact hr z (List.mem_append_left _ h)
  · rcases List.mem_cons.mp h with rfl | h
    · exact hp
    · exact hr z (List.mem_append_right _ h)
theorem title_ok {t : Str} (h : t ∈ ([(Str.ofString "L0"), (Str.ofString "G0"), (Str.ofString "S"), (Str.ofString "L1"), (Str.ofString "G1"), (Str.ofString "L2"), (Str.ofString "G2"), (Str.ofString "R"), (Str.ofString "N"), (Str.ofString "Q")] : List Str)) : t.length ≤ 100 ∧ t ∉ xNames := by
  revert t
  decide +kernel
theorem quals_ok {us : List Str} (h : ∀ u ∈ us, u ∈ ([(Str.ofString "R"), (Str.ofString "G0"), (Str.ofString "G1"), (Str.ofString "G2")] : List Str)) : Str.ofString "" ∉ us := fun hm => by
  have := h _ hm
  revert this
  decide +kernel
theorem news_cut {b h : Heap} {L : Addr} {news : List (Addr × Obj)} (N : News b L h news) : Holds (cut h [L]) news := fun p hp => (cut_of (notin1 (N p hp).2.1)).trans (N p hp).1
theorem ptEx_some {p : Option ((Ex × List Str) × Option (Ex × List Str))} : (ptEx p).isSome = p.isSome := by
  cases p with
  | none => rfl
  | some x => rfl
theorem refNames_le {its : List It} {kvs : List (Str × Value)} {nm : Str} {us : List Str} {k : Nat} {b : Bool} {inner : List Str} {less : Int} : (refNames its kvs nm us k b inner less).length ≤ inner.length + 1 := by
  unfold refNames
  split
  · split
    · exact Nat.zero_le _
    · exact Nat.le_add_left _ _
  · split
    · rw [List.length_append]
      split
      · exact Nat.le_succ _
      · exact Nat.le_refl _
    · exact Nat.le_refl _
/-- a table, and the rest of the ledger -/
theorem holds_off {g h : Heap} {L d : Addr} {G : List (Addr × Obj)} {oX : Obj} (N : News g L h G) (hX : (d, oX) ∈ G) : ∀ h', Holds h' (G.filter fun p => p.1 != d) → h'.get? d = some oX → Holds h' G := by
  intro h' hh e p hp
  by_cases c : p.1 = d
  · have h1 := (N p hp).1
    have h2 := (N _ hX).1
    rw [c, h2] at h1
    have h3 : oX = p.2 := Option.some.inj h1
    rw [c, e, h3]
  · exact hh p (List.mem_filter.mpr ⟨hp, by simpa using c⟩)
theorem xn_len {t : Str} (h : t ∈ xNames) : t.length ≤ 100 := by
  revert t
  decide +kernel
theorem item1 {w : World} {A : Around} {E : Value → Shared → Prop} {s : Shared} {Q : Value → Shared → Prop} {value slice : PySem.Expr} {t : Addr} {vs : List Value} {u : Tok} {x y : Value} (ht : IsTup s.heap t (x :: y :: vs).toArray) (h : Q y s)
    (hs : subscripted slice false (.ref t) (.int 1 u) = operate [.ref t, .int 1 u] (getItem (.ref t) (.int 1 u)) := by with_unfolding_all rfl) :
    wpAny (model PR w) A (subscriptTail value slice (.ref t) (.int 1 u)) Q E s := item_tupleM (k := 1) ht (by decide) rfl h hs
end T_M3
section T_LJ
set_option maxHeartbeats 0
set_option maxRecDepth 100000
local macro_rules | `(tactic| walk_at "M d") => `(tactic| skip)
local macro_rules | `(tactic| walk_at "M subs") => `(tactic| first | exact List.forall_mem_nil _ | (refine' allCons ?_ ?_; k_mem; walk_at "M subs") | walk_at "M sub")
theorem paired_ints {p : Value → Bool} : ∀ {vs ys : List Value}, Paired (fun (_ : Value) y => ∃ n t, y = Value.int n t) vs ys → ∃ ns, IntsAre ys ns
  | [], _, h => by cases h; exact ⟨[], .nil⟩
  | v :: r, _, h => by
    cases h with
    | cons h1 h2 =>
      obtain ⟨n, t, rfl⟩ := h1
      obtain ⟨ns, i⟩ := paired_ints (p := p) h2
      exact ⟨n :: ns, .cons n t i⟩
local macro_rules | `(tactic| k_ne) => `(tactic| (refine neN ?_; (try dsimp only); first | with_reducible assumption | exact Ne.symm (by with_reducible assumption) | exact Apart.ne (by with_reducible assumption) | exact Apart.en (by with_reducible assumption) | exact Nat.ne_of_lt (by with_reducible assumption) | exact Nat.ne_of_gt (by with_reducible assumption) | walk_at "M cj" | ((repeat ((with_reducible rename @Ne _ _ _ => kNz); clear kNz)); omega)))
local macro_rules | `(tactic| walk_at "exec If") => `(tactic| refine wpAny_If ?_)
theorem notin3 {a b c d : Addr} (h : @Ne Nat a b) (h' : @Ne Nat a c) (h'' : @Ne Nat a d) : a ∉ [b, c, d] := fun m => (List.mem_cons.mp m).elim h fun m => (List.mem_cons.mp m).elim h' fun m => h'' (List.mem_singleton.mp m)
theorem rec_back {w : World} {b h h' : Heap} {L hand cells wl xd rl root : Addr} {m : Str → Option Value} {o q r oX : Obj} {rest tps : List (Addr × Obj)} {p0 p sd : Int} {its : List It} {kvs : List (Str × Value)} {t1 t2 : Tok} {k3 : Nat} {rts : List Addr} {us : List Up}
   (F : Fr b L h m) (N : News b L h ((hand, o) :: (wl, q) :: (xd, r) :: rest)) (Rc : Recd w h h' hand cells wl xd rl p0 its kvs oX p sd t1 t2 k3 root rts us tps) (o1 : ∀ z ∈ rest, @Ne Nat z.1 hand) (o2 : ∀ z ∈ rest, @Ne Nat z.1 wl) (o3 : ∀ z ∈ rest, @Ne Nat z.1 xd) :
   Fr b L h' m ∧ News b L h' ((hand, handObj cells p sd t1 t2 k3) :: (xd, oX) :: (rest ++ tps)) ∧ ∀ z ∈ rest, ∀ y ∈ tps, @Ne Nat y.1 z.1 := by
  w_top off
  have n1 := N _ (.head _)
  have n2 := N _ (mem1)
  have n3 := N _ (mem2)
  obtain ⟨ob, es, ep, ho, rr⟩ := F.ns
  have F' : Fr b L h' m := ⟨⟨ob, es, ep, Rc.stays _ _ (Ne.symm n1.2.1) (Ne.symm n2.2.1) (Ne.symm n3.2.1) ho, rr⟩, fun c x e => Rc.stays c x (fun z => by rw [z, n1.2.2] at e; cases e) (fun z => by rw [z, n2.2.2] at e; cases e) (fun z => by rw [z, n3.2.2] at e; cases e) (F.keep c x e), F.above⟩
  refine ⟨F', ?_, ?_⟩
  · intro z hz
    rcases List.mem_cons.mp hz with rfl | hz
    · exact ⟨Rc.hand_, n1.2⟩
    · rcases List.mem_cons.mp hz with rfl | hz
      · exact ⟨Rc.xd_, n3.2⟩
      · rcases List.mem_append.mp hz with hz | hz
        · have nz := N z (memT3 hz)
          exact ⟨Rc.stays _ _ (o1 z hz) (o2 z hz) (o3 z hz) nz.1, nz.2⟩
        · rcases (Rc.fresh z hz).1 with e | e
          · exact ⟨Rc.holds z hz, by rw [e]; exact n2.2⟩
          · exact news_new F (Rc.holds z hz) e _ (.head _)
  · intro z hz y hy e
    have e' : y.1 = z.1 := e
    rcases (Rc.fresh y hy).1 with c | c
    · exact o2 z hz (e'.symm.trans c)
    · have nz := (N z (memT3 hz)).1
      rw [← e', c] at nz; cases nz
/-- what stands from the record on -/
structure Stands (w : World) (h : Heap) (x root xd rl csA : Addr) (its : List It) (kvs : List (Str × Value)) (rts : List Addr) (cs : List Value) : Prop where
  data : DataAt h x root xd
  tree : Tree h root its
  ix : Ix w h xd kvs
  rows : Lst h rl (refs rts)
  each : RowsAt h rts its
  cells : Lst h csA cs
noncomputable def titles : List Str := [(Str.ofString "L0"), (Str.ofString "G0"), (Str.ofString "S"), (Str.ofString "L1"), (Str.ofString "G1"), (Str.ofString "L2"), (Str.ofString "G2"), (Str.ofString "R"), (Str.ofString "N"), (Str.ofString "Q")]
noncomputable def quals4 : List Str := [(Str.ofString "R"), (Str.ofString "G0"), (Str.ofString "G1"), (Str.ofString "G2")]
theorem item_menu {prog : Program} {w : World} {A : Around} {E : Value → Shared → Prop} {s : Shared} {Q : Value → Shared → Prop} {value slice : PySem.Expr} {t : Addr} {vs : List Value} {names : List Str} {r : Int} {u : Tok} (ht : IsTup s.heap t vs.toArray) (hst : StrsAre vs names) (h0 : 0 ≤ r) (h1 : r < names.length) (hz : names.length < 100)
    (h : ∀ nm tk, nm ∈ names → Q (.str nm tk) s)
    (hs : ∀ k : Nat, subscripted slice false (.ref t) (.int (k : Int) u) = operate [.ref t, .int (k : Int) u] (getItem (.ref t) (.int (k : Int) u))) : wpAny (model prog w) A (subscriptTail value slice (.ref t) (.int r u)) Q E s := by
  obtain ⟨k, rfl⟩ : ∃ k : Nat, r = (k : Int) := ⟨r.toNat, by (walk_at "M om")⟩
  have hk : k < names.length := by (walk_at "M om")
  obtain ⟨tk, e⟩ := strs_at hst (List.getElem?_eq_getElem hk)
  exact item_tupleM ht (by (walk_at "M om")) e (h _ _ (List.getElem_mem hk)) (hs k)
/-- between two laps -/
structure LapAt (i : Nat) (m : Str → Option Value) (nx : List (Addr × Obj)) (hand csA x rl L : Addr) (oH : Obj) (G : List (Addr × Obj)) (p sd : Int) (t1 t2 : Tok) (k3 : Nat) (oT oQ : Obj) (vT vQ : Option Value) : Prop where
  eq : nx = (hand, handObj csA p sd t1 t2 k3) :: (L + 1 + 1 + 1, oQ) :: (L + 1 + 1, oT) :: (L + 1, oH) :: G
  m1 : m (Str.ofString "data") = some (.ref x)
  m2 : m (Str.ofString "rows") = some (.ref rl)
  cT : oT.data = .cell vT
  cQ : oQ.data = .cell vQ
  p0_ : 0 ≤ p
  p1_ : p ≤ 7 + 20 * i
  s0_ : 0 ≤ sd
  s1_ : sd < 4294967296
theorem pushed_none {h : Heap} {o : Obj} {D : Addr} (e : (h.push o).get? D = none) : h.get? D = none := by
  cases q : h.get? D with
  | none => rfl
  | some x => rw [Heap.get?_push_of_some _ q] at e; cases e
local macro_rules | `(tactic| walk_at "newList") => `(tactic| (k_here; k_dflt (apply newListS; k_asm; k_asm; rotate_left; (show _ ≤ sizeLine; rw [sizeLine_eq]; exact Nat.le_of_ble_eq_true rfl); k_whole); intro l' h' st' F' N' l1; clear st'; (try k_lt l1); (try k_sweep)))
theorem ExsAt.snoc {g : Heap} {v : Value} {e : Ex} {vs : List Value} {es : List Ex} (a : ExsAt g vs es) (h : ExAt g v e) : ExsAt g (vs ++ [v]) (es ++ [e]) := by
  induction a with
  | nil => exact .cons h .nil
  | cons a _ ih => exact .cons a ih
theorem strs_app {xs ys : List Value} {ns ms : List Str} (a : StrsAre xs ns) (h : StrsAre ys ms) : StrsAre (xs ++ ys) (ns ++ ms) := by
  induction a with
  | nil => exact h
  | cons n t _ ih => exact .cons n t ih
theorem ways_short : ∀ x ∈ ways, x.2.length ≤ 1 := by
  intro x hx
  unfold ways at hx
  simp only [List.mem_cons, List.not_mem_nil, or_false] at hx
  rcases hx with rfl | rfl | rfl | rfl | rfl <;> decide
/-- the subscripts in the making -/
structure SubAt (j : Nat) (m : Str → Option Value) (nx : List (Addr × Obj)) (hand csA x rl sl : Addr) (less : Int) (tls : Tok) (base2 : List (Addr × Obj)) (pc : Int) (p sd : Int) (t1 t2 : Tok) (k3 : Nat) (wr : Addr) (ks kw : Nat) (subs wrs : List Value) (ws : List (Ex × List Str)) (tps : List (Addr × Obj)) : Prop where
  eq : nx = (hand, handObj csA p sd t1 t2 k3) :: (sl, listOf subs.toArray ks) :: (wr, listOf wrs.toArray kw) :: (base2 ++ tps)
  m1 : m (Str.ofString "data") = some (.ref x)
  m2 : m (Str.ofString "rows") = some (.ref rl)
  m3 : m (Str.ofString "less") = some (.int less tls)
  m4 : m (Str.ofString "subscripts") = some (.ref sl)
  m5 : m (Str.ofString "wrongs") = some (.ref wr)
  exs : ∀ h, Holds h tps → ExsAt h subs (ws.map (·.1))
  nms : StrsAre wrs ((ws.map (·.2)).flatten)
  ok : ∀ y ∈ ws, y ∈ ways
  len : ws.length = j
  few : wrs.length ≤ j
  p0_ : 0 ≤ p
  p1_ : p ≤ pc + j
  s0_ : 0 ≤ sd
  s1_ : sd < 4294967296
  of1 : ∀ q ∈ tps, @Ne Nat q.1 hand
  of2 : ∀ q ∈ tps, @Ne Nat q.1 sl
  d1 : @Ne Nat sl hand
  d2 : @Ne Nat wr hand
  d3 : @Ne Nat wr sl
local macro_rules | `(tactic| walk_at "call builtin:list.append") => `(tactic| (k_here; k_dflt (apply append_K; k_asm; k_asm; k_upd; rotate_left; (simp only [List.size_toArray]; rw [sizeLine_eq]; first | assumption | (walk_at "M om")); k_whole); intro h' F' N'; (try k_sweep)))
inductive LapJ (hand csA x rl L : Addr) (oH : Obj) (G : List (Addr × Obj)) (i : Nat) (m : Str → Option Value) (nx : List (Addr × Obj)) : Prop
  | mk (p sd : Int) (t1 t2 : Tok) (k3 : Nat) (oT oQ : Obj) (vT vQ : Option Value) (h : LapAt i m nx hand csA x rl L oH G p sd t1 t2 k3 oT oQ vT vQ) : LapJ hand csA x rl L oH G i m nx
inductive SubJ (hand csA x rl sl : Addr) (less : Int) (tls : Tok) (base2 : List (Addr × Obj)) (pc : Int) (j : Nat) (m : Str → Option Value) (nx : List (Addr × Obj)) : Prop
  | mk (p sd : Int) (t1 t2 : Tok) (k3 : Nat) (wr : Addr) (ks kw : Nat) (subs wrs : List Value) (ws : List (Ex × List Str)) (tps : List (Addr × Obj)) (h : SubAt j m nx hand csA x rl sl less tls base2 pc p sd t1 t2 k3 wr ks kw subs wrs ws tps) : SubJ hand csA x rl sl less tls base2 pc j m nx
inductive QualJ (csA : Addr) (p : Int) (quals : List Str) (i : Nat) (ys : List Value) (o : Obj) : Prop
  | mk (q sd : Int) (t1 t2 : Tok) (k : Nat) (names : List Str) (e : o = handObj csA q sd t1 t2 k) (h1 : 0 ≤ q) (h2 : q ≤ p + 2 + i) (h3 : 0 ≤ sd) (h4 : sd < 4294967296) (h5 : StrsAre ys names) (h6 : names.length = i) (h7 : ∀ nm ∈ names, nm ∈ quals) : QualJ csA p quals i ys o
local macro_rules | `(tactic| walk_at "M inst") => `(tactic| assumption)
theorem law_holds : Challenge.rw_pb0245_01.Holds := by
  refine hd ?_
  k_go0
  rename_i w0 s0 s1 mg mb GG YY fa o0 pm doc ho0 hg0 X XX VV GL TT BB TE TW x12 x11 MM x10 x9 hcd ns hs1 hl0 hlL hr1 hl2 x7 x6 sa vs x3 hL ra w1 r0 hI hr hc1 hc0 K0 hD h1 tk1 F c1 c2 c3 q1 q2 q3 N C
  have q1' : c1.data = .cell none := q1
  have q2' : c2.data = .cell none := q2
  have q3' : c3.data = .cell none := q3
  have T : Top hd.view_39 lso (ExcName.means s0.heap) mg mb s1.heap := TT
  have K : Below callerA s1.heap [] s1.heap := K0
  have M : Amb w0 callerA s1.heap [] (ExcName.means s0.heap) mg mb s1.heap 100 := ⟨X, T, K, by decide, by decide⟩
  clear GG YY XX VV GL BB TE TW MM hs1 hl0 hr1 hl2 ra w1 r0 hr hD K0 TT q1 q2 q3
  obtain ⟨m0, F⟩ : ∃ m0, Fr s1.heap s1.heap.objs.size h1 (upd [((Str.ofString "script"), .ref sa)] m0) := ⟨_, Fr.upd0 [((Str.ofString "script"), .ref sa)] F (allCons rfl (List.forall_mem_nil _))⟩
  clear C hcd ho0 hlL
  with_reducible refine post_gen ?_
  intro Q₀ hQ₀
  (repeat' ((fail_if_success (with_reducible show wpAny _ _ (call (Value.ref _) _ _) _ _ _)); (((fail_if_success (with_reducible show wpAny _ _ (exec (Stmt.While _ _ _ _) _) _ _ _)); (fail_if_success (with_reducible show wpAny _ _ (pyIter _) (fun it s₂ => LoopAtV _ _ _ _ _ _ _ _ _ it s₂) _ _)); (fail_if_success (with_reducible show wpAny _ _ (eval (Expr.ListComp _ _ _ _) _) _ _ _)); (fail_if_success (with_reducible show Exists _)))); first | (k_unfold; (try dsimp only)) | walk1 | (dsimp only; walk1) | fail "no step"))
  refine compM (L := s1.heap.objs.size) (h₀ := s1.heap) (fun _ => true) (fun v y => ∃ n t, y = .int n t) (HOK.none rfl) (by with_unfolding_all rfl) (by decide) (by rfl) (by decide) (by rfl) (by intro _; with_unfolding_all rfl) ?_
  (repeat' ((fail_if_success (with_reducible show wpAny _ _ (call (Value.ref _) _ _) _ _ _)); (((fail_if_success (with_reducible show wpAny _ _ (exec (Stmt.While _ _ _ _) _) _ _ _)); (fail_if_success (with_reducible show wpAny _ _ (pyIter _) (fun it s₂ => LoopAtV _ _ _ _ _ _ _ _ _ it s₂) _ _)); (fail_if_success (with_reducible show wpAny _ _ (eval (Expr.ListComp _ _ _ _) _) _ _ _)); (fail_if_success (with_reducible show Exists _)))); first | (k_unfold; (try dsimp only)) | walk1 | (dsimp only; walk1) | fail "no step"))
  rename Fr _ _ _ _ => F₁
  rename News _ _ _ _ => N₁
  rename IntsAre _ (List.take 50 ns) => hI1
  have hwl := hI1.length
  rw [List.length_take] at hwl
  refine ⟨_, _, _, _, rfl, Lst.isList ⟨_, N₁.get (.head _)⟩, by (walk_at "M om"), F₁, N₁, ?_, ?_, ?_⟩
  · intro C v s₃ m₃ E' hv hC hn' hm hk F₃ N₃
    exact tests_none ⟨rfl, _, _, rfl, fun _ _ e => e⟩
  · intro C v s₃ m₃ E' hv hp hC hn' hm hk F₃ N₃
    have hvi : ∃ n t, v = .int n t := by
      obtain ⟨j, hj, e⟩ := List.getElem_of_mem hv
      obtain ⟨n, t, q⟩ := ints_at hI1 hj
      rw [List.getElem?_eq_getElem hj, e] at q
      exact ⟨n, t, Option.some.inj q⟩
    obtain ⟨vn, vt, rfl⟩ := hvi
    clear hk
    (repeat' ((fail_if_success (with_reducible show wpAny _ _ (call (Value.ref _) _ _) _ _ _)); (((fail_if_success (with_reducible show wpAny _ _ (exec (Stmt.While _ _ _ _) _) _ _ _)); (fail_if_success (with_reducible show wpAny _ _ (pyIter _) (fun it s₂ => LoopAtV _ _ _ _ _ _ _ _ _ it s₂) _ _)); (fail_if_success (with_reducible show wpAny _ _ (eval (Expr.ListComp _ _ _ _) _) _ _ _)); (fail_if_success (with_reducible show Exists _)))); first | (k_unfold; (try dsimp only)) | walk1 | (dsimp only; walk1) | fail "no step"))
    all_goals first | exact ⟨_, _, rfl⟩ | exact ⟨_, _, rfl, fun _ _ e => e⟩
  · intro csA kA h₂ tk₂ cs F₂ N₂ hD hP
    obtain ⟨ns2, hI2⟩ := paired_ints (p := fun _ => true) hP
    have hcl : cs.length ≤ 50 := by
      have := Paired.length hP
      rw [List.filter_eq_self.mpr (fun _ _ => rfl)] at this
      (walk_at "M om")
    replace N₂ := news_sub N₂ (l' := (csA, _) :: (s1.heap.objs.size + 1 + 1 + 1, c1) :: (s1.heap.objs.size + 1 + 1, c2) :: (s1.heap.objs.size + 1, c3) :: []) (by walk_at "M subs")
    clear F₁ N₁ hI1 hP
    simp only [AllNe, and_true] at hD
    obtain ⟨-, hD1, hD2, hD3⟩ := hD
    dsimp only
    (repeat' ((fail_if_success (with_reducible show wpAny _ _ (call (Value.ref _) _ _) _ _ _)); (((fail_if_success (with_reducible show wpAny _ _ (exec (Stmt.While _ _ _ _) _) _ _ _)); (fail_if_success (with_reducible show wpAny _ _ (pyIter _) (fun it s₂ => LoopAtV _ _ _ _ _ _ _ _ _ it s₂) _ _)); (fail_if_success (with_reducible show wpAny _ _ (eval (Expr.ListComp _ _ _ _) _) _ _ _)); (fail_if_success (with_reducible show Exists _)))); first | (k_unfold; (try dsimp only)) | walk1 | (dsimp only; walk1) | fail "no step"))
    rename Fr _ _ _ _ => F₃
    rename News _ _ _ _ => N₃
    rename_i hand _ lh _ oH q4
    obtain ⟨lh0, lh1, lh2, lh3⟩ := lh
    have cA : s1.heap.objs.size + 1 < s1.heap.objs.size + 1 + 1 := Nat.lt_succ_self _
    have cC : s1.heap.objs.size + 1 + 1 < s1.heap.objs.size + 1 + 1 + 1 := Nat.lt_succ_self _
    have cB : s1.heap.objs.size + 1 < s1.heap.objs.size + 1 + 1 + 1 := Nat.lt_trans cA cC
    have hlen : (ns.length : Int) ≤ 63 := by (walk_at "M om")
    refine make_data (Amb.down (Amb.innC M F₃ rfl rfl) (by decide)) fun h₄ tk₄ x dx fd wl ll so xd es n kf oX ND => ?_
    have e1 := off_new N₃ ND.nx
    have e2 := off_new N₃ ND.nd
    have e3 := off_new N₃ (ND.fresh fd (.head _))
    have e4 := off_new N₃ (ND.fresh wl (mem1))
    have e5 := off_new N₃ (ND.fresh ll (mem2))
    have e7 := off_new N₃ (ND.fresh xd (mem4))
    have e11 := ne0 e1
    have e12 := ne1 e1
    have e13 := ne2 e1
    have e14 := ne3 e1
    have e15 := ne4 e1
    clear e1
    have e21 := ne0 e2
    have e22 := ne1 e2
    have e23 := ne2 e2
    have e24 := ne3 e2
    have e25 := ne4 e2
    clear e2
    have e31 := ne0 e3
    have e32 := ne1 e3
    have e33 := ne2 e3
    have e34 := ne3 e3
    have e35 := ne4 e3
    clear e3
    have e41 := ne0 e4
    have e42 := ne1 e4
    have e43 := ne2 e4
    have e44 := ne3 e4
    have e45 := ne4 e4
    clear e4
    have e51 := ne0 e5
    have e52 := ne1 e5
    have e53 := ne2 e5
    have e54 := ne3 e5
    have e55 := ne4 e5
    clear e5
    have e71 := ne0 e7
    have e72 := ne1 e7
    have e73 := ne2 e7
    have e74 := ne3 e7
    have e75 := ne4 e7
    clear e7
    obtain ⟨d1, d2⟩ := ND.off fd (.head _)
    obtain ⟨d3, d4⟩ := ND.off wl (mem1)
    obtain ⟨d5, d6⟩ := ND.off ll (mem2)
    obtain ⟨d7, d8⟩ := ND.off xd (mem4)
    have od := ND.order
    simp only [List.pairwise_cons, List.forall_mem_cons, List.not_mem_nil, false_implies, implies_true, and_true, List.Pairwise.nil] at od
    obtain ⟨⟨o1, o2, o3, o4⟩, ⟨o5, o6, o7⟩, ⟨o8, o9⟩, o10⟩ := od
    have xdx : @Ne Nat x dx := obj_ne ND.x_ ND.dx_ (fun e => by cases e)
    have F₄ := Fr.keeps F₃ ND.stays
    have N₄ := News.app (news_new F₃ ND.x_ ND.nx) (News.app (news_new F₃ ND.dx_ ND.nd) (News.app (news_new F₃ ND.fd_ (ND.fresh fd (.head _))) (News.app (news_new F₃ ND.wl_ (ND.fresh wl (mem1))) (News.app (news_new F₃ ND.ll_ (ND.fresh ll (mem2))) (News.app (news_new F₃ ND.xd_ (ND.fresh xd (mem4))) (News.grown N₃ ND.stays))))))
    dsimp only [List.cons_append, List.nil_append] at N₄
    have ED := ND.es_
    have hX := ND.ix
    have lf := ND.lf
    have lx := ND.lx
    clear ND F₃ N₃
    ((repeat ((with_reducible rename @Ne _ _ _ => kNz); (have kNa := Apart.mk' kNz); clear kNz)))
    (repeat' ((fail_if_success (with_reducible show wpAny _ _ (call (Value.ref _) _ _) _ _ _)); (((fail_if_success (with_reducible show wpAny _ _ (exec (Stmt.While _ _ _ _) _) _ _ _)); (fail_if_success (with_reducible show wpAny _ _ (pyIter _) (fun it s₂ => LoopAtV _ _ _ _ _ _ _ _ _ it s₂) _ _)); (fail_if_success (with_reducible show wpAny _ _ (eval (Expr.ListComp _ _ _ _) _) _ _ _)); (fail_if_success (with_reducible show Exists _)))); first | (k_unfold; (try dsimp only)) | walk1 | (dsimp only; walk1) | fail "no step"))
    rename Fr _ _ _ _ => F₅
    rename News _ _ _ _ => N₅
    have Fc : Fr s1.heap s1.heap.objs.size (cut _ [hand, wl, xd]) _ := cut_frame F₅ N₅ (S := [hand, wl, xd]) (allCons (⟨_, by k_mem⟩) (allCons (⟨_, by k_mem⟩) (allCons (⟨_, by k_mem⟩) (List.forall_mem_nil _))))
    refine wpAny_callA (record_code (dd := dx) (sd0 := 3 + (ns.length : Int)) (p := 0) (hand := hand) (data := x) (wl := wl) (xd := xd) rfl (Amb.down (Amb.innC M Fc rfl rfl) (by decide)) (instAt_cut (N₅ _ (.head _)).1 (N₅ _ (mem1)).1 (notin3 (by k_ne) (by k_ne) (by k_ne)) (notin3 (by k_ne) (by k_ne) (by k_ne))) ED
      (N₅ _ (mem3)).1 (N₅ _ (mem5)).1 hX lx (N₅ _ (mem6)).1
      ⟨kA, (cut_of (notin3 (by k_ne) (by k_ne) (by k_ne))).trans (N₅ _ (mem7)).1⟩ hI2 hcl (by decide) (by decide) (by (walk_at "M om")) (by (walk_at "M om")) (by k_ne) (by k_ne) (by k_ne)
      fun h₆ tk₆ rl its kvs oX' p₁ sd₁ t1 t2 k₃ root rts us tps Rc => ?_)
    clear Fc
    obtain ⟨F₆, N₆, O₆⟩ := rec_back (rest := [(csA, _), (s1.heap.objs.size + 1 + 1 + 1, c1), (s1.heap.objs.size + 1 + 1, c2), (s1.heap.objs.size + 1, oH), (x, _), (dx, _), (fd, _), (ll, _)]) F₅ (news_sub N₅ (by walk_at "M subs")) Rc (by k_all) (by k_all) (by k_all)
    clear F₅ N₅
    have P3 := nn1 O₆
    have P2 := nn2 O₆
    have P1 := nn3 O₆
    clear O₆
    obtain ⟨G, hG⟩ : ∃ G, G = (xd, oX') :: (csA, listOf cs.toArray kA) :: (x, instObj 162 dx) :: (dx, dictOf es n) :: (fd, dictOf [] kf) :: (ll, listOf (List.toArray []) 0) :: tps := ⟨_, rfl⟩
    have GS : ∀ h, Holds h G → Stands w0 h x root xd rl csA its kvs rts cs := by
      intro h hh
      subst hG
      obtain ⟨b1, b2, b3, b4⟩ := Rc.by_ h fun q hq => hh q (memT6 hq)
      refine ⟨⟨fd, wl, ll, instObj 162 dx, es, n, ⟨⟨hh (x, _) (by k_mem), rfl, rfl, hh (dx, _) (by k_mem)⟩, ED.files, ED.working, ED.linkage, ED.indexes, ⟨kf, hh (fd, _) (by k_mem)⟩, lf, b4, ⟨0, hh (ll, _) (by k_mem)⟩⟩⟩, b1, ⟨lx, Heap.dictOf_iff.mpr ⟨oX', hh (xd, _) (by k_mem), Rc.ix⟩⟩, b2, b3, ⟨kA, hh (csA, _) (by k_mem)⟩⟩
    have G0 : ∀ q ∈ G, @Ne Nat q.1 hand := by
      subst hG
      exact allCons (by k_ne) (allCons (by k_ne) (allCons (by k_ne) (allCons (by k_ne) (allCons (by k_ne) (allCons (by k_ne) (fun q hq => (Rc.fresh q hq).2.1))))))
    have G1 : ∀ q ∈ G, @Ne Nat q.1 (s1.heap.objs.size + 1) := by
      subst hG
      exact allCons (by k_ne) (allCons (by k_ne) (allCons (by k_ne) (allCons (by k_ne) (allCons (by k_ne) (allCons (by k_ne) P1)))))
    have G2 : ∀ q ∈ G, @Ne Nat q.1 (s1.heap.objs.size + 1 + 1) := by
      subst hG
      exact allCons (by k_ne) (allCons (by k_ne) (allCons (by k_ne) (allCons (by k_ne) (allCons (by k_ne) (allCons (by k_ne) P2)))))
    have G3 : ∀ q ∈ G, @Ne Nat q.1 (s1.heap.objs.size + 1 + 1 + 1) := by
      subst hG
      exact allCons (by k_ne) (allCons (by k_ne) (allCons (by k_ne) (allCons (by k_ne) (allCons (by k_ne) (allCons (by k_ne) P3)))))
    have n0 : @Ne Nat csA hand := by k_ne
    have n1 : @Ne Nat hand (s1.heap.objs.size + 1) := by k_ne
    have n2 : @Ne Nat hand (s1.heap.objs.size + 1 + 1) := by k_ne
    have n3 : @Ne Nat hand (s1.heap.objs.size + 1 + 1 + 1) := by k_ne
    have GX : (xd, oX') ∈ G := by rw [hG]; exact .head _
    have GI : (x, instObj 162 dx) ∈ G ∧ (dx, dictOf es n) ∈ G := by rw [hG]; exact ⟨by k_mem, by k_mem⟩
    have hix := Rc.ix
    have hkx := Rc.kx
    have hkl := Rc.kl_
    have hnm := Rc.names
    have hfw := Rc.few
    have hp0 := Rc.p0_
    have hp1 := Rc.p1_
    have hs0' := Rc.s0_
    have hs1' := Rc.s1_
    have N₇ := news_sub N₆ (l' := (hand, handObj csA p₁ sd₁ t1 t2 k₃) :: (s1.heap.objs.size + 1 + 1 + 1, c1) :: (s1.heap.objs.size + 1 + 1, c2) :: (s1.heap.objs.size + 1, oH) :: G) (by rw [hG]; exact allCons (by k_mem) (allCons (by k_mem) (allCons (by k_mem) (allCons (by k_mem) (allCons (by k_mem) (allCons (by k_mem) (allCons (by k_mem) (allCons (by k_mem) (allCons (by k_mem) (allCons (by k_mem) (fun q hq => memT2 (List.mem_append_right _ hq))))))))))))
    replace F₆ := Fr.upd0 [((Str.ofString "data"), _)] F₆ (allCons rfl (List.forall_mem_nil _))
    generalize hmm : (fun y => if y = (Str.ofString "data") then some (Value.ref x) else upd [((Str.ofString "script"), Value.ref sa)] m0 y) = mm at F₆
    have ix_ := ED.indexes
    clear N₆ Rc P1 P2 P3 hG ED lf hmm
    repeat (rename Apart _ _ => kz; clear kz)
    clear o1 o2 o3 o4 o5 o6 o7 o8 o9 o10
    ((repeat ((with_reducible rename @Ne _ _ _ => kNz); (have kNa := Apart.mk' kNz); clear kNz)))
    (repeat' ((fail_if_success (with_reducible show wpAny _ _ (call (Value.ref _) _ _) _ _ _)); (((fail_if_success (with_reducible show wpAny _ _ (exec (Stmt.While _ _ _ _) _) _ _ _)); (fail_if_success (with_reducible show wpAny _ _ (pyIter _) (fun it s₂ => LoopAtV _ _ _ _ _ _ _ _ _ it s₂) _ _)); (fail_if_success (with_reducible show wpAny _ _ (eval (Expr.ListComp _ _ _ _) _) _ _ _)); (fail_if_success (with_reducible show Exists _)))); first | (k_unfold; (try dsimp only)) | walk1 | (dsimp only; walk1) | fail "no step"))
    rename Fr _ _ _ _ => F₈
    rename News _ _ _ _ => N₈
    rename IsRange _ _ _ _ _ _ _ _ => hRg
    refine tbr_invG (n := 4) (LapJ hand csA x rl s1.heap.objs.size oH G) rfl hRg (by decide) (by decide) F₈ N₈ ⟨p₁, sd₁, _, _, _, _, _, _, _, ⟨rfl, rfl, rfl, q2', q1', hp0, by (walk_at "M om"), hs0', hs1'⟩⟩ ?_ ?_
    · rintro i lv tlv m₁ nx h tk own hk hoff ⟨p, sd, u1, u2, k3, oT, oQ, vT, vQ, hS⟩ F N
      with_reducible refine post_gen ?_
      intro QL hQL
      obtain rfl := hS.eq
      have hi4 : i < 4 := by
        obtain ⟨hlt, he⟩ := List.getElem?_eq_some_iff.mp hk
        simpa [rangeKs] using hlt
      replace F := Fr.upd [((Str.ofString "data"), _), ((Str.ofString "rows"), _)] F (allCons hS.m1 (allCons hS.m2 (List.forall_mem_nil _)))
      clear F₈ N₈
      dsimp only [List.cons_append] at N
      have T0 : ∀ q ∈ G ++ own, @Ne Nat q.1 hand := fun q hq => (List.mem_append.mp hq).elim (G0 q) fun hq => hoff q hq _ (.head _)
      have T1 : ∀ q ∈ G ++ own, @Ne Nat q.1 (s1.heap.objs.size + 1) := fun q hq => (List.mem_append.mp hq).elim (G1 q) fun hq => hoff q hq _ (mem3)
      have T2 : ∀ q ∈ G ++ own, @Ne Nat q.1 (s1.heap.objs.size + 1 + 1) := fun q hq => (List.mem_append.mp hq).elim (G2 q) fun hq => hoff q hq _ (mem2)
      have T3 : ∀ q ∈ G ++ own, @Ne Nat q.1 (s1.heap.objs.size + 1 + 1 + 1) := fun q hq => (List.mem_append.mp hq).elim (G3 q) fun hq => hoff q hq _ (mem1)
      have subG : ∀ q ∈ G, q ∈ G ++ own := fun q hq => List.mem_append_left _ hq
      have subO : ∀ q ∈ own, q ∈ G ++ own := fun q hq => List.mem_append_right _ hq
      generalize htl : G ++ own = tl at N T0 T1 T2 T3 subG subO
      have hcT := hS.cT
      have hcQ := hS.cQ
      have hSp0 := hS.p0_
      have hSp1 := hS.p1_
      have hSpb := pb hSp1 hi4
      have hSs0 := hS.s0_
      have hSs1 := hS.s1_
      ((repeat ((with_reducible rename @Ne _ _ _ => kNz); (have kNa := Apart.mk' kNz); clear kNz)))
      (repeat' ((fail_if_success (with_reducible show wpAny _ _ (call (Value.ref _) _ _) _ _ _)); (((fail_if_success (with_reducible show wpAny _ _ (exec (Stmt.While _ _ _ _) _) _ _ _)); (fail_if_success (with_reducible show wpAny _ _ (pyIter _) (fun it s₂ => LoopAtV _ _ _ _ _ _ _ _ _ it s₂) _ _)); (fail_if_success (with_reducible show wpAny _ _ (eval (Expr.ListComp _ _ _ _) _) _ _ _)); (fail_if_success (with_reducible show Exists _)))); first | (k_unfold; (try dsimp only)) | walk1 | (dsimp only; walk1) | fail "no step"))
      rename_i dT _ Fa Na lT
      have hG : ∀ h news, News s1.heap s1.heap.objs.size h news → (∀ q ∈ G, q ∈ news) → Stands w0 h x root xd rl csA its kvs rts cs := fun h news N hs => GS h (holds_of N hs)
      replace Na := news_sub Na (l' := (hand, _) :: (dT, _) :: (s1.heap.objs.size + 1 + 1 + 1, oQ) :: (s1.heap.objs.size + 1 + 1, oT) :: (s1.heap.objs.size + 1, oH) :: tl) (by walk_at "M subs")
      refine next_any (n := 96) M Fa Na (by k_all) rfl rfl (hG _ _ Na fun q hq => memT5 (subG q hq)).cells (by k_ne) hI2 hcl hSp0 (bd5 (to80 hSpb)) hSs0 hSs1 (by decide) (by decide) fun hb tkb r tr sd2 w1 w2 k4 Fb Nb st z1 z2 z3 z4 => ?_
      clear Fa Na st
      refine item_menu (names := titles) (News.isTup Nb (mem1)) (by repeat (first | exact .nil | refine .cons _ _ ?_)) z3 (Int.lt_of_lt_of_le z4 (by decide)) (by decide) (fun title tt hti => ?_) (by intro k; with_unfolding_all rfl)
      replace Nb := news_sub Nb (l' := (hand, _) :: (s1.heap.objs.size + 1 + 1 + 1, oQ) :: (s1.heap.objs.size + 1 + 1, oT) :: (s1.heap.objs.size + 1, oH) :: tl) (by walk_at "M subs")
      clear lT
      (repeat' ((fail_if_success (with_reducible show wpAny _ _ (call (Value.ref _) _ _) _ _ _)); (((fail_if_success (with_reducible show wpAny _ _ (exec (Stmt.While _ _ _ _) _) _ _ _)); (fail_if_success (with_reducible show wpAny _ _ (pyIter _) (fun it s₂ => LoopAtV _ _ _ _ _ _ _ _ _ it s₂) _ _)); (fail_if_success (with_reducible show wpAny _ _ (eval (Expr.ListComp _ _ _ _) _) _ _ _)); (fail_if_success (with_reducible show Exists _)))); first | (k_unfold; (try dsimp only)) | walk1 | (dsimp only; walk1) | fail "no step"))
      refine compMut (a := hand) (QualJ csA p quals4) (by with_unfolding_all rfl) (by decide) (by rfl) (by decide) (by rfl) (by intro _; with_unfolding_all rfl) ?_
      (repeat' ((fail_if_success (with_reducible show wpAny _ _ (call (Value.ref _) _ _) _ _ _)); (((fail_if_success (with_reducible show wpAny _ _ (exec (Stmt.While _ _ _ _) _) _ _ _)); (fail_if_success (with_reducible show wpAny _ _ (pyIter _) (fun it s₂ => LoopAtV _ _ _ _ _ _ _ _ _ it s₂) _ _)); (fail_if_success (with_reducible show wpAny _ _ (eval (Expr.ListComp _ _ _ _) _) _ _ _)); (fail_if_success (with_reducible show Exists _)))); first | (k_unfold; (try dsimp only)) | walk1 | (dsimp only; walk1) | fail "no step"))
      rename_i _ oT2 Fc Nc hcT2
      refine next_any (n := 96) M Fc Nc (by k_all) rfl rfl (hG _ _ Nc fun q hq => memT4 (subG q hq)).cells (by k_ne) hI2 hcl (nw1 hSp0) (bd5a (to80 hSpb)) z1 z2 (by decide) (by decide) fun hd_ tkd r2 tr2 sd3 w3 w4 k5 Fd Nd st y1 y2 y3 y4 => ?_
      clear Fc Nc st
      (repeat' ((fail_if_success (with_reducible show wpAny _ _ (call (Value.ref _) _ _) _ _ _)); (((fail_if_success (with_reducible show wpAny _ _ (exec (Stmt.While _ _ _ _) _) _ _ _)); (fail_if_success (with_reducible show wpAny _ _ (pyIter _) (fun it s₂ => LoopAtV _ _ _ _ _ _ _ _ _ it s₂) _ _)); (fail_if_success (with_reducible show wpAny _ _ (eval (Expr.ListComp _ _ _ _) _) _ _ _)); (fail_if_success (with_reducible show Exists _)))); first | (k_unfold; (try dsimp only)) | walk1 | (dsimp only; walk1) | fail "no step"))
      rename_i _ _ _ _ _ _ _ _ _ hRq Fe Ne _
      obtain ⟨nq, hnq, hnq2⟩ := nqx y3 y4
      rw [hnq] at hRq
      obtain ⟨rs1, rs2⟩ := range_small (n := nq) (Nat.lt_of_le_of_lt hnq2 (by decide))
      refine wpAny_pyIter_range hRq rs1 ?_
      have hhl := Heap.lt_size (Ne _ (.head _)).1
      refine ⟨_, _, _, nq, _, _, _, rfl, Walks.range rfl _ 0 1 nq, by rw [sizeLine_eq]; exact Nat.le_trans hnq2 (by decide), by show IsRangeIter _ _ _ _ _; rw [rs2]; simpa using Heap.get?_push_size _ rfl, ?_, ?_, Heap.get?_push_of_some _ (Ne _ (.head _)).1, ⟨p + 1 + 1, sd3, w3, w4, k5, [], rfl, nw2 hSp0, z22, y1, y2, .nil, rfl, fun _ hq => nomatch hq⟩, ?_, ?_⟩
      · intro b hb; rw [List.mem_singleton.mp hb, Heap.size_push]; exact Nat.lt_succ_self _
      · intro hm; exact Nat.ne_of_lt hhl (List.mem_singleton.mp hm)
      · rintro C i' v ys o s₃ m₃ E' hi' - ⟨q, sdq, a1, a2, kq, names, rfl, b1, b2, b3, b4, b5, b6, b7⟩ ho hC hn hm hk ⟨hh3, tk3, rfl⟩
        obtain ⟨Fg, Ng⟩ := but_back (h' := hh3) Fe Ne (fun c q hc hI e => hk c q hc hI (Heap.get?_push_of_some _ e)) ho (Heap.get?_none_of_le (Nat.le_refl _)) (by k_all)
        clear hk Fe Ne Nb Fb
        dsimp only
        (repeat' ((fail_if_success (with_reducible show wpAny _ _ (newTuple _) _ _ _)); (((fail_if_success (with_reducible show wpAny _ _ (exec (Stmt.While _ _ _ _) _) _ _ _)); (fail_if_success (with_reducible show wpAny _ _ (pyIter _) (fun it s₂ => LoopAtV _ _ _ _ _ _ _ _ _ it s₂) _ _)); (fail_if_success (with_reducible show wpAny _ _ (eval (Expr.ListComp _ _ _ _) _) _ _ _)); (fail_if_success (with_reducible show Exists _)))); first | (k_unfold; (try dsimp only)) | walk1 | (dsimp only; walk1) | fail "no step"))
        refine newTuple_NK Fg Ng (fun h4 F4 N4 st4 => ?_) (by show _ ≤ sizeLine; rw [sizeLine_eq]; exact Nat.le_of_ble_eq_true rfl)
        have hd5 : @Ne Nat hh3.objs.size hand := Nat.ne_of_gt (Heap.lt_size ho)
        replace N4 := news_sub N4 (l' := (hand, _) :: (hh3.objs.size, _) :: (s1.heap.objs.size + 1 + 1 + 1, oQ) :: (s1.heap.objs.size + 1 + 1, oT2) :: (s1.heap.objs.size + 1, oH) :: tl) (by walk_at "M subs")
        clear Fg Ng
        (repeat' ((fail_if_success (with_reducible show wpAny _ _ (call (Value.ref _) _ _) _ _ _)); (((fail_if_success (with_reducible show wpAny _ _ (exec (Stmt.While _ _ _ _) _) _ _ _)); (fail_if_success (with_reducible show wpAny _ _ (pyIter _) (fun it s₂ => LoopAtV _ _ _ _ _ _ _ _ _ it s₂) _ _)); (fail_if_success (with_reducible show wpAny _ _ (eval (Expr.ListComp _ _ _ _) _) _ _ _)); (fail_if_success (with_reducible show Exists _)))); first | (k_unfold; (try dsimp only)) | walk1 | (dsimp only; walk1) | fail "no step"))
        refine next_any (n := 96) M F4 N4 (by k_all) rfl rfl (hG _ _ N4 fun q hq => memT5 (subG q hq)).cells (by k_ne) hI2 hcl b1 (bd5 (to80 (qb hSpb b2 (Nat.le_trans (Nat.le_of_lt hi') hnq2)))) b3 b4 (by decide) (by decide) fun h5 tk5 r3 tr3 sd4 w5 w6 k6 F5 N5 st5 x1 x2 x3' x4 => ?_
        refine item_menu (names := quals4) (News.isTup N5 (mem1)) (by repeat (first | exact .nil | refine .cons _ _ ?_)) x3' (Int.lt_of_lt_of_le x4 (by decide)) (by decide) (fun qn tq hqn => ?_) (by intro k; with_unfolding_all rfl)
        refine ⟨h5, _, _, rfl, fun b o hb e => st5 b o hb (st4 b o e), (N5 _ (.head _)).1, ⟨q + 1, sd4, w5, w6, k6, names ++ [qn], rfl, nw1 b1, qs b2, x1, x2, strs_snoc b5, by simp [b6], fun nm hnm => ?_⟩⟩
        rcases List.mem_append.mp hnm with hnm | hnm
        · exact b7 nm hnm
        · rw [List.mem_singleton.mp hnm]; exact hqn
      · rintro D h' tk ys o hD hpl ho ⟨q, sdq, a1, a2, kq, quals, rfl, b1, b2, b3, b4, b5, b6, b7⟩ hk
        obtain ⟨Fg, Ng⟩ := but_back (h' := h') Fe Ne (fun c q hc hI e => hk c q hc hI (Heap.get?_push_of_some _ e)) ho (Heap.get?_none_of_le (Nat.le_refl _)) (by k_all)
        obtain ⟨vsq, rfl⟩ : ∃ vs : List Value, ys = vs.toArray := ⟨ys.toList, by simp⟩
        rw [List.toList_toArray] at b5
        obtain ⟨kD, hpl⟩ := hpl
        have hDn0 := pushed_none hD
        have hDn := off_new Ne (a := D) hDn0
        have hD1 := ne0 hDn
        have hD2 := ne1 hDn
        have hD3 := ne2 hDn
        have hD4 := ne3 hDn
        have hD5 := neT4 hDn
        clear hDn
        replace Ng := News.app (news_new Fe hpl hDn0) Ng
        dsimp only [List.cons_append, List.nil_append] at Ng
        clear hk hD hDn0 hpl Fe Ne Nb Fb hRq
        have hvl : vsq.length ≤ 2 := by rw [b5.len_eq, b6]; exact hnq2
        dsimp only
        ((repeat ((with_reducible rename @Ne _ _ _ => kNz); (have kNa := Apart.mk' kNz); clear kNz)))
        (repeat' ((fail_if_success (with_reducible show wpAny _ _ (call (Value.type _) _ _) _ _ _)); (((fail_if_success (with_reducible show wpAny _ _ (exec (Stmt.While _ _ _ _) _) _ _ _)); (fail_if_success (with_reducible show wpAny _ _ (pyIter _) (fun it s₂ => LoopAtV _ _ _ _ _ _ _ _ _ it s₂) _ _)); (fail_if_success (with_reducible show wpAny _ _ (eval (Expr.ListComp _ _ _ _) _) _ _ _)); (fail_if_success (with_reducible show Exists _)))); first | (k_unfold; (try dsimp only)) | walk1 | (dsimp only; walk1) | fail "no step"))
        have hqb := qb hSpb b2 hnq2
        refine tuple_list Fg Ng (.head _) (Nat.lt_of_le_of_lt hvl (by decide)) fun tq hq1 tkq jq Fi Ni offq => ?_
        have oq1 := ne1 offq
        have oq2 := ne2 offq
        have oq3 := ne3 offq
        have oq4 := ne4 offq
        have oq5 := neT5 offq
        clear offq
        replace Ni := news_sub Ni (l' := (hand, _) :: (tq, _) :: (s1.heap.objs.size + 1 + 1 + 1, oQ) :: (s1.heap.objs.size + 1 + 1, oT2) :: (s1.heap.objs.size + 1, oH) :: tl) (by walk_at "M subs")
        clear Fg Ng
        ((repeat ((with_reducible rename @Ne _ _ _ => kNz); (have kNa := Apart.mk' kNz); clear kNz)))
        (repeat' ((fail_if_success (with_reducible show wpAny _ _ (call (Value.ref _) _ _) _ _ _)); (((fail_if_success (with_reducible show wpAny _ _ (exec (Stmt.While _ _ _ _) _) _ _ _)); (fail_if_success (with_reducible show wpAny _ _ (pyIter _) (fun it s₂ => LoopAtV _ _ _ _ _ _ _ _ _ it s₂) _ _)); (fail_if_success (with_reducible show wpAny _ _ (eval (Expr.ListComp _ _ _ _) _) _ _ _)); (fail_if_success (with_reducible show Exists _)))); first | (k_unfold; (try dsimp only)) | walk1 | (dsimp only; walk1) | fail "no step"))
        rename_i _ oQ2 Fj Nj hcQ2
        refine next_any (n := 96) M Fj Nj (by k_all) rfl rfl (hG _ _ Nj fun q hq => memT5 (subG q hq)).cells (by k_ne) hI2 hcl b1 (bd5 (to80 hqb)) b3 b4 (by decide) (by decide) fun hr1 tkr less tls sd5 w7 w8 k7 Fk Nk st v1 v2 v3 v4 => ?_
        clear Fj Nj st
        (repeat' ((fail_if_success (with_reducible show wpAny _ _ (call (Value.ref _) _ _) _ _ _)); (((fail_if_success (with_reducible show wpAny _ _ (exec (Stmt.While _ _ _ _) _) _ _ _)); (fail_if_success (with_reducible show wpAny _ _ (pyIter _) (fun it s₂ => LoopAtV _ _ _ _ _ _ _ _ _ it s₂) _ _)); (fail_if_success (with_reducible show wpAny _ _ (eval (Expr.ListComp _ _ _ _) _) _ _ _)); (fail_if_success (with_reducible show Exists _)))); first | (k_unfold; (try dsimp only)) | walk1 | (dsimp only; walk1) | fail "no step"))
        rename_i sl _ lsl wr _ lwr _ _ _ _ _ _ Fl Nl
        have u0 := allLt_off lsl.2.2.2.2.2
        have hsh : @Ne Nat sl hand := Nat.ne_of_gt lsl.1
        have hwh : @Ne Nat wr hand := Nat.ne_of_gt lwr.2.1
        have hws : @Ne Nat wr sl := Nat.ne_of_gt lwr.1
        obtain ⟨base2, hb2⟩ : ∃ b, b = (tq, ({ cls := .type "tuple", data := .seq vsq.toArray jq } : Obj)) :: (s1.heap.objs.size + 1 + 1 + 1, oQ2) :: (s1.heap.objs.size + 1 + 1, oT2) :: (s1.heap.objs.size + 1, oH) :: tl := ⟨_, rfl⟩
        have B0 : ∀ q ∈ base2, @Ne Nat q.1 hand := by rw [hb2]; k_all
        have B1 : ∀ q ∈ base2, @Ne Nat q.1 sl := by rw [hb2]; k_all
        have BT : ∀ q ∈ tl, q ∈ base2 := by rw [hb2]; intro q hq; exact memT4 hq
        replace Nl := news_sub Nl (l' := (hand, handObj csA (q + 1) sd5 w7 w8 k7) :: (sl, listOf (List.toArray []) 0) :: (wr, listOf (List.toArray []) 0) :: base2) (by rw [hb2]; walk_at "M subs")
        ((repeat ((with_reducible rename @Ne _ _ _ => kNz); (have kNa := Apart.mk' kNz); clear kNz)))
        refine next_any (n := 96) M Fl Nl (by k_all) rfl rfl (hG _ _ Nl fun q hq => memT3 (BT q (subG q hq))).cells (by k_ne) hI2 hcl (nw1 b1) (bd5a (to80 hqb)) v1 v2 (by decide) (by decide) fun hr2 tkr2 r4 tr4 sd6 w9 wA k8 Fm Nm st v5 v6 v7 v8 => ?_
        clear Fl Nl st
        obtain ⟨n4, rfl⟩ : ∃ n4 : Nat, r4 = (n4 : Int) := ⟨r4.toNat, (Int.toNat_of_nonneg v7).symm⟩
        have hn4 : n4 < 4 := Int.ofNat_lt.mp v8
        have hn62 : n4 < 2 ^ 62 := Nat.lt_trans hn4 (by decide)
        obtain ⟨rs3, rs4⟩ := range_small (n := n4) (Nat.lt_succ_of_lt hn4)
        (repeat' ((fail_if_success (with_reducible show wpAny _ _ (call (Value.type _) _ _) _ _ _)); (((fail_if_success (with_reducible show wpAny _ _ (exec (Stmt.While _ _ _ _) _) _ _ _)); (fail_if_success (with_reducible show wpAny _ _ (pyIter _) (fun it s₂ => LoopAtV _ _ _ _ _ _ _ _ _ it s₂) _ _)); (fail_if_success (with_reducible show wpAny _ _ (eval (Expr.ListComp _ _ _ _) _) _ _ _)); (fail_if_success (with_reducible show Exists _)))); first | (k_unfold; (try dsimp only)) | walk1 | (dsimp only; walk1) | fail "no step"))
        refine range1_rows Fm Nm (fun hs5 tks5 ta ua va hRs Fo No _ => ?_)
        clear Fm Nm
        refine tbr_invG (n := n4) (SubJ hand csA x rl sl less tls base2 (q + 1 + 1)) rfl hRs rs3 rs4 Fo No
          ⟨q + 1 + 1, sd6, w9, wA, k8, wr, 0, 0, [], [], [], [], ⟨by rw [List.append_nil], rfl, rfl, rfl, rfl, rfl, fun _ _ => .nil, .nil, (fun _ hy => nomatch hy), rfl, Nat.le_refl _, nw2 b1, z11, v5, v6, (fun _ hy => nomatch hy), (fun _ hy => nomatch hy), by k_ne, by k_ne, by k_ne⟩⟩ ?_ ?_
        · rintro j lj tlj m₂ nx h₂' tk₂' own₂ hkj hoff₂ ⟨p3, sd7, x1, x2, k9, wr2, ks2, kw2, subs, wrs, ws, tps2, hB⟩ F N
          with_reducible refine post_gen ?_
          intro QI hQI
          obtain rfl := hB.eq
          have hj4 : j < n4 := by
            obtain ⟨hlt, he⟩ := List.getElem?_eq_some_iff.mp hkj
            simpa [rangeKs] using hlt
          replace F := Fr.upd [((Str.ofString "data"), _), ((Str.ofString "rows"), _), ((Str.ofString "less"), _), ((Str.ofString "subscripts"), _), ((Str.ofString "wrongs"), _)] F (allCons hB.m1 (allCons hB.m2 (allCons hB.m3 (allCons hB.m4 (allCons hB.m5 (List.forall_mem_nil _))))))
          clear Fo No
          simp only [List.cons_append, List.append_assoc] at N
          rw [hb2] at N
          dsimp only [List.cons_append] at N
          have V0 : ∀ q ∈ tl ++ (tps2 ++ own₂), @Ne Nat q.1 hand := fun q hq => (List.mem_append.mp hq).elim (T0 q) fun hq => (List.mem_append.mp hq).elim (hB.of1 q) fun hq => hoff₂ q hq _ (.head _)
          have V1 : ∀ q ∈ tl ++ (tps2 ++ own₂), @Ne Nat q.1 sl := fun q hq => (List.mem_append.mp hq).elim (u0 q) fun hq => (List.mem_append.mp hq).elim (hB.of2 q) fun hq => hoff₂ q hq _ (mem1)
          have w1' := hB.d1
          have w2' := hB.d2
          have w3' := hB.d3
          have hbp0 := hB.p0_
          have hbp1 := hB.p1_
          ((repeat ((with_reducible rename @Ne _ _ _ => kNz); (have kNa := Apart.mk' kNz); clear kNz)))
          (repeat' ((fail_if_success (with_reducible show wpAny _ _ (call (Value.ref _) _ _) _ _ _)); (((fail_if_success (with_reducible show wpAny _ _ (exec (Stmt.While _ _ _ _) _) _ _ _)); (fail_if_success (with_reducible show wpAny _ _ (pyIter _) (fun it s₂ => LoopAtV _ _ _ _ _ _ _ _ _ it s₂) _ _)); (fail_if_success (with_reducible show wpAny _ _ (eval (Expr.ListComp _ _ _ _) _) _ _ _)); (fail_if_success (with_reducible show Exists _)))); first | (k_unfold; (try dsimp only)) | walk1 | (dsimp only; walk1) | fail "no step"))
          refine number_any (n := 89) M F N (by k_all) rfl rfl (hG _ _ N fun q hq => memT7 (List.mem_append_left _ (subG q hq))).cells (by k_ne) hI2 hcl hbp0 (bd5 (rb hqb hbp1 (Nat.le_of_lt (Nat.lt_trans hj4 hn4)))) hB.s0_ hB.s1_ fun hn1 tkn tN vN fN eN nmsN tpsN sdN y1' y2' kN Fn Nn On yA yB NB hway => ?_
          clear F N
          simp only [List.cons_append, List.append_assoc] at Nn
          have hTN : Holds hn1 tpsN := holds_of Nn fun q hq => memT7 (List.mem_append_right _ (List.mem_append_right _ (List.mem_append_right _ hq)))
          have hpr := (NB hn1 hTN).1.isTup
          have OnH := nn0 On
          have OnS := nn1 On
          have OnW := nn2 On
          have OnT := nnT7 On
          clear On
          have V2 : ∀ q ∈ tl ++ (tps2 ++ (own₂ ++ tpsN)), @Ne Nat q.1 sl := fun q hq => by
            rcases List.mem_append.mp hq with hq | hq
            · exact u0 q hq
            · rcases List.mem_append.mp hq with hq | hq
              · exact hB.of2 q hq
              · rcases List.mem_append.mp hq with hq | hq
                · exact hoff₂ q hq _ (mem1)
                · exact OnS q hq
          have hsub : subs.length = j := by
            have h1 := (hB.exs hn1 (holds_of Nn fun q hq => memT7 (List.mem_append_right _ (List.mem_append_left _ hq)))).len
            rw [h1, List.length_map]; exact hB.len
          have hwf := hB.few
          have hsl : subs.length ≤ 16777216 := by rw [hsub]; exact Nat.le_trans (Nat.le_of_lt (Nat.lt_trans hj4 hn4)) (by decide)
          (repeat' ((fail_if_success (with_reducible show wpAny _ _ (binaryOp _ (Value.ref _) (Value.ref _)) _ _ _)); (fail_if_success (with_reducible show wpAny _ _ (call (Value.ref _) _ _) _ _ _)); (((fail_if_success (with_reducible show wpAny _ _ (exec (Stmt.While _ _ _ _) _) _ _ _)); (fail_if_success (with_reducible show wpAny _ _ (pyIter _) (fun it s₂ => LoopAtV _ _ _ _ _ _ _ _ _ it s₂) _ _)); (fail_if_success (with_reducible show wpAny _ _ (eval (Expr.ListComp _ _ _ _) _) _ _ _)); (fail_if_success (with_reducible show Exists _)))); first | (k_unfold; (try dsimp only)) | walk1 | (dsimp only; walk1) | fail "no step"))
          rename Fr _ _ _ _ => Fp
          rename News _ _ _ _ => Np
          clear hpr
          obtain ⟨-, hexN, fvN, hflN, hfsN⟩ := NB _ (holds_of Np fun q hq => memT7 (List.mem_append_right _ (List.mem_append_right _ (List.mem_append_right _ hq))))
          have hfl1 : fvN.length ≤ 1 := by rw [hfsN.len_eq]; exact ways_short _ hway
          refine addM Fp Np (Lst.news Np (mem2)) hflN (w6 (wl2 hwf (Nat.lt_trans hj4 hn4) hfl1)) fun wrN hzN Fz Nz lz => ?_
          clear Fp Np
          (repeat' ((fail_if_success (with_reducible show wpAny _ _ (binaryOp _ (Value.ref _) (Value.ref _)) _ _ _)); (fail_if_success (with_reducible show wpAny _ _ (call (Value.ref _) _ _) _ _ _)); (((fail_if_success (with_reducible show wpAny _ _ (exec (Stmt.While _ _ _ _) _) _ _ _)); (fail_if_success (with_reducible show wpAny _ _ (pyIter _) (fun it s₂ => LoopAtV _ _ _ _ _ _ _ _ _ it s₂) _ _)); (fail_if_success (with_reducible show wpAny _ _ (eval (Expr.ListComp _ _ _ _) _) _ _ _)); (fail_if_success (with_reducible show Exists _)))); first | (k_unfold; (try dsimp only)) | walk1 | (dsimp only; walk1) | fail "no step"))
          rename Fr _ _ _ _ => Fy
          rename News _ _ _ _ => Ny
          rw [show subs.toArray.push vN = (subs ++ [vN]).toArray by simp] at Ny
          have lz1 := allLt_of lz
          refine hQI _ _ ?_
          show TbEnd _ _ _ _ _ _
          refine tbEnd_mk _ _ _ _ ((hand, handObj csA (p3 + 1) sdN y1' y2' kN) :: (sl, listOf (subs ++ [vN]).toArray (ks2 + 1)) :: (wrN, listOf (wrs ++ fvN).toArray 0) :: (base2 ++ (tps2 ++ tpsN))) rfl Fy Ny ?_ ?_ ?_ ⟨p3 + 1, sdN, y1', y2', kN, wrN, ks2 + 1, 0, subs ++ [vN], wrs ++ fvN, ws ++ [(eN, nmsN)], tps2 ++ tpsN, ⟨rfl, rfl, rfl, rfl, rfl, rfl, ?_, ?_, ?_, ?_, ?_, nw1 hbp0, ps hbp1, yA, yB, ?_, ?_, ?_, ?_, ?_⟩⟩
          · intro z hz; simp only [hb2, List.mem_append, List.mem_cons, List.cons_append] at hz ⊢; grind
          · intro z hz; simp only [List.mem_append, List.mem_cons]; grind
          · intro z hz y hy
            rcases List.mem_cons.mp hy with rfl | hy
            · have e1 := hoff₂ z hz _ (.head _); exact e1
            rcases List.mem_cons.mp hy with rfl | hy
            · have e1 := hoff₂ z hz _ (mem1); exact e1
            rcases List.mem_cons.mp hy with rfl | hy
            · exact Nat.ne_of_lt (lz z (memT7 (List.mem_append_right _ (List.mem_append_right _ (List.mem_append_left _ hz)))))
            rcases List.mem_append.mp hy with hy | hy
            · exact hoff₂ z hz _ (memT3 (List.mem_append_left _ hy))
            rcases List.mem_append.mp hy with hy | hy
            · exact hoff₂ z hz _ (memT3 (List.mem_append_right _ hy))
            · exact Ne.symm (OnT z (List.mem_append_right _ (List.mem_append_right _ hz)) y hy)
          · intro g hg; exact ExsAt.snoc (hB.exs g fun z hz => hg z (List.mem_append_left _ hz)) (NB g fun z hz => hg z (List.mem_append_right _ hz)).2.1 |> fun e => by simpa using e
          · have := strs_app hB.nms hfsN; simpa using this
          · intro y hy; rcases List.mem_append.mp hy with hy | hy
            · exact hB.ok y hy
            · rw [List.mem_singleton.mp hy]; exact hway
          · simp [hB.len]
          · simp; exact Nat.add_le_add hwf hfl1
          · intro z hz; exact (List.mem_append.mp hz).elim (hB.of1 z) (OnH z)
          · intro z hz; exact (List.mem_append.mp hz).elim (hB.of2 z) (OnS z)
          · k_ne
          · exact Nat.ne_of_gt (lz (hand, _) (by k_mem))
          · exact Nat.ne_of_gt (lz (sl, _) (by k_mem))
        · rintro m₃ nx h3 tk3 ⟨p3, sd7, x1, x2, k9, wr2, ks2, kw2, subs, wrs, ws, tps2, hB⟩ F N
          obtain rfl := hB.eq
          clear Fo No hRs hq1 hhl ho
          replace F := Fr.upd0 [((Str.ofString "data"), _), ((Str.ofString "rows"), _), ((Str.ofString "less"), _), ((Str.ofString "subscripts"), _), ((Str.ofString "wrongs"), _)] F (allCons hB.m1 (allCons hB.m2 (allCons hB.m3 (allCons hB.m4 (allCons hB.m5 (List.forall_mem_nil _))))))
          rw [hb2] at N
          dsimp only [List.cons_append] at N
          have w1' := hB.d1
          have w2' := hB.d2
          have w3' := hB.d3
          have V0 : ∀ q ∈ tl ++ tps2, @Ne Nat q.1 hand := fun q hq => (List.mem_append.mp hq).elim (T0 q) (hB.of1 q)
          have hbp0 := hB.p0_
          have hbp1 := hB.p1_
          have hlen := hB.len
          have hfew := hB.few
          have hp3b := rb hqb hbp1 (Nat.le_of_lt hn4)
          dsimp only
          ((repeat ((with_reducible rename @Ne _ _ _ => kNz); (have kNa := Apart.mk' kNz); clear kNz)))
          (repeat' ((fail_if_success (with_reducible show wpAny _ _ (call (Value.ref _) _ _) _ _ _)); (fail_if_success (with_reducible show wpAny _ _ (execs (Stmt.If _ _ _ _ :: _) _) _ _ _)); (((fail_if_success (with_reducible show wpAny _ _ (exec (Stmt.While _ _ _ _) _) _ _ _)); (fail_if_success (with_reducible show wpAny _ _ (pyIter _) (fun it s₂ => LoopAtV _ _ _ _ _ _ _ _ _ it s₂) _ _)); (fail_if_success (with_reducible show wpAny _ _ (eval (Expr.ListComp _ _ _ _) _) _ _ _)); (fail_if_success (with_reducible show Exists _)))); first | (k_unfold; (try dsimp only)) | walk1 | (dsimp only; walk1) | fail "no step"))
          refine execs_joinG (PartJ s1 hand csA x rl sl less tls base2 (q + 1 + 1) ks2 subs ws) (fun QJ hQJ => ?_) ?_
          · (repeat' ((fail_if_success (with_reducible show wpAny _ _ (call (Value.ref _) _ _) _ _ _)); (((fail_if_success (with_reducible show wpAny _ _ (exec (Stmt.While _ _ _ _) _) _ _ _)); (fail_if_success (with_reducible show wpAny _ _ (pyIter _) (fun it s₂ => LoopAtV _ _ _ _ _ _ _ _ _ it s₂) _ _)); (fail_if_success (with_reducible show wpAny _ _ (eval (Expr.ListComp _ _ _ _) _) _ _ _)); (fail_if_success (with_reducible show Exists _)))); first | (k_unfold; (try dsimp only)) | walk1 | (dsimp only; walk1) | fail "no step"))
            rename Fr _ _ _ _ => Fa
            rename News _ _ _ _ => Na
            refine next_any (n := 96) M Fa Na (by k_all) rfl rfl (hG _ _ Na fun q hq => memT7 (List.mem_append_left _ (subG q hq))).cells (by k_ne) hI2 hcl hbp0 (bd5 hp3b) hB.s0_ hB.s1_ (by decide) (by decide) fun ha1 tka ra tra sda e1 e2 ka Fb Nb st ya1 ya2 ya3 ya4 => ?_
            clear Fa Na st
            (repeat' ((fail_if_success (with_reducible show wpAny _ _ (call (Value.ref _) _ _) _ _ _)); (((fail_if_success (with_reducible show wpAny _ _ (exec (Stmt.While _ _ _ _) _) _ _ _)); (fail_if_success (with_reducible show wpAny _ _ (pyIter _) (fun it s₂ => LoopAtV _ _ _ _ _ _ _ _ _ it s₂) _ _)); (fail_if_success (with_reducible show wpAny _ _ (eval (Expr.ListComp _ _ _ _) _) _ _ _)); (fail_if_success (with_reducible show Exists _)))); first | (k_unfold; (try dsimp only)) | walk1 | (dsimp only; walk1) | fail "no step"))
            · refine number_any (n := 89) M Fb Nb (by k_all) rfl rfl (hG _ _ Nb fun q hq => memT7 (List.mem_append_left _ (subG q hq))).cells (by k_ne) hI2 hcl (nw1 hbp0) (bd5a hp3b) ya1 ya2 fun hn1 tkn tN vN fN eN nmsN tpsN sdN y1' y2' kN Fn Nn On yA yB NB hway => ?_
              clear Fb Nb
              simp only [List.cons_append, List.append_assoc] at Nn
              have hTN : Holds hn1 tpsN := holds_of Nn fun q hq => memT7 (List.mem_append_right _ (List.mem_append_right _ hq))
              have hpr := (NB hn1 hTN).1.isTup
              have OnH := nn0 On
              have OnT := nnT7 On
              clear On
              (repeat' ((fail_if_success (with_reducible show wpAny _ _ (binaryOp _ (Value.ref _) (Value.ref _)) _ _ _)); (fail_if_success (with_reducible show wpAny _ _ (call (Value.ref _) _ _) _ _ _)); (((fail_if_success (with_reducible show wpAny _ _ (exec (Stmt.While _ _ _ _) _) _ _ _)); (fail_if_success (with_reducible show wpAny _ _ (pyIter _) (fun it s₂ => LoopAtV _ _ _ _ _ _ _ _ _ it s₂) _ _)); (fail_if_success (with_reducible show wpAny _ _ (eval (Expr.ListComp _ _ _ _) _) _ _ _)); (fail_if_success (with_reducible show Exists _)))); first | (k_unfold; (try dsimp only)) | walk1 | (dsimp only; walk1) | fail "no step"))
              rename Fr _ _ _ _ => Fp
              rename News _ _ _ _ => Np
              clear hpr
              obtain ⟨-, -, fvN, hflN, hfsN⟩ := NB _ (holds_of Np fun q hq => memT7 (List.mem_append_right _ (List.mem_append_right _ hq)))
              have hfl1 : fvN.length ≤ 1 := by rw [hfsN.len_eq]; exact ways_short _ hway
              refine addM Fp Np (Lst.news Np (mem2)) hflN (w6 (wl2 hfew hn4 hfl1)) fun wrN hzN Fz Nz lz => ?_
              clear Fp Np
              replace Nz := news_sub Nz (l' := (hand, _) :: (sl, _) :: (wrN, _) :: (tq, _) :: (s1.heap.objs.size + 1 + 1 + 1, oQ2) :: (s1.heap.objs.size + 1 + 1, oT2) :: (s1.heap.objs.size + 1, oH) :: (tl ++ (tps2 ++ tpsN))) (by walk_at "M subs")
              have lzH : @Ne Nat wrN hand := Nat.ne_of_gt (lz (hand, _) (by k_mem))
              have W0 : ∀ q ∈ tl ++ (tps2 ++ tpsN), @Ne Nat q.1 hand := fun q hq => (List.mem_append.mp hq).elim (T0 q) fun hq => (List.mem_append.mp hq).elim (hB.of1 q) (OnH q)
              ((repeat ((with_reducible rename @Ne _ _ _ => kNz); (have kNa := Apart.mk' kNz); clear kNz)))
              (repeat' ((fail_if_success (with_reducible show wpAny _ _ (binaryOp _ (Value.ref _) (Value.ref _)) _ _ _)); (fail_if_success (with_reducible show wpAny _ _ (call (Value.ref _) _ _) _ _ _)); (((fail_if_success (with_reducible show wpAny _ _ (exec (Stmt.While _ _ _ _) _) _ _ _)); (fail_if_success (with_reducible show wpAny _ _ (pyIter _) (fun it s₂ => LoopAtV _ _ _ _ _ _ _ _ _ it s₂) _ _)); (fail_if_success (with_reducible show wpAny _ _ (eval (Expr.ListComp _ _ _ _) _) _ _ _)); (fail_if_success (with_reducible show Exists _)))); first | (k_unfold; (try dsimp only)) | walk1 | (dsimp only; walk1) | fail "no step"))
              rename Fr _ _ _ _ => Fq
              rename News _ _ _ _ => Nq
              refine next_any (n := 96) M Fq Nq (by k_all) rfl rfl (hG _ _ Nq fun q hq => memT7 (List.mem_append_left _ (subG q hq))).cells (by k_ne) hI2 hcl (nw2 hbp0) (bd5b hp3b) yA yB (by decide) (by decide) fun hq2 tkq2 rq trq sdq2 f1 f2 kq2 Fr2 Nr2 st yq1 yq2 yq3 yq4 => ?_
              clear Fq Nq st
              (repeat' ((fail_if_success (with_reducible show wpAny _ _ (binaryOp _ (Value.ref _) (Value.ref _)) _ _ _)); (fail_if_success (with_reducible show wpAny _ _ (call (Value.ref _) _ _) _ _ _)); (((fail_if_success (with_reducible show wpAny _ _ (exec (Stmt.While _ _ _ _) _) _ _ _)); (fail_if_success (with_reducible show wpAny _ _ (pyIter _) (fun it s₂ => LoopAtV _ _ _ _ _ _ _ _ _ it s₂) _ _)); (fail_if_success (with_reducible show wpAny _ _ (eval (Expr.ListComp _ _ _ _) _) _ _ _)); (fail_if_success (with_reducible show Exists _)))); first | (k_unfold; (try dsimp only)) | walk1 | (dsimp only; walk1) | fail "no step"))
              · refine number_any (n := 89) M Fr2 Nr2 (by k_all) rfl rfl (hG _ _ Nr2 fun q hq => memT7 (List.mem_append_left _ (subG q hq))).cells (by k_ne) hI2 hcl (nw3 hbp0) (bd5c hp3b) yq1 yq2 fun hn3 tkn3 tN3 vN3 fN3 eN3 nmsN3 tpsN3 sdN3 y31 y32 kN3 Fn3 Nn3 On3 yA3 yB3 NB3 hway3 => ?_
                clear Fr2 Nr2 On3
                simp only [List.cons_append, List.append_assoc] at Nn3
                have hTN3 : Holds hn3 tpsN3 := holds_of Nn3 fun q hq => memT7 (List.mem_append_right _ (List.mem_append_right _ (List.mem_append_right _ hq)))
                have hpr := (NB3 hn3 hTN3).1.isTup
                (repeat' ((fail_if_success (with_reducible show wpAny _ _ (binaryOp _ (Value.ref _) (Value.ref _)) _ _ _)); (fail_if_success (with_reducible show wpAny _ _ (call (Value.ref _) _ _) _ _ _)); (((fail_if_success (with_reducible show wpAny _ _ (exec (Stmt.While _ _ _ _) _) _ _ _)); (fail_if_success (with_reducible show wpAny _ _ (pyIter _) (fun it s₂ => LoopAtV _ _ _ _ _ _ _ _ _ it s₂) _ _)); (fail_if_success (with_reducible show wpAny _ _ (eval (Expr.ListComp _ _ _ _) _) _ _ _)); (fail_if_success (with_reducible show Exists _)))); first | (k_unfold; (try dsimp only)) | walk1 | (dsimp only; walk1) | fail "no step"))
                rename Fr _ _ _ _ => Fp
                rename News _ _ _ _ => Np
                clear hpr
                obtain ⟨-, -, fvN3, hflN3, hfsN3⟩ := NB3 _ (holds_of Np fun q hq => memT7 (List.mem_append_right _ (List.mem_append_right _ (List.mem_append_right _ hq))))
                have hfl3 : fvN3.length ≤ 1 := by rw [hfsN3.len_eq]; exact ways_short _ hway3
                refine addM Fp Np (Lst.news Np (mem2)) hflN3 (by rw [List.length_append]; exact w6 (wl3 hfew hn4 hfl1 hfl3)) fun wr3 hz3 Fz3 Nz3 lz3 => ?_
                clear Fp Np lz3
                (repeat' ((fail_if_success (with_reducible show wpAny _ _ (binaryOp _ (Value.ref _) (Value.ref _)) _ _ _)); (fail_if_success (with_reducible show wpAny _ _ (call (Value.ref _) _ _) _ _ _)); (((fail_if_success (with_reducible show wpAny _ _ (exec (Stmt.While _ _ _ _) _) _ _ _)); (fail_if_success (with_reducible show wpAny _ _ (pyIter _) (fun it s₂ => LoopAtV _ _ _ _ _ _ _ _ _ it s₂) _ _)); (fail_if_success (with_reducible show wpAny _ _ (eval (Expr.ListComp _ _ _ _) _) _ _ _)); (fail_if_success (with_reducible show Exists _)))); first | (k_unfold; (try dsimp only)) | walk1 | (dsimp only; walk1) | fail "no step"))
                rename Fr _ _ _ _ => Fe
                rename News _ _ _ _ => Ne
                rename_i pa _ _ _
                replace Ne := news_sub Ne (l' := (hand, _) :: (sl, _) :: (wr3, _) :: (base2 ++ ((pa, ({ cls := .type "tuple", data := .seq #[vN, vN3] } : Obj)) :: (tps2 ++ (tpsN ++ tpsN3))))) (by rw [hb2]; exact allCons (by k_mem) (allCons (by k_mem) (allCons (by k_mem) (allCons (by k_mem) (allCons (by k_mem) (allCons (by k_mem) (allCons (by k_mem) (fun z hz => mem_ins hz (.head _) fun z hz => memT9 (hz)))))))))
                refine hQJ _ ⟨_, _, _, _, p3 + 1 + 1 + 1 + 1, sdN3, y31, y32, kN3, wr3, 0, wrs ++ fvN ++ fvN3, (pa, ({ cls := .type "tuple", data := .seq #[vN, vN3] } : Obj)) :: (tps2 ++ (tpsN ++ tpsN3)), .ref pa, some ((eN, nmsN), some (eN3, nmsN3)), rfl, Fe, Ne,
                  ⟨rfl, rfl, rfl, rfl, rfl, rfl, rfl, fun g hh => ?_, ?_, ?_, by simp only [List.length_append]; exact wl3 hfew hn4 hfl1 hfl3, nw4 hbp0, pd4 hbp1 hn4, yA3, yB3⟩⟩
                · refine ⟨hB.exs g fun z hz => hh z (.tail _ (List.mem_append_left _ hz)), .two ⟨0, hh _ (.head _)⟩ ?_ ?_⟩
                  · exact (NB g fun z hz => hh z (.tail _ (List.mem_append_right _ (List.mem_append_left _ hz)))).2.1
                  · exact (NB3 g fun z hz => hh z (.tail _ (List.mem_append_right _ (List.mem_append_right _ hz)))).2.1
                · rw [List.append_assoc]; exact strs_app hB.nms (strs_app hfsN hfsN3)
                · intro y hy; cases hy; exact ⟨hway, fun y hy => by cases hy; exact hway3⟩
              · rename Fr _ _ _ _ => Fp
                rename News _ _ _ _ => Np
                refine addM Fp Np (Lst.news Np (mem4)) (Lst.news (vs := []) Np (mem1)) (by rw [List.length_append]; exact (w6 (wl2 hfew hn4 hfl1) : wrs.length + fvN.length < 50000)) fun wr3 hz3 Fz3 Nz3 lz3 => ?_
                clear Fp Np lz3
                (repeat' ((fail_if_success (with_reducible show wpAny _ _ (binaryOp _ (Value.ref _) (Value.ref _)) _ _ _)); (fail_if_success (with_reducible show wpAny _ _ (call (Value.ref _) _ _) _ _ _)); (((fail_if_success (with_reducible show wpAny _ _ (exec (Stmt.While _ _ _ _) _) _ _ _)); (fail_if_success (with_reducible show wpAny _ _ (pyIter _) (fun it s₂ => LoopAtV _ _ _ _ _ _ _ _ _ it s₂) _ _)); (fail_if_success (with_reducible show wpAny _ _ (eval (Expr.ListComp _ _ _ _) _) _ _ _)); (fail_if_success (with_reducible show Exists _)))); first | (k_unfold; (try dsimp only)) | walk1 | (dsimp only; walk1) | fail "no step"))
                rename Fr _ _ _ _ => Fe
                rename News _ _ _ _ => Ne
                rename_i pa _ _ _
                replace Ne := news_sub Ne (l' := (hand, _) :: (sl, _) :: (wr3, _) :: (base2 ++ ((pa, ({ cls := .type "tuple", data := .seq #[vN, .none] } : Obj)) :: (tps2 ++ tpsN)))) (by rw [hb2]; exact allCons (by k_mem) (allCons (by k_mem) (allCons (by k_mem) (allCons (by k_mem) (allCons (by k_mem) (allCons (by k_mem) (allCons (by k_mem) (fun z hz => mem_ins hz (.head _) fun z hz => memT11 (hz)))))))))
                refine hQJ _ ⟨_, _, _, _, p3 + 1 + 1 + 1, sdq2, f1, f2, kq2, wr3, 0, wrs ++ fvN ++ [], (pa, ({ cls := .type "tuple", data := .seq #[vN, .none] } : Obj)) :: (tps2 ++ tpsN), .ref pa, some ((eN, nmsN), none), rfl, Fe, Ne,
                  ⟨rfl, rfl, rfl, rfl, rfl, rfl, rfl, fun g hh => ?_, ?_, ?_, by simp only [List.length_append, List.length_nil]; exact (wl2 hfew hn4 hfl1 : wrs.length + fvN.length ≤ 6), nw3 hbp0, pd3 hbp1 hn4, yq1, yq2⟩⟩
                · refine ⟨hB.exs g fun z hz => hh z (.tail _ (List.mem_append_left _ hz)), .one ⟨0, hh _ (.head _)⟩ ?_⟩
                  exact (NB g fun z hz => hh z (.tail _ (List.mem_append_right _ hz))).2.1
                · rw [List.append_nil]; exact strs_app hB.nms hfsN
                · intro y hy; cases hy; exact ⟨hway, fun y hy => nomatch hy⟩
            · exact hQJ _ ⟨_, _, _, _, p3 + 1, sda, e1, e2, ka, wr2, kw2, wrs, tps2, .none, none, rfl, Fb, Nb, ⟨by rw [hb2]; simp only [List.cons_append], rfl, rfl, rfl, rfl, rfl, rfl, fun h hh => ⟨hB.exs h hh, .none⟩, by simpa [ptNm] using hB.nms, (fun _ h => nomatch h), wl1 hfew hn4, nw1 hbp0, pd1 hbp1 hn4, ya1, ya2⟩⟩
          · repeat (rename Fr _ _ _ _ => zF; clear zF)
            repeat (rename News _ _ _ _ => zN; clear zN)
            rintro s' ⟨h4, tk4, m4, nx4, p4, sd8, u3, u4, k10, wr4, kw4, wrs4, tps4, pv, pt, rfl, F4, N4, hP⟩
            obtain rfl := hP.eq
            have hwsok := hB.ok
            clear hB V0 hbp0 hbp1 hfew
            repeat (rename Apart _ _ => kz; clear kz)
            replace F4 := Fr.upd0 [((Str.ofString "data"), _), ((Str.ofString "rows"), _), ((Str.ofString "less"), _), ((Str.ofString "subscripts"), _), ((Str.ofString "wrongs"), _), ((Str.ofString "part"), _)] F4 (allCons hP.m1 (allCons hP.m2 (allCons hP.m3 (allCons hP.m4 (allCons hP.m5 (allCons hP.m6 (List.forall_mem_nil _)))))))
            rw [hb2] at N4
            dsimp only [List.cons_append] at N4
            have S4 := hG _ _ N4 fun q hq => memT7 (List.mem_append_left _ (subG q hq))
            refine wpAny_execs_cons ?_
            refine compA (h₀ := s1.heap) (rowP h4 title quals) (fun v y => y = v) (HOK.none rfl) (by with_unfolding_all rfl) (by with_unfolding_all rfl) (by decide) (by rfl) (by decide) (by rfl) (by with_unfolding_all rfl) (by rfl) (by intro _; with_unfolding_all rfl) ?_
            (repeat' ((fail_if_success (with_reducible show wpAny _ _ (call (Value.ref _) _ _) _ _ _)); (((fail_if_success (with_reducible show wpAny _ _ (exec (Stmt.While _ _ _ _) _) _ _ _)); (fail_if_success (with_reducible show wpAny _ _ (pyIter _) (fun it s₂ => LoopAtV _ _ _ _ _ _ _ _ _ it s₂) _ _)); (fail_if_success (with_reducible show wpAny _ _ (eval (Expr.ListComp _ _ _ _) _) _ _ _)); (fail_if_success (with_reducible show Exists _)))); first | (k_unfold; (try dsimp only)) | walk1 | (dsimp only; walk1) | fail "no step"))
            have hrl := S4.each.len
            refine ⟨_, _, _, _, rfl, S4.rows.isList, by rw [refs_length, hrl]; exact Nat.lt_of_le_of_lt hfw (by decide), F4, N4, ?_, ?_, ?_⟩
            · intro C v s₃ m₃ E' hv hC hn' hm hk F₃ N₃
              obtain ⟨ra, it, hit, rfl, hr⟩ := rowsAt_mem S4.each v hv
              rw [rowP_is hr]
              obtain ⟨_, _, _, _, hio⟩ := S4.tree.ok it hit
              have hiu := hio.short
              clear F4 N4
              refine tests_one ?_
              (repeat' ((fail_if_success (with_reducible show wpAny _ _ (call (Value.ref _) _ _) _ _ _)); (((fail_if_success (with_reducible show wpAny _ _ (exec (Stmt.While _ _ _ _) _) _ _ _)); (fail_if_success (with_reducible show wpAny _ _ (pyIter _) (fun it s₂ => LoopAtV _ _ _ _ _ _ _ _ _ it s₂) _ _)); (fail_if_success (with_reducible show wpAny _ _ (eval (Expr.ListComp _ _ _ _) _) _ _ _)); (fail_if_success (with_reducible show Exists _)))); first | (k_unfold; (try dsimp only)) | walk1 | (dsimp only; walk1) | fail "no step"))
              refine wpAny_callA (meets_code (Amb.down (Amb.innC M F₃ rfl rfl) (by decide)) (HOK.none rfl) (hr.keeps hk) (by rw [List.length_map]; exact Nat.lt_trans hiu (by decide)) (Tpl.news N₃ (mem3)) b5 fun h' tk st => ?_)
              (repeat' ((fail_if_success (with_reducible show wpAny _ _ (call (Value.ref _) _ _) _ _ _)); (((fail_if_success (with_reducible show wpAny _ _ (exec (Stmt.While _ _ _ _) _) _ _ _)); (fail_if_success (with_reducible show wpAny _ _ (pyIter _) (fun it s₂ => LoopAtV _ _ _ _ _ _ _ _ _ it s₂) _ _)); (fail_if_success (with_reducible show wpAny _ _ (eval (Expr.ListComp _ _ _ _) _) _ _ _)); (fail_if_success (with_reducible show Exists _)))); first | (k_unfold; (try dsimp only)) | walk1 | (dsimp only; walk1) | fail "no step"))
              exact ⟨_, _, rfl, st⟩
            · intro C v s₃ m₃ E' hv hp hC hn' hm hk F₃ N₃
              clear F4 N4
              (repeat' ((fail_if_success (with_reducible show wpAny _ _ (call (Value.ref _) _ _) _ _ _)); (((fail_if_success (with_reducible show wpAny _ _ (exec (Stmt.While _ _ _ _) _) _ _ _)); (fail_if_success (with_reducible show wpAny _ _ (pyIter _) (fun it s₂ => LoopAtV _ _ _ _ _ _ _ _ _ it s₂) _ _)); (fail_if_success (with_reducible show wpAny _ _ (eval (Expr.ListComp _ _ _ _) _) _ _ _)); (fail_if_success (with_reducible show Exists _)))); first | (k_unfold; (try dsimp only)) | walk1 | (dsimp only; walk1) | fail "no step"))
              exact ⟨_, _, rfl, fun _ _ e => e⟩
            · intro D5 k5' h5 tk5 ys F₃ N₃ hD hPd
              have hys := paired_eq hPd
              obtain ⟨rts', hrf, hra⟩ := rows_filter (title := title) (us := quals) S4.each
              rw [hrf] at hys
              subst hys
              have hsl : subs.length = n4 := by
                have h1 := (hP.exs h4 (holds_of N4 fun q hq => memT7 (List.mem_append_right _ hq))).1.len
                rw [h1, List.length_map]; exact hlen
              clear F4 N4
              obtain ⟨kM, hkM⟩ : ∃ kM, (refs rts').length = kM := ⟨_, rfl⟩
              have hkM2 : kM = (its.filter (meets title quals)).length := by rw [← hkM, refs_length]; exact (hra h4 S4.each).len
              have hsl2 : subs.length < 1000 := by rw [hsl]; exact Nat.lt_trans hn4 (by decide)
              have hkM3 : kM ≤ 11 := by rw [hkM2]; exact Nat.le_trans (List.length_filter_le _ _) hfw
              have hkM62 : kM < 2 ^ 62 := Nat.lt_of_le_of_lt hkM3 (by decide)
              simp only [AllNe, and_true] at hD
              obtain ⟨hD0, hD1, hD2, hD3, hD4, hD5', hD6, hD7⟩ := hD
              dsimp only
              refine execs_joinG (DueJ s1 (fun dA z => if z = (Str.ofString "due") then some (.ref dA) else if z = (Str.ofString "met") then some (.ref D5) else upd [((Str.ofString "data"), .ref x), ((Str.ofString "rows"), .ref rl), ((Str.ofString "less"), .int less tls), ((Str.ofString "subscripts"), .ref sl), ((Str.ofString "wrongs"), .ref wr4), ((Str.ofString "part"), pv)] m4 z)
                ((hand, handObj csA p4 sd8 u3 u4 k10) :: (sl, listOf subs.toArray ks2) :: (tq, ({ cls := .type "tuple", data := .seq vsq.toArray jq } : Obj)) :: (s1.heap.objs.size + 1 + 1 + 1, oQ2) :: (s1.heap.objs.size + 1 + 1, oT2) :: (s1.heap.objs.size + 1, oH) :: (tl ++ tps4))
                (refNames its kvs title quals n4 pt.isSome ((ws.map (·.2)).flatten ++ ptNm pt) less)) (fun QJ hQJ => ?_) ?_
              · ((repeat ((with_reducible rename @Ne _ _ _ => kNz); (have kNa := Apart.mk' kNz); clear kNz)))
                (repeat' ((fail_if_success (with_reducible show wpAny _ _ (binaryOp _ (Value.ref _) (Value.ref _)) _ _ _)); (fail_if_success (with_reducible show wpAny _ _ (subscriptTail _ _ (Value.ref _) _) _ _ _)); (fail_if_success (with_reducible show wpAny _ _ (call (Value.ref _) _ _) _ _ _)); (((fail_if_success (with_reducible show wpAny _ _ (exec (Stmt.While _ _ _ _) _) _ _ _)); (fail_if_success (with_reducible show wpAny _ _ (pyIter _) (fun it s₂ => LoopAtV _ _ _ _ _ _ _ _ _ it s₂) _ _)); (fail_if_success (with_reducible show wpAny _ _ (eval (Expr.ListComp _ _ _ _) _) _ _ _)); (fail_if_success (with_reducible show Exists _)))); first | (k_unfold; (try dsimp only)) | walk1 | (dsimp only; walk1) | fail "no step"))
                · rename_i hne
                  rename Fr _ _ _ _ => F₆
                  rename News _ _ _ _ => N₆
                  refine addM F₆ N₆ (Lst.news N₆ (.head _)) (Lst.news N₆ (mem4)) (w6a hP.few) fun dA hz F₇ N₇ _ => ?_
                  clear F₆ N₆
                  (repeat' ((fail_if_success (with_reducible show wpAny _ _ (binaryOp _ (Value.ref _) (Value.ref _)) _ _ _)); (fail_if_success (with_reducible show wpAny _ _ (subscriptTail _ _ (Value.ref _) _) _ _ _)); (fail_if_success (with_reducible show wpAny _ _ (call (Value.ref _) _ _) _ _ _)); (((fail_if_success (with_reducible show wpAny _ _ (exec (Stmt.While _ _ _ _) _) _ _ _)); (fail_if_success (with_reducible show wpAny _ _ (pyIter _) (fun it s₂ => LoopAtV _ _ _ _ _ _ _ _ _ it s₂) _ _)); (fail_if_success (with_reducible show wpAny _ _ (eval (Expr.ListComp _ _ _ _) _) _ _ _)); (fail_if_success (with_reducible show Exists _)))); first | (k_unfold; (try dsimp only)) | walk1 | (dsimp only; walk1) | fail "no step"))
                  rename Fr _ _ _ _ => Fe
                  rename News _ _ _ _ => Ne
                  dsimp only
                  refine hQJ _ ⟨_, _, dA, 0, [.str title tt] ++ wrs4, rfl, Fe, news_sub Ne (by ((refine' allCons (by k_mem) (allCons (by k_mem) (allCons (by k_mem) (allCons (by k_mem) (allCons (by k_mem) (allCons (by k_mem) (allCons (by k_mem) ?_)))))); walk_at "M sub"))), ?_⟩
                  rw [names_not (isIx_no hkx (title_ok hti).2) (quals_ok b7) (nq1 hkM2 (by assumption))]
                  exact .cons title tt hP.nms
                · rename_i h1
                  obtain ⟨ra, rfl⟩ : ∃ ra, rts' = [ra] := List.length_eq_one_iff.mp (by rw [refs_length] at hkM; exact eq1' hkM (by assumption))
                  obtain ⟨it, hit⟩ : ∃ it, its.filter (meets title quals) = [it] := List.length_eq_one_iff.mp (eq1 hkM2 (by assumption))
                  have hrow := hra h5 (hG _ _ N₃ fun q hq => memT8 (List.mem_append_left _ (subG q hq)) ).each
                  rw [hit] at hrow
                  obtain ⟨⟨rt, rla, rt2, rav, RT, -, -⟩⟩ : RowAt h5 ra it.nm (it.us.map Up.nm) (deepOf it.us it.tab : Nat) := by cases hrow with | cons r _ => exact r
                  have RT' := RT.isTup
                  refine item_firstM (Lst.news N₃ (.head _)) ?_ (by with_unfolding_all rfl)
                  (repeat' ((fail_if_success (with_reducible show wpAny _ _ (binaryOp _ (Value.ref _) (Value.ref _)) _ _ _)); (fail_if_success (with_reducible show wpAny _ _ (subscriptTail _ _ (Value.ref _) _) _ _ _)); (fail_if_success (with_reducible show wpAny _ _ (call (Value.ref _) _ _) _ _ _)); (((fail_if_success (with_reducible show wpAny _ _ (exec (Stmt.While _ _ _ _) _) _ _ _)); (fail_if_success (with_reducible show wpAny _ _ (pyIter _) (fun it s₂ => LoopAtV _ _ _ _ _ _ _ _ _ it s₂) _ _)); (fail_if_success (with_reducible show wpAny _ _ (eval (Expr.ListComp _ _ _ _) _) _ _ _)); (fail_if_success (with_reducible show Exists _)))); first | (k_unfold; (try dsimp only)) | walk1 | (dsimp only; walk1) | fail "no step"))
                  refine item_tupleM (k := 2) (x := .int (deepOf it.us it.tab : Nat) rt2) RT' (by decide) rfl ?_ (by with_unfolding_all rfl)
                  (repeat' ((fail_if_success (with_reducible show wpAny _ _ (binaryOp _ (Value.ref _) (Value.ref _)) _ _ _)); (fail_if_success (with_reducible show wpAny _ _ (call (Value.ref _) _ _) _ _ _)); (((fail_if_success (with_reducible show wpAny _ _ (exec (Stmt.While _ _ _ _) _) _ _ _)); (fail_if_success (with_reducible show wpAny _ _ (pyIter _) (fun it s₂ => LoopAtV _ _ _ _ _ _ _ _ _ it s₂) _ _)); (fail_if_success (with_reducible show wpAny _ _ (eval (Expr.ListComp _ _ _ _) _) _ _ _)); (fail_if_success (with_reducible show Exists _)))); first | (k_unfold; (try dsimp only)) | walk1 | (dsimp only; walk1) | fail "no step"))
                  · rename_i hcmp _ _ _ _ _
                    rename Fr _ _ _ _ => F₆
                    rename News _ _ _ _ => N₆
                    refine addM F₆ N₆ (Lst.news N₆ (mem4)) (Lst.news (vs := [.str title tt]) N₆ (.head _)) (w6b hP.few) fun dA hz F₇ N₇ _ => ?_
                    clear F₆ N₆
                    (repeat' ((fail_if_success (with_reducible show wpAny _ _ (binaryOp _ (Value.ref _) (Value.ref _)) _ _ _)); (fail_if_success (with_reducible show wpAny _ _ (subscriptTail _ _ (Value.ref _) _) _ _ _)); (fail_if_success (with_reducible show wpAny _ _ (call (Value.ref _) _ _) _ _ _)); (((fail_if_success (with_reducible show wpAny _ _ (exec (Stmt.While _ _ _ _) _) _ _ _)); (fail_if_success (with_reducible show wpAny _ _ (pyIter _) (fun it s₂ => LoopAtV _ _ _ _ _ _ _ _ _ it s₂) _ _)); (fail_if_success (with_reducible show wpAny _ _ (eval (Expr.ListComp _ _ _ _) _) _ _ _)); (fail_if_success (with_reducible show Exists _)))); first | (k_unfold; (try dsimp only)) | walk1 | (dsimp only; walk1) | fail "no step"))
                    rename Fr _ _ _ _ => Fe
                    rename News _ _ _ _ => Ne
                    dsimp only
                    refine hQJ _ ⟨_, _, dA, 0, wrs4 ++ [.str title tt], rfl, Fe, news_sub Ne (by ((refine' allCons (by k_mem) (allCons (by k_mem) (allCons (by k_mem) (allCons (by k_mem) (allCons (by k_mem) (allCons (by k_mem) (allCons (by k_mem) ?_)))))); walk_at "M sub"))), ?_⟩
                    rw [names_one (isIx_no hkx (title_ok hti).2) (quals_ok b7) hit]
                    exact strs_app hP.nms (by rw [if_neg (fun e => hcmp e.symm)]; exact .cons title tt .nil)
                  · rename_i hcmp _ _ _ _ _
                    rename Fr _ _ _ _ => F₆
                    rename News _ _ _ _ => N₆
                    refine addM F₆ N₆ (Lst.news N₆ (mem4)) (Lst.news (vs := []) N₆ (.head _)) (w6 hP.few) fun dA hz F₇ N₇ _ => ?_
                    clear F₆ N₆
                    (repeat' ((fail_if_success (with_reducible show wpAny _ _ (binaryOp _ (Value.ref _) (Value.ref _)) _ _ _)); (fail_if_success (with_reducible show wpAny _ _ (subscriptTail _ _ (Value.ref _) _) _ _ _)); (fail_if_success (with_reducible show wpAny _ _ (call (Value.ref _) _ _) _ _ _)); (((fail_if_success (with_reducible show wpAny _ _ (exec (Stmt.While _ _ _ _) _) _ _ _)); (fail_if_success (with_reducible show wpAny _ _ (pyIter _) (fun it s₂ => LoopAtV _ _ _ _ _ _ _ _ _ it s₂) _ _)); (fail_if_success (with_reducible show wpAny _ _ (eval (Expr.ListComp _ _ _ _) _) _ _ _)); (fail_if_success (with_reducible show Exists _)))); first | (k_unfold; (try dsimp only)) | walk1 | (dsimp only; walk1) | fail "no step"))
                    rename Fr _ _ _ _ => Fe
                    rename News _ _ _ _ => Ne
                    dsimp only
                    refine hQJ _ ⟨_, _, dA, 0, wrs4 ++ [], rfl, Fe, news_sub Ne (by ((refine' allCons (by k_mem) (allCons (by k_mem) (allCons (by k_mem) (allCons (by k_mem) (allCons (by k_mem) (allCons (by k_mem) (allCons (by k_mem) ?_)))))); walk_at "M sub"))), ?_⟩
                    rw [names_one (isIx_no hkx (title_ok hti).2) (quals_ok b7) hit]
                    exact strs_app hP.nms (by rw [if_pos hcmp.symm]; exact .nil)
              · rintro s' ⟨h6, tk6, dA, dk, dvs, rfl, F6, N6, hdv⟩
                clear N₃ F₃
                clear hPd hrf hra hD7 hkM hkM2 hkM3 S4 hrl
                repeat (rename Apart _ _ => kz; clear kz)
                ((repeat ((with_reducible rename @Ne _ _ _ => kNz); (have kNa := Apart.mk' kNz); clear kNz)))
                (repeat' ((fail_if_success (with_reducible show wpAny _ _ (call (Value.type _) _ _) _ _ _)); (((fail_if_success (with_reducible show wpAny _ _ (exec (Stmt.While _ _ _ _) _) _ _ _)); (fail_if_success (with_reducible show wpAny _ _ (pyIter _) (fun it s₂ => LoopAtV _ _ _ _ _ _ _ _ _ it s₂) _ _)); (fail_if_success (with_reducible show wpAny _ _ (eval (Expr.ListComp _ _ _ _) _) _ _ _)); (fail_if_success (with_reducible show Exists _)))); first | (k_unfold; (try dsimp only)) | walk1 | (dsimp only; walk1) | fail "no step"))
                refine tuple_list F6 N6 (mem2) hsl2 fun sb h7 tk7 jb F7 N7 offs => ?_
                have of1 := ne0 offs
                have of2 := ne1 offs
                have of3 := ne2 offs
                have of4 := ne3 offs
                have of5 := ne4 offs
                have of6 := ne5 offs
                have of7 := ne6 offs
                have of8 := neT7 offs
                clear offs
                clear F6 N6
                ((repeat ((with_reducible rename @Ne _ _ _ => kNz); (have kNa := Apart.mk' kNz); clear kNz)))
                (repeat' ((fail_if_success (with_reducible show wpAny _ _ (call (Value.ref _) _ _) _ _ _)); (((fail_if_success (with_reducible show wpAny _ _ (exec (Stmt.While _ _ _ _) _) _ _ _)); (fail_if_success (with_reducible show wpAny _ _ (pyIter _) (fun it s₂ => LoopAtV _ _ _ _ _ _ _ _ _ it s₂) _ _)); (fail_if_success (with_reducible show wpAny _ _ (eval (Expr.ListComp _ _ _ _) _) _ _ _)); (fail_if_success (with_reducible show Exists _)))); first | (k_unfold; (try dsimp only)) | walk1 | (dsimp only; walk1) | fail "no step"))
                rename Fr _ _ _ _ => F8
                rename News _ _ _ _ => N8
                rename_i aR _ _
                have HC := news_cut N8
                have SC := GS _ fun q hq => HC q (memT9 (List.mem_append_left _ (subG q hq)))
                obtain ⟨XS, PT⟩ := hP.exs _ fun q hq => HC q (memT9 (List.mem_append_right _ hq))
                refine ref_law (less := less) (tl := tls) (subs := ws.map (·.1)) (pt := ptEx pt) (.inr rfl) (Amb.down M (by decide)) rfl F8 N8 rfl rfl SC.data SC.tree SC.ix
                  ⟨⟨_, 0, HC _ (.head _)⟩, ⟨vsq, ⟨jq, HC _ (mem5)⟩, b5⟩, ⟨jb, HC _ (mem1)⟩, by rw [b6]; exact Nat.lt_of_le_of_lt hnq2 (by decide), (title_ok hti).1, hsl2⟩ XS PT
                  (fun e he => by obtain ⟨y, hy, rfl⟩ := List.mem_map.mp he; exact ways_ok y (hwsok y hy)) (pt_ok hP.ok) fun h9 tk9 lh vh kh tph F9 N9 FI o1 o2 => ?_
                rw [inner_names hnm hkx hwsok hP.ok, List.length_map, hlen, ptEx_some] at FI
                clear F8 HC SC XS PT o1 o2
                simp only [List.cons_append, List.append_assoc] at N9
                replace N9 := news_sub N9 (l' := (lh, _) :: (dA, _) :: (hand, _) :: (s1.heap.objs.size + 1 + 1 + 1, oQ2) :: (s1.heap.objs.size + 1 + 1, oT2) :: (s1.heap.objs.size + 1, oH) :: (tl ++ (tps4 ++ tph))) (by walk_at "M subs")
                clear N8
                repeat (rename Apart _ _ => kz; clear kz)
                (repeat' ((fail_if_success (with_reducible show wpAny _ _ (call (Value.ref _) _ _) _ _ _)); (((fail_if_success (with_reducible show wpAny _ _ (exec (Stmt.While _ _ _ _) _) _ _ _)); (fail_if_success (with_reducible show wpAny _ _ (pyIter _) (fun it s₂ => LoopAtV _ _ _ _ _ _ _ _ _ it s₂) _ _)); (fail_if_success (with_reducible show wpAny _ _ (eval (Expr.ListComp _ _ _ _) _) _ _ _)); (fail_if_success (with_reducible show Exists _)))); first | (k_unfold; (try dsimp only)) | walk1 | (dsimp only; walk1) | fail "no step"))
                have hFl := FI.len
                have hrn := refNames_le (its := its) (kvs := kvs) (nm := title) (us := quals) (k := n4) (b := pt.isSome) (inner := (ws.map (·.2)).flatten ++ ptNm pt) (less := less)
                have hwn := hP.nms.len_eq
                have hpf := hP.few
                refine compM (L := s1.heap.objs.size) (h₀ := s1.heap) (fun _ => true) (fun v y => ∃ a x nm t k, v = .ref a ∧ (a, tupObj x (.str nm t) k) ∈ tph ∧ y = .str nm t) (HOK.none rfl) (by with_unfolding_all rfl) (by decide) (by rfl) (by decide) (by rfl) (by intro _; with_unfolding_all rfl) ?_
                (repeat' ((fail_if_success (with_reducible show wpAny _ _ (call (Value.ref _) _ _) _ _ _)); (((fail_if_success (with_reducible show wpAny _ _ (exec (Stmt.While _ _ _ _) _) _ _ _)); (fail_if_success (with_reducible show wpAny _ _ (pyIter _) (fun it s₂ => LoopAtV _ _ _ _ _ _ _ _ _ it s₂) _ _)); (fail_if_success (with_reducible show wpAny _ _ (eval (Expr.ListComp _ _ _ _) _) _ _ _)); (fail_if_success (with_reducible show Exists _)))); first | (k_unfold; (try dsimp only)) | walk1 | (dsimp only; walk1) | fail "no step"))
                rename Fr _ _ _ _ => F10
                rename News _ _ _ _ => N10
                refine ⟨_, _, _, _, rfl, Lst.isList ⟨_, N10.get (.head _)⟩, by (walk_at "M om"), F10, N10, ?_, ?_, ?_⟩
                · intro C v s₃ m₃ E' hv hC hn' hm hk F₃ N₃
                  exact tests_none ⟨rfl, _, _, rfl, fun _ _ e => e⟩
                · intro C v s₃ m₃ E' hv hp hC hn' hm hk F₃ N₃
                  obtain ⟨a, xx, nm, t, k, rfl, hat⟩ := faults_mem FI v hv
                  have hti3 := Tpl.isTup (Tpl.news (vs := [xx, .str nm t]) N₃ (memT6 (List.mem_append_right _ (List.mem_append_right _ hat))))
                  clear hk F10 N10
                  repeat' ((fail_if_success (with_reducible show wpAny _ _ (subscriptTail _ _ _ _) _ _ _)); (((fail_if_success (with_reducible show wpAny _ _ (exec (Stmt.While _ _ _ _) _) _ _ _)); (fail_if_success (with_reducible show wpAny _ _ (pyIter _) (fun it s₂ => LoopAtV _ _ _ _ _ _ _ _ _ it s₂) _ _)); (fail_if_success (with_reducible show wpAny _ _ (eval (Expr.ListComp _ _ _ _) _) _ _ _)); (fail_if_success (with_reducible show Exists _)))); first | (k_unfold; (try dsimp only)) | walk1 | (dsimp only; walk1) | fail "no step")
                  with_reducible refine item1 hti3 ?_
                  refine ⟨⟨_, _, _, _, _, rfl, hat, rfl⟩, _, _, rfl, fun _ _ e => e⟩
                · intro C k' h11 tk11 ys F₃ N₃ hD hPy
                  rw [List.filter_eq_self.mpr (fun _ _ => rfl)] at hPy
                  have hys := faults_names (holds_of N10 fun q hq => memT6 (List.mem_append_right _ (List.mem_append_right _ hq))) FI hPy
                  clear F10 N10 hPy
                  dsimp only
                  (repeat' ((fail_if_success (with_reducible show wpAny _ _ (compareOp _ (Value.ref _) (Value.ref _)) _ _ _)); (fail_if_success (with_reducible show wpAny _ _ (call (Value.ref _) _ _) _ _ _)); (((fail_if_success (with_reducible show wpAny _ _ (exec (Stmt.While _ _ _ _) _) _ _ _)); (fail_if_success (with_reducible show wpAny _ _ (pyIter _) (fun it s₂ => LoopAtV _ _ _ _ _ _ _ _ _ it s₂) _ _)); (fail_if_success (with_reducible show wpAny _ _ (eval (Expr.ListComp _ _ _ _) _) _ _ _)); (fail_if_success (with_reducible show Exists _)))); first | (k_unfold; (try dsimp only)) | walk1 | (dsimp only; walk1) | fail "no step"))
                  refine ne_same (Lst.news N₃ (.head _)) (Lst.news N₃ (mem2)) hys hdv (Nat.lt_of_le_of_lt (Nat.le_add_right _ 4) (Amb.un M)) ?_
                  (repeat' ((fail_if_success (with_reducible show wpAny _ _ (call (Value.ref _) _ _) _ _ _)); (((fail_if_success (with_reducible show wpAny _ _ (exec (Stmt.While _ _ _ _) _) _ _ _)); (fail_if_success (with_reducible show wpAny _ _ (pyIter _) (fun it s₂ => LoopAtV _ _ _ _ _ _ _ _ _ it s₂) _ _)); (fail_if_success (with_reducible show wpAny _ _ (eval (Expr.ListComp _ _ _ _) _) _ _ _)); (fail_if_success (with_reducible show Exists _)))); first | (k_unfold; (try dsimp only)) | walk1 | (dsimp only; walk1) | fail "no step"))
                  have hPp1 := hP.p1_
                  try dsimp only
                  refine hQL _ _ ?_
                  show TbEnd _ _ _ _ _ _
                  refine tbEnd_mk h11 tk11 _ _ ((hand, handObj csA p4 sd8 u3 u4 k10) :: (s1.heap.objs.size + 1 + 1 + 1, oQ2) :: (s1.heap.objs.size + 1 + 1, oT2) :: (s1.heap.objs.size + 1, oH) :: G) rfl F₃ N₃ ?_ ?_ ?_ ⟨p4, sd8, u3, u4, k10, oT2, oQ2, _, _, ⟨rfl, rfl, rfl, hcT2, hcQ2, hP.p0_, pl hSp1 b2 hnq2 hP.p1_, hP.s0_, hP.s1_⟩⟩
                  · exact allCons (by k_mem) (allCons (by k_mem) (allCons (by k_mem) (allCons (by k_mem) (fun z hz => memT7 (List.mem_append_left _ (subG z hz))))))
                  · exact fun z hz => memT7 (List.mem_append_left _ (subO z hz))
                  · intro z hz y hy
                    rcases List.mem_cons.mp hy with rfl | hy
                    · have e1 := hoff z hz _ (.head _); exact e1
                    rcases List.mem_cons.mp hy with rfl | hy
                    · have e1 := hoff z hz _ (mem1); exact e1
                    rcases List.mem_cons.mp hy with rfl | hy
                    · have e1 := hoff z hz _ (mem2); exact e1
                    rcases List.mem_cons.mp hy with rfl | hy
                    · exact hoff z hz _ (mem3)
                    · exact hoff z hz _ (memT4 hy)
    · rintro m₃ nx h3 tk3 ⟨p3, sd7, x1, x2, k9, oT, oQ, vT, vQ, hS⟩ F N
      obtain rfl := hS.eq
      replace F := Fr.upd0 [((Str.ofString "data"), _), ((Str.ofString "rows"), _)] F (allCons hS.m1 (allCons hS.m2 (List.forall_mem_nil _)))
      dsimp only
      have NG := news_sub N (l' := G) fun q hq => memT4 hq
      have GO := holds_off NG GX
      obtain ⟨Gr, hGr⟩ : ∃ Gr, Gr = G.filter fun p => p.1 != xd := ⟨_, rfl⟩
      rw [← hGr] at GO
      have hGd : ∀ p ∈ Gr, p.1 ≠ xd := fun p hp => by rw [hGr] at hp; simpa using (List.mem_filter.mp hp).2
      have NR := news_sub NG (l' := Gr) fun q hq => by rw [hGr] at hq; exact (List.mem_filter.mp hq).1
      have HX := (NG _ GX).1
      have I3 : InstAt h3 x (instObj 162 dx) 162 (some (dictOf es n)) := ⟨(NG _ GI.1).1, rfl, rfl, (NG _ GI.2).1⟩
      have hbX := (NG _ GX).2.2
      have hLX := (NG _ GX).2.1
      clear F₈ N₈
      (repeat' ((fail_if_success (with_reducible show wpAny _ _ (call (Value.ref _) _ _) _ _ _)); (((fail_if_success (with_reducible show wpAny _ _ (exec (Stmt.While _ _ _ _) _) _ _ _)); (fail_if_success (with_reducible show wpAny _ _ (pyIter _) (fun it s₂ => LoopAtV _ _ _ _ _ _ _ _ _ it s₂) _ _)); (fail_if_success (with_reducible show wpAny _ _ (eval (Expr.ListComp _ _ _ _) _) _ _ _)); (fail_if_success (with_reducible show Exists _)))); first | (k_unfold; (try dsimp only)) | walk1 | (dsimp only; walk1) | fail "no step"))
      rename Fr _ _ _ _ => F
      clear N I3 hRg
      have hk20 : (kvs.length : Int) ≤ 3 := by (walk_at "M om")
      refine iter_dictK (oX := oX') (kvs := kvs) (knd := PySem.strKind PR w0) (fun i m nx => nx = Gr ∧ m (Str.ofString "data") = some (.ref x)) rfl lx HX hix hbX (Ne.symm hLX) F NR hGd ⟨rfl, rfl⟩ ?_ ?_
      · rintro i kn y key m₁ nx h tk own hk hkey hoff hown ⟨rfl, hm1⟩ F1 N1
        with_reducible refine post_gen ?_
        intro QD hQD
        obtain ⟨tn, rfl⟩ := Value.isStrOf_shape hkey
        replace F1 := Fr.upd [((Str.ofString "data"), _)] F1 (by simp only [List.mem_singleton, forall_eq]; exact hm1)
        clear F NR HX NG
        (repeat' ((fail_if_success (with_reducible show wpAny _ _ (call (Value.ref _) _ _) _ _ _)); (((fail_if_success (with_reducible show wpAny _ _ (exec (Stmt.While _ _ _ _) _) _ _ _)); (fail_if_success (with_reducible show wpAny _ _ (pyIter _) (fun it s₂ => LoopAtV _ _ _ _ _ _ _ _ _ it s₂) _ _)); (fail_if_success (with_reducible show wpAny _ _ (eval (Expr.ListComp _ _ _ _) _) _ _ _)); (fail_if_success (with_reducible show Exists _)))); first | (k_unfold; (try dsimp only)) | walk1 | (dsimp only; walk1) | fail "no step"))
        rename Fr _ _ _ _ => F2
        rename News _ _ _ _ => N2
        rename_i qA _ _ sA _ _ aR _ _
        have hmem : (kn, y) ∈ kvs := List.mem_of_getElem? hk
        have HC := news_cut N2
        have SC := GS _ (GO _ (fun q hq => HC q (memT3 (List.mem_append_left _ hq))) (HC _ (memT3 (List.mem_append_right _ hown))))
        refine ref_law (less := 0) (tl := 536) (subs := []) (pt := none) (.inl ⟨rfl, rfl, rfl⟩) (Amb.down M (by decide)) rfl F2 N2 rfl rfl SC.data SC.tree SC.ix
          ⟨⟨_, 0, HC _ (.head _)⟩, ⟨[], ⟨0, HC _ (mem2)⟩, .nil⟩, ⟨0, HC _ (mem1)⟩, Nat.succ_pos _, xn_len (hkx _ hmem), Nat.succ_pos _⟩ .nil .none
          (fun e he => nomatch he) (fun _ h => nomatch h) fun h9 tk9 lh vh kh tph F9 N9 FI o1 o2 => ?_
        have hz := ix_names (its := its) hmem (k := 0) (inner := innerNames its kvs [] none)
        rw [if_pos rfl] at hz
        obtain rfl : vh = [] := by
          have h1 := FI.len
          rw [show (none : Option (Ex × Option Ex)).isSome = false from rfl, show ([] : List Ex).length = 0 from rfl, hz] at h1
          exact List.length_eq_zero_iff.mp h1
        clear F2 HC SC o1 o2 FI hz
        simp only [List.cons_append, List.append_assoc] at N9
        replace N9 := news_sub N9 (l' := (lh, _) :: (nx ++ (own ++ tph))) (by walk_at "M subs")
        clear N2
        (repeat' ((fail_if_success (with_reducible show wpAny _ _ (call (Value.ref _) _ _) _ _ _)); (((fail_if_success (with_reducible show wpAny _ _ (exec (Stmt.While _ _ _ _) _) _ _ _)); (fail_if_success (with_reducible show wpAny _ _ (pyIter _) (fun it s₂ => LoopAtV _ _ _ _ _ _ _ _ _ it s₂) _ _)); (fail_if_success (with_reducible show wpAny _ _ (eval (Expr.ListComp _ _ _ _) _) _ _ _)); (fail_if_success (with_reducible show Exists _)))); first | (k_unfold; (try dsimp only)) | walk1 | (dsimp only; walk1) | fail "no step"))
        rename Fr _ _ _ _ => F3
        rename News _ _ _ _ => N3
        rename_i _ _ _ q2 _ _ pr _ _ nu _ _ s2 _ _ a2 _ _
        have HC := news_cut N3
        have SC := GS _ (GO _ (fun q hq => HC q (memT7 (List.mem_append_left _ hq))) (HC _ (memT7 (List.mem_append_right _ (List.mem_append_left _ hown)))))
        refine ref_law (less := 0) (tl := 536) (subs := [.num]) (pt := none) (.inl ⟨rfl, rfl, rfl⟩) (Amb.down M (by decide)) rfl F3 N3 rfl rfl SC.data SC.tree SC.ix
          ⟨⟨_, 0, HC _ (.head _)⟩, ⟨[], ⟨0, HC _ (mem4)⟩, .nil⟩, ⟨0, HC _ (mem1)⟩, Nat.succ_pos _, xn_len (hkx _ hmem), by show 1 < 1000; decide⟩ (.cons (.num ⟨0, HC _ (mem2)⟩) .nil) .none
          (fun e he => by rw [List.mem_singleton.mp he]; exact Nat.zero_le _) (fun _ h => nomatch h) fun h12 tk12 lh2 vh2 kh2 tph2 F12 N12 FI o1 o2 => ?_
        have hz := ix_names (its := its) hmem (k := 1) (inner := innerNames its kvs [.num] none)
        rw [if_neg (by decide)] at hz
        have hv1 : vh2.length = 1 := by
          have h1 := FI.len
          rw [show (none : Option (Ex × Option Ex)).isSome = false from rfl, show ([.num] : List Ex).length = 1 from rfl, hz] at h1
          exact h1
        clear F3 HC SC o1 o2 FI hz
        simp only [List.cons_append, List.append_assoc] at N12
        replace N12 := news_sub N12 (l' := (lh2, _) :: (nx ++ (own ++ (tph ++ tph2)))) (by walk_at "M subs")
        clear N3
        (repeat' ((fail_if_success (with_reducible show wpAny _ _ (call (Value.ref _) _ _) _ _ _)); (((fail_if_success (with_reducible show wpAny _ _ (exec (Stmt.While _ _ _ _) _) _ _ _)); (fail_if_success (with_reducible show wpAny _ _ (pyIter _) (fun it s₂ => LoopAtV _ _ _ _ _ _ _ _ _ it s₂) _ _)); (fail_if_success (with_reducible show wpAny _ _ (eval (Expr.ListComp _ _ _ _) _) _ _ _)); (fail_if_success (with_reducible show Exists _)))); first | (k_unfold; (try dsimp only)) | walk1 | (dsimp only; walk1) | fail "no step"))
        try dsimp only
        refine hQD _ _ ?_
        exact InvEndG.intro F12 N12 ⟨rfl, rfl⟩ hoff (fun q hq => .tail _ (List.mem_append_left _ hq)) (fun q hq => .tail _ (List.mem_append_right _ (List.mem_append_left _ hq)))
      · rintro m₁ nx h tk ⟨rfl, hm1⟩ F1 N1
        clear F NR HX NG
        (repeat' ((fail_if_success (with_reducible show wpAny _ _ (call (Value.ref _) _ _) _ _ _)); (((fail_if_success (with_reducible show wpAny _ _ (exec (Stmt.While _ _ _ _) _) _ _ _)); (fail_if_success (with_reducible show wpAny _ _ (pyIter _) (fun it s₂ => LoopAtV _ _ _ _ _ _ _ _ _ it s₂) _ _)); (fail_if_success (with_reducible show wpAny _ _ (eval (Expr.ListComp _ _ _ _) _) _ _ _)); (fail_if_success (with_reducible show Exists _)))); first | (k_unfold; (try dsimp only)) | walk1 | (dsimp only; walk1) | fail "no step"))
        refine hQ₀ _ _ ?_
        try dsimp only
        close_w
end T_LJ
end Mine
theorem PySem.Challenge.cw_pb0245_01_holds : PySem.Challenge.rw_pb0245_01.Holds :=
  Mine.law_holds
