import PyProof.Rows.All
import Wide.All
import OpenK.AllK
import Wide.FinOn
import Lean
import PySem.Challenge.RW_xm0660_01
open PySem PySem.W PyProof.Rows
set_option Elab.async false
set_option maxRecDepth 100000
set_option maxHeartbeats 8000000
namespace Mine
theorem tri : Manifest.find? = Manifest.find? := rfl
name_quick tw13016732220969518872 for Manifest.find? by Mine.tri
name_quick tw15263041282635125899 for Manifest.find? by Mine.tri
name_quick tw17069979004554194336 for Manifest.find? by Mine.tri
name_quick tw2719445374943340272 for Manifest.find? by Mine.tri
name_quick tw12835720964997663042 for Manifest.find? by Mine.tri
name_quick tw12866136484021002089 for Manifest.find? by Mine.tri
name_quick tw9285146279643344392 for Manifest.find? by Mine.tri
name_quick tw7276740287692124622 for Manifest.find? by Mine.tri
name_quick tw9948023125614773506 for Manifest.find? by Mine.tri
name_quick tw6434138532213402376 for Manifest.find? by Mine.tri
name_quick tw17532440430192770315 for Manifest.find? by Mine.tri
name_quick tw5349121933718820234 for Manifest.find? by Mine.tri
name_quick tw7198390536060210744 for Manifest.find? by Mine.tri
name_quick tw17517737089405305841 for Manifest.find? by Mine.tri
name_quick tw9800571698397750058 for Manifest.find? by Mine.tri
name_quick tw6448080314894763839 for Manifest.find? by Mine.tri
name_quick tw14326252917377295143 for Manifest.find? by Mine.tri
name_quick tw6004533443673955352 for Manifest.find? by Mine.tri
name_quick tw14126943448341045398 for Manifest.find? by Mine.tri
name_quick tw3577408171920636059 for Manifest.find? by Mine.tri
name_quick tw15766043655864335149 for Manifest.find? by Mine.tri
name_quick tw4775785305629353868 for Manifest.find? by Mine.tri
name_quick tw8400853705098224536 for Manifest.find? by Mine.tri
name_quick tw7710059528256322935 for Manifest.find? by Mine.tri
name_quick tw17476080006546285661 for Manifest.find? by Mine.tri
name_quick tw14224011070414065920 for Manifest.find? by Mine.tri
name_quick tw4011157648589011858 for Manifest.find? by Mine.tri
name_quick tw3766158894648301139 for Manifest.find? by Mine.tri
name_quick tw3976722010076183465 for Manifest.find? by Mine.tri
name_quick tw2447775223705975068 for Manifest.find? by Mine.tri
name_quick tw17828083071136270317 for Manifest.find? by Mine.tri
name_quick tw16593013826814733010 for Manifest.find? by Mine.tri
name_quick tw10205541121877940668 for Manifest.find? by Mine.tri
name_quick tw7275051467321613617 for Manifest.find? by Mine.tri
name_quick tw12635297910168745909 for Manifest.find? by Mine.tri
name_quick tw9458956999447867950 for Manifest.find? by Mine.tri
name_quick tw2664551874359636763 for Manifest.find? by Mine.tri
name_quick tw470574548607681690 for Manifest.find? by Mine.tri
name_quick tw17863021456227041891 for Manifest.find? by Mine.tri
name_quick tw4658958612460137192 for Manifest.find? by Mine.tri
name_quick tw9136488742655976645 for Manifest.find? by Mine.tri
name_quick tw3094477031063562474 for Manifest.find? by Mine.tri
name_quick tw9594665118957945026 for Manifest.find? by Mine.tri
name_quick tw1291980286583624508 for Manifest.find? by Mine.tri
name_quick tw14553827428707814869 for Manifest.find? by Mine.tri
name_quick tw16979880578912567463 for Manifest.find? by Mine.tri
name_quick tw16284743917012101340 for Manifest.find? by Mine.tri
name_quick tw14168537005229113720 for Manifest.find? by Mine.tri
name_quick tw15066959818950650227 for Manifest.find? by Mine.tri
name_quick tw4407734736301137906 for Manifest.find? by Mine.tri
name_quick tw18211773271919218964 for Manifest.find? by Mine.tri
name_quick tw4090926877573551719 for Manifest.find? by Mine.tri
name_quick tw11631884870976334500 for Manifest.find? by Mine.tri
name_quick tw6679490504615227074 for Manifest.find? by Mine.tri
name_quick tw2460228577881660442 for Manifest.find? by Mine.tri
name_quick tw15112985482279097393 for Manifest.find? by Mine.tri
name_quick tw12233582284571471492 for Manifest.find? by Mine.tri
name_quick tw387338674003428930 for Manifest.find? by Mine.tri
name_quick tw13036272033356848781 for Manifest.find? by Mine.tri
name_quick tw7323676302269181137 for Manifest.find? by Mine.tri
name_quick tw14761518105344179592 for Manifest.find? by Mine.tri
name_quick tw11566699232636054958 for Manifest.find? by Mine.tri
name_quick tw53402867556234148 for Manifest.find? by Mine.tri
name_quick tw6245536207120538393 for Manifest.find? by Mine.tri
name_quick tw4558998842232669794 for Manifest.find? by Mine.tri
name_quick tw15900120412870309639 for Manifest.find? by Mine.tri
name_quick tw5721027456603625697 for Manifest.find? by Mine.tri
name_quick tw15168306246750427876 for Manifest.find? by Mine.tri
name_quick tw5111356299099525756 for Manifest.find? by Mine.tri
name_quick tw17057272898397164401 for Manifest.find? by Mine.tri
name_quick tw8595292554425487202 for Manifest.find? by Mine.tri
name_quick tw18260038339965228139 for Manifest.find? by Mine.tri
name_quick tw17434858337260393937 for Manifest.find? by Mine.tri
name_quick tw14433975572909055671 for Manifest.find? by Mine.tri
name_quick tw16752143609539240740 for Manifest.find? by Mine.tri
name_quick tw10706342367453228570 for Manifest.find? by Mine.tri
name_quick tw13615603153576403970 for Manifest.find? by Mine.tri
name_quick tw13900631225919944168 for Manifest.find? by Mine.tri
name_quick tw17888162413812561239 for Manifest.find? by Mine.tri
name_quick tw2408619945344806742 for Manifest.find? by Mine.tri
name_quick tw16145008321745377990 for Manifest.find? by Mine.tri
name_quick tw16817318245366136608 for Manifest.find? by Mine.tri
name_quick tw17532718790514356516 for Manifest.find? by Mine.tri
name_quick tw11013792430000457035 for Manifest.find? by Mine.tri
name_quick tw10314498396905981064 for Manifest.find? by Mine.tri
name_quick tw17068924515734577466 for Manifest.find? by Mine.tri
name_quick tw13789449189825218787 for Manifest.find? by Mine.tri
name_quick tw8796240567053077481 for Manifest.find? by Mine.tri
name_quick tw8424611434330503625 for Manifest.find? by Mine.tri
name_quick tw13335737130258781183 for Manifest.find? by Mine.tri
name_quick tw3856783459128436802 for Manifest.find? by Mine.tri
name_quick tw13317431791736044220 for Manifest.find? by Mine.tri
name_quick tw6122645084068987007 for Manifest.find? by Mine.tri
name_quick tw17100903815162463580 for Manifest.find? by Mine.tri
name_quick tw4071324889030633612 for Manifest.find? by Mine.tri
name_quick tw1962928258387122110 for Manifest.find? by Mine.tri
name_quick tw3619232141914619222 for Manifest.find? by Mine.tri
name_quick tw18101931140130867144 for Manifest.find? by Mine.tri
name_quick tw3105397867545767578 for Manifest.find? by Mine.tri
name_quick tw8376441433122354887 for Manifest.find? by Mine.tri
name_quick tw11420187438672877268 for Manifest.find? by Mine.tri
name_quick tw17750105837587190729 for Manifest.find? by Mine.tri
name_quick tw1414301608579184545 for Manifest.find? by Mine.tri
name_quick tw16643379632663270332 for Manifest.find? by Mine.tri
name_quick tw9529234661008812162 for Manifest.find? by Mine.tri
name_quick tw5529568453561195837 for Manifest.find? by Mine.tri
name_quick tw3972328310683599613 for Manifest.find? by Mine.tri
name_quick tw43969757491396457 for Manifest.find? by Mine.tri
name_quick tw16018607276475445134 for Manifest.find? by Mine.tri
name_quick tw10323183001455561277 for Manifest.find? by Mine.tri
name_quick tw5902227825499142635 for Manifest.find? by Mine.tri
name_quick tw16643706677886111943 for Manifest.find? by Mine.tri
name_quick tw16241802466949684156 for Manifest.find? by Mine.tri
name_quick tw505943868828395459 for Manifest.find? by Mine.tri
name_quick tw7788680626742099145 for Manifest.find? by Mine.tri
name_quick tw12635813782599140982 for Manifest.find? by Mine.tri
name_quick tw6988704321522420823 for Manifest.find? by Mine.tri
name_quick tw11588390666370768167 for Manifest.find? by Mine.tri
name_quick tw11625766737575182897 for Manifest.find? by Mine.tri
name_quick tw682011567655089306 for Manifest.find? by Mine.tri
name_quick tw15490439104401381959 for Manifest.find? by Mine.tri
name_quick tw9763268239775435451 for Manifest.find? by Mine.tri
name_quick tw4679858250743294509 for Manifest.find? by Mine.tri
name_quick tw6683783046931543321 for Manifest.find? by Mine.tri
name_quick tw6711915476519705758 for Manifest.find? by Mine.tri
name_quick tw8075568018651887793 for Manifest.find? by Mine.tri
name_quick tw6380047634161181297 for Manifest.find? by Mine.tri
name_quick tw5032809538720368765 for Manifest.find? by Mine.tri
name_quick tw15663404670287596823 for Manifest.find? by Mine.tri
name_quick tw12945451867199242903 for Manifest.find? by Mine.tri
name_quick tw9787463984185863102 for Manifest.find? by Mine.tri
name_quick tw4527066259768149269 for Manifest.find? by Mine.tri
name_quick tw900395245841561262 for Manifest.find? by Mine.tri
name_quick tw6792406925840432001 for Manifest.find? by Mine.tri
name_quick tw7250012664060256230 for Manifest.find? by Mine.tri
name_quick tw5200128776193632040 for Manifest.find? by Mine.tri
name_quick tw1218959903707654005 for Manifest.find? by Mine.tri
name_quick tw3764465048917985505 for Manifest.find? by Mine.tri
name_quick tw11985326045990495214 for Manifest.find? by Mine.tri
name_quick tw3636048126100218174 for Manifest.find? by Mine.tri
name_quick tw9011979029575296479 for Manifest.find? by Mine.tri
name_quick tw932993149863042379 for Manifest.find? by Mine.tri
name_quick tw136631920214876835 for Manifest.find? by Mine.tri
name_quick tw8708707556590381134 for Manifest.find? by Mine.tri
name_quick tw18056578402003937789 for Manifest.find? by Mine.tri
name_quick tw5396446701170858492 for Manifest.find? by Mine.tri
name_quick tw10029231156530900338 for Manifest.find? by Mine.tri
name_quick tw704327219915372674 for Manifest.find? by Mine.tri
name_quick tw11452132507678324671 for Manifest.find? by Mine.tri
name_quick tw1574873078441994576 for Manifest.find? by Mine.tri
name_quick tw15007238320947547705 for Manifest.find? by Mine.tri
name_quick tw4292500188555128830 for Manifest.find? by Mine.tri
name_quick tw1617757218408452269 for Manifest.find? by Mine.tri
name_quick tw1829445100760108279 for Manifest.find? by Mine.tri
name_quick tw5706481520468235054 for Manifest.find? by Mine.tri
name_quick tw10227693086864044499 for Manifest.find? by Mine.tri
name_quick tw3891137856419664920 for Manifest.find? by Mine.tri
name_quick tw13215998728584607739 for Manifest.find? by Mine.tri
name_quick tw7496433998918960881 for Manifest.find? by Mine.tri
name_quick tw1333364371103165705 for Manifest.find? by Mine.tri
name_quick tw8727135674562949291 for Manifest.find? by Mine.tri
name_quick tw8098380416015320538 for Manifest.find? by Mine.tri
name_quick tw6929956602132211858 for Manifest.find? by Mine.tri
name_quick tw16390375249116991291 for Manifest.find? by Mine.tri
name_quick tw8017206721242287953 for Manifest.find? by Mine.tri
name_quick tw5673025641062948296 for Manifest.find? by Mine.tri
name_quick tw17279654841073493023 for Manifest.find? by Mine.tri
name_quick tw2478078296215019888 for Manifest.find? by Mine.tri
name_quick tw5268983451555188008 for Manifest.find? by Mine.tri
name_quick tw7392212959928792091 for Manifest.find? by Mine.tri
name_quick tw18416463498863911781 for Manifest.find? by Mine.tri
name_quick tw13559156169165276386 for Manifest.find? by Mine.tri
name_quick tw1706496860858754268 for Manifest.find? by Mine.tri
name_quick tw11543547407058413889 for Manifest.find? by Mine.tri
name_quick tw10996506086634736982 for Manifest.find? by Mine.tri
name_quick tw12290603225136948437 for Manifest.find? by Mine.tri
name_quick tw4251353427327788602 for Manifest.find? by Mine.tri
name_quick tw7772049062191401219 for Manifest.find? by Mine.tri
name_quick tw8860024209350480642 for Manifest.find? by Mine.tri
name_quick tw4224760802259116069 for Manifest.find? by Mine.tri
name_quick tw18220123701641295943 for Manifest.find? by Mine.tri
name_quick tw17975652961387846372 for Manifest.find? by Mine.tri
name_quick tw11277716924127702174 for Manifest.find? by Mine.tri
name_quick tw724751600484774222 for Manifest.find? by Mine.tri
name_quick tw17730428716208468724 for Manifest.find? by Mine.tri
name_quick tw13191295725559111208 for Manifest.find? by Mine.tri
name_quick tw12832477231654346042 for Manifest.find? by Mine.tri
name_quick tw15323854079317868165 for Manifest.find? by Mine.tri
name_quick tw9564595351457756722 for Manifest.find? by Mine.tri
name_quick tw2660918139993853925 for Manifest.find? by Mine.tri
name_quick tw10528696920762540405 for Manifest.find? by Mine.tri
name_quick tw17954471519018878134 for Manifest.find? by Mine.tri
name_quick tw1355338860687761863 for Manifest.find? by Mine.tri
name_quick tw183835017167291270 for Manifest.find? by Mine.tri
name_quick tw6019396324639902685 for Manifest.find? by Mine.tri
name_quick tw1702518465993881591 for Manifest.find? by Mine.tri
name_quick tw6435988898589368438 for Manifest.find? by Mine.tri
name_quick tw16947794391021106201 for Manifest.find? by Mine.tri
name_quick tw8719427161674164953 for Manifest.find? by Mine.tri
name_quick tw7232422423428716515 for Manifest.find? by Mine.tri
name_quick tw6550987210724342151 for Manifest.find? by Mine.tri
name_quick tw9908251947323293946 for Manifest.find? by Mine.tri
name_quick tw14638366451347569053 for Manifest.find? by Mine.tri
name_quick tw8206430501311747189 for Manifest.find? by Mine.tri
name_quick tw14073706353221006472 for Manifest.find? by Mine.tri
name_quick tw1402947280878808549 for Manifest.find? by Mine.tri
name_quick tw14714103240675001986 for Manifest.find? by Mine.tri
name_quick tw16350708796919097252 for Manifest.find? by Mine.tri
name_quick tw11863081143760314161 for Manifest.find? by Mine.tri
name_quick tw11161088081135249708 for Manifest.find? by Mine.tri
name_quick tw6662432510661729299 for Manifest.find? by Mine.tri
name_quick tw8753696776887207221 for Manifest.find? by Mine.tri
name_quick tw15980859228951719591 for Manifest.find? by Mine.tri
name_quick tw9315938663221665524 for Manifest.find? by Mine.tri
name_quick tw10010936943081839664 for Manifest.find? by Mine.tri
name_quick tw14311459727803291754 for Manifest.find? by Mine.tri
name_quick tw11994158751524154303 for Manifest.find? by Mine.tri
name_quick tw14386061602966655976 for Manifest.find? by Mine.tri
name_quick tw18345786424863182364 for Manifest.find? by Mine.tri
name_quick tw9078168654384971755 for Manifest.find? by Mine.tri
name_quick tw14821650378409806113 for Manifest.find? by Mine.tri
name_quick tw4039474712603431140 for Manifest.find? by Mine.tri
name_quick tw4933834842325187142 for Manifest.find? by Mine.tri
name_quick tw11317593695737139937 for Manifest.find? by Mine.tri
name_quick tw6589095468515690095 for Manifest.find? by Mine.tri
name_quick tw347637069881736656 for Manifest.find? by Mine.tri
name_quick tw11636919720809706868 for Manifest.find? by Mine.tri
name_quick tw11462045893675790159 for Manifest.find? by Mine.tri
name_quick tw3039592710220408265 for Manifest.find? by Mine.tri
name_quick tw12177639751122801600 for Manifest.find? by Mine.tri
name_quick tw667198328695590252 for Manifest.find? by Mine.tri
name_quick tw16519947266957812712 for Manifest.find? by Mine.tri
name_quick tw17730448691065144110 for Manifest.find? by Mine.tri
name_quick tw13180171748994924942 for Manifest.find? by Mine.tri
name_quick tw16548257151911338427 for Manifest.find? by Mine.tri
name_quick tw17164873540382356111 for Manifest.find? by Mine.tri
name_quick tw912392155897948271 for Manifest.find? by Mine.tri
name_quick tw1258717718454355964 for Manifest.find? by Mine.tri
name_quick tw14884601019740666482 for Manifest.find? by Mine.tri
name_quick tw10938465397075749097 for Manifest.find? by Mine.tri
name_quick tw8537084889766193716 for Manifest.find? by Mine.tri
name_quick tw13231743634260944447 for Manifest.find? by Mine.tri
name_quick tw17964007177503468958 for Manifest.find? by Mine.tri
name_quick tw951843321253372498 for Manifest.find? by Mine.tri
name_quick tw6363645014702824404 for Manifest.find? by Mine.tri
name_quick tw16966814322356759819 for Manifest.find? by Mine.tri
name_quick tw12172078356533094185 for Manifest.find? by Mine.tri
name_quick tw9467589175468403638 for Manifest.find? by Mine.tri
name_quick tw12813236842856870187 for Manifest.find? by Mine.tri
name_quick tw2905824091091238844 for Manifest.find? by Mine.tri
name_quick tw13759679279233594173 for Manifest.find? by Mine.tri
name_quick tw11310463157757771331 for Manifest.find? by Mine.tri
name_quick tw13607416678640721797 for Manifest.find? by Mine.tri
name_quick tw4797165386629745026 for Manifest.find? by Mine.tri
name_quick tw17274371674624000324 for Manifest.find? by Mine.tri
name_quick tw5770868932273138760 for Manifest.find? by Mine.tri
name_quick tw9931943479562821362 for Manifest.find? by Mine.tri
name_quick tw7210653913260312092 for Manifest.find? by Mine.tri
name_quick tw1620339239838986703 for Manifest.find? by Mine.tri
name_quick tw16741492637210864865 for Manifest.find? by Mine.tri
name_quick tw13981391230805400906 for Manifest.find? by Mine.tri
name_quick tw12659028871203227004 for Manifest.find? by Mine.tri
name_quick tw117213463901210413 for Manifest.find? by Mine.tri
name_quick tw313226197891681235 for Manifest.find? by Mine.tri
name_quick tw16176465441171805009 for Manifest.find? by Mine.tri
name_quick tw3778451253796500701 for Manifest.find? by Mine.tri
name_quick tw4978915544186085027 for Manifest.find? by Mine.tri
name_quick tw16846860572762119324 for Manifest.find? by Mine.tri
name_quick tw3880421473898291048 for Manifest.find? by Mine.tri
name_quick tw17018628822417861297 for Manifest.find? by Mine.tri
name_quick tw4075660801711882420 for Manifest.find? by Mine.tri
name_quick tw9759809726879904816 for Manifest.find? by Mine.tri
name_quick tw8642067239939848140 for Manifest.find? by Mine.tri
name_quick tw7269565832213808900 for Manifest.find? by Mine.tri
name_quick tw1092655722715705105 for Manifest.find? by Mine.tri
name_quick tw8603108125212654177 for Manifest.find? by Mine.tri
name_quick tw14834023430324568649 for Manifest.find? by Mine.tri
name_quick tw14850637758680703435 for Manifest.find? by Mine.tri
name_quick tw12392613427281201732 for Manifest.find? by Mine.tri
name_quick tw17988542015724977305 for Manifest.find? by Mine.tri
name_quick tw12237943961548833269 for Manifest.find? by Mine.tri
name_quick tw16049961110935095269 for Manifest.find? by Mine.tri
name_quick tw12268644228514654432 for Manifest.find? by Mine.tri
name_quick tw14979626087600564940 for Manifest.find? by Mine.tri
name_quick tw17672482021469178181 for Manifest.find? by Mine.tri
name_quick tw1258299570235058372 for Manifest.find? by Mine.tri
name_quick tw4748654258956052638 for Manifest.find? by Mine.tri
name_quick tw8216818558122810350 for Manifest.find? by Mine.tri
name_quick tw6654550962395885724 for Manifest.find? by Mine.tri
name_quick tw7401281599722004195 for Manifest.find? by Mine.tri
name_quick tw6817277305950994716 for Manifest.find? by Mine.tri
name_quick tw13141144453892091621 for Manifest.find? by Mine.tri
name_quick tw5357591511691535388 for Manifest.find? by Mine.tri
name_quick tw5732905514179830355 for Manifest.find? by Mine.tri
name_quick tw4302124980754421698 for Manifest.find? by Mine.tri
name_quick tw2627984346626558326 for Manifest.find? by Mine.tri
name_quick tw14108194823987119177 for Manifest.find? by Mine.tri
name_quick tw5345256250457102556 for Manifest.find? by Mine.tri
name_quick tw17804436615005485693 for Manifest.find? by Mine.tri
name_quick tw3131671291697673992 for Manifest.find? by Mine.tri
name_quick tw17552769576498331613 for Manifest.find? by Mine.tri
name_quick tw10073347824450446311 for Manifest.find? by Mine.tri
name_quick tw12850107946570832962 for Manifest.find? by Mine.tri
name_quick tw9501820088010722379 for Manifest.find? by Mine.tri
name_quick tw13912434898499826684 for Manifest.find? by Mine.tri
name_quick tw13512673800721320934 for Manifest.find? by Mine.tri
name_quick tw3362959441861295915 for Manifest.find? by Mine.tri
name_quick tw14530364306720264245 for Manifest.find? by Mine.tri
name_quick tw11386669929835065156 for Manifest.find? by Mine.tri
name_quick tw16296994325663420285 for Manifest.find? by Mine.tri
name_quick tw151948405760981731 for Manifest.find? by Mine.tri
name_quick tw1749818173716722547 for Manifest.find? by Mine.tri
name_quick tw10424941004445345732 for Manifest.find? by Mine.tri
name_quick tw3282434896037501709 for Manifest.find? by Mine.tri
name_quick tw17846936440860909165 for Manifest.find? by Mine.tri
name_quick tw5701610774189311196 for Manifest.find? by Mine.tri
name_quick tw14333388528381170442 for Manifest.find? by Mine.tri
name_quick tw14289078867681016318 for Manifest.find? by Mine.tri
name_quick tw7299951869573292228 for Manifest.find? by Mine.tri
name_quick tw1503297043503765363 for Manifest.find? by Mine.tri
name_quick tw16374537267813192141 for Manifest.find? by Mine.tri
name_quick tw2862820112641550484 for Manifest.find? by Mine.tri
name_quick tw14023627001141898710 for Manifest.find? by Mine.tri
name_quick tw11729385059970357855 for Manifest.find? by Mine.tri
name_quick tw6059929106960060952 for Manifest.find? by Mine.tri
name_quick tw3442601649717412197 for Manifest.find? by Mine.tri
name_quick tw4319705520415482375 for Manifest.find? by Mine.tri
name_quick tw1377046205977697930 for Manifest.find? by Mine.tri
name_quick tw4552823106982906706 for Manifest.find? by Mine.tri
name_quick tw5076957145309523181 for Manifest.find? by Mine.tri
name_quick tw7581352650102555174 for Manifest.find? by Mine.tri
name_quick tw10317580896714288900 for Manifest.find? by Mine.tri
name_quick tw10833955939284561965 for Manifest.find? by Mine.tri
name_quick tw11333186260410459676 for Manifest.find? by Mine.tri
name_quick tw13640514254501968386 for Manifest.find? by Mine.tri
name_quick tw15894407043143930727 for Manifest.find? by Mine.tri
name_quick tw3560238982266916124 for Manifest.find? by Mine.tri
name_quick tw16697116713213952808 for Manifest.find? by Mine.tri
name_quick tw2711585505577850959 for Manifest.find? by Mine.tri
name_quick tw11130039905162102590 for Manifest.find? by Mine.tri
name_quick tw11306939235166856333 for Manifest.find? by Mine.tri
name_quick tw8703263022893421829 for Manifest.find? by Mine.tri
name_quick tw3152983702415266003 for Manifest.find? by Mine.tri
name_quick tw8579058602437062094 for Manifest.find? by Mine.tri
name_quick tw12825359941727978080 for Manifest.find? by Mine.tri
name_quick tw15475462885187679331 for Manifest.find? by Mine.tri
name_quick tw8693227569615203950 for Manifest.find? by Mine.tri
name_quick tw10942035263794033107 for Manifest.find? by Mine.tri
name_quick tw7397068168572129948 for Manifest.find? by Mine.tri
name_quick tw11186114360453789277 for Manifest.find? by Mine.tri
name_quick tw460243522976405022 for Manifest.find? by Mine.tri
name_quick tw17497748084772794779 for Manifest.find? by Mine.tri
name_quick tw15560500314895047343 for Manifest.find? by Mine.tri
name_quick tw2283851925072248500 for Manifest.find? by Mine.tri
name_quick tw433209904769449389 for Manifest.find? by Mine.tri
name_quick tw11788150170368784547 for Manifest.find? by Mine.tri
name_quick tw3093977132361051618 for Manifest.find? by Mine.tri
name_quick tw2334299552400917057 for Manifest.find? by Mine.tri
name_quick tw11964429278604863157 for Manifest.find? by Mine.tri
name_quick tw5135500740108067664 for Manifest.find? by Mine.tri
name_quick tw4980102563643897964 for Manifest.find? by Mine.tri
name_quick tw14223099787259518943 for Manifest.find? by Mine.tri
name_quick tw16916688483869632129 for Manifest.find? by Mine.tri
name_quick tw3698559305507148144 for Manifest.find? by Mine.tri
name_quick tw12734952128020822468 for Manifest.find? by Mine.tri
name_quick tw5978237884098788730 for Manifest.find? by Mine.tri
name_quick tw17111948838632640456 for Manifest.find? by Mine.tri
name_quick tw9407582987413476825 for Manifest.find? by Mine.tri
name_quick tw8032284361305108907 for Manifest.find? by Mine.tri
name_quick tw15450981722951097364 for Manifest.find? by Mine.tri
open_top hd for PySem.Challenge.rw_xm0660_01
local macro_rules | `(tactic| walk_at $s:str) => `(tactic| k_extra $s)
local macro_rules | `(tactic| k_all) => `(tactic| k_extra "k_all")
local macro_rules | `(tactic| k_updF) => `(tactic| k_extra "k_updF")
local macro_rules | `(tactic| k_mem) => `(tactic| k_extra "k_mem")
local macro_rules | `(tactic| k_room) => `(tactic| k_extra "k_room")
local macro_rules | `(tactic| k_ne) => `(tactic| k_extra "k_ne")
theorem words_base_0 : True := by
  k_with_none
  k_with "k_all" => exact List.forall_mem_append.mpr ⟨by k_all, by k_all⟩
  k_with "k_all" => exact tbn_neAll (by assumption)
  k_with "k_all" => assumption
  k_with "k_updF" => assumption
  k_with "k_mem" => assumption
  k_with "k_room" => ktr_room
  trivial
noncomputable abbrev LO : List Str := looseW hd.view_39 [Str.ofString "MOST", Str.ofString "number_of"]
noncomputable abbrev PG : Program := PySem.Challenge.rw_xm0660_01.row.prog

/-- what a call of the def at f does, in whatever frame it is made -/
def Spec (w : World) (D U : Nat) (f : Addr) (args : List Value) (news : List (Addr × Obj)) (Post : Value → List (Addr × Obj) → Prop) : Prop :=
  ∀ (mean : ExcName → Option Value) (mg mb : Str → Option Value) (dp un : Nat) (gd : Option (List Code)) (cn : Str) (cs : Scope) (a : Addr) (ccd : Value) (cl : List (Str × Addr)) (outer : List Env) (A₀ : Around) (base h₀ : Heap) (L : Addr) (m : Str → Option Value) (s : Shared) (Q E : Value → Shared → Prop),
    Below A₀ base outer h₀ → Fr h₀ L s.heap m → (hd.heap_39 w.params).In h₀ → News h₀ L s.heap news → Top hd.view_39 LO mean mg mb h₀ → cs.kind = .function → dp + D < recursionLimit → un + U < cLine →
    (∀ r news' h' tk', Fr h₀ L h' m → News h₀ L h' news' → Post r news' → Q r { s with heap := h', toks := tk' }) →
    wpAny (model PG w) (ktrTop dp un gd cn cs L a ccd cl outer) (call (.ref f) args) Q E s

theorem Spec.use {w : World} {D U : Nat} {f : Addr} {args : List Value} {news : List (Addr × Obj)} {Post : Value → List (Addr × Obj) → Prop} {mean : ExcName → Option Value} {mg mb : Str → Option Value} {dp un : Nat} {gd : Option (List Code)} {cn : Str} {cs : Scope} {a : Addr} {ccd : Value} {cl : List (Str × Addr)} {outer : List Env} {A₀ : Around} {base h₀ : Heap} {L : Addr} {m : Str → Option Value} {s : Shared} {Q E : Value → Shared → Prop}
    (C : Spec w D U f args news Post) (B : Below A₀ base outer h₀) (F : Fr h₀ L s.heap m) (X : (hd.heap_39 w.params).In h₀) (N : News h₀ L s.heap news) (T : Top hd.view_39 LO mean mg mb h₀) (hk : cs.kind = .function) (hd : dp + D < recursionLimit) (hu : un + U < cLine)
    (ret : ∀ r news' h' tk', Fr h₀ L h' m → News h₀ L h' news' → Post r news' → Q r { s with heap := h', toks := tk' }) :
    wpAny (model PG w) (ktrTop dp un gd cn cs L a ccd cl outer) (call (.ref f) args) Q E s := C _ _ _ _ _ _ _ _ _ _ _ _ _ _ _ _ _ _ _ _ B F X N T hk hd hu ret

theorem Spec.useC {K : (Value → List (Addr × Obj) → Prop) → Prop} {w : World} {D U : Nat} {f : Addr} {args : List Value} {news : List (Addr × Obj)} {Post : Value → List (Addr × Obj) → Prop} {mean : ExcName → Option Value} {mg mb : Str → Option Value} {dp un : Nat} {gd : Option (List Code)} {cn : Str} {cs : Scope} {a : Addr} {ccd : Value} {cl : List (Str × Addr)} {outer : List Env} {A₀ : Around} {base h₀ : Heap} {L : Addr} {m : Str → Option Value} {s : Shared} {Q E : Value → Shared → Prop}
    (C : Spec w D U f args news Post) (B : Below A₀ base outer h₀) (F : Fr h₀ L s.heap m) (X : (hd.heap_39 w.params).In h₀) (N : News h₀ L s.heap news) (T : Top hd.view_39 LO mean mg mb h₀) (hk : cs.kind = .function) (hd : dp + D < recursionLimit) (hu : un + U < cLine)
    (cur : ∀ C : Value → List (Addr × Obj) → Prop, K C → ∀ r n, Post r n → C r n) (ret : K fun r n => ∀ h' tk', Fr h₀ L h' m → News h₀ L h' n → Q r { s with heap := h', toks := tk' }) :
    wpAny (model PG w) (ktrTop dp un gd cn cs L a ccd cl outer) (call (.ref f) args) Q E s := C _ _ _ _ _ _ _ _ _ _ _ _ _ _ _ _ _ _ _ _ B F X N T hk hd hu fun r n h' tk' F N P => cur _ ret r n P h' tk' F N

theorem Spec.mono {w : World} {D U : Nat} {f : Addr} {args : List Value} {news : List (Addr × Obj)} {Post Post' : Value → List (Addr × Obj) → Prop} (C : Spec w D U f args news Post) (h : ∀ r n, Post r n → Post' r n) : Spec w D U f args news Post' := by
  intro mean mg mb dp un gd cn cs a ccd cl outer A₀ base h₀ L m s Q E B F X N T hk hd hu ret
  exact C.use B F X N T hk hd hu fun r n h' tk F N P => ret r n h' tk F N (h _ _ P)

/-- the source: two ints, as the law's draws keep them -/
abbrev srcObj (s0 s1 : Int) (t0 t1 : Tok) (n : Nat) : Obj := listOf #[.int s0 t0, .int s1 t1] n
structure SrcOk (s0 s1 : Int) : Prop where
  p0 : 0 ≤ s0
  p1 : 0 ≤ s1
  u1 : s1 < 2147483648

/-- a list of the ledger -/
abbrev lstObj (vs : List Value) (n : Nat) : Obj := listOf vs.toArray n
section
variable {prog : Program} {w : World} {A : Around} {E : Value → Shared → Prop} {s : Shared} {h₀ : Heap} {L l : Addr} {news : List (Addr × Obj)} {vs : List Value} {n : Nat} {Q : Value → Shared → Prop}
theorem m_isList (N : News h₀ L s.heap news) (hm : (l, lstObj vs n) ∈ news) : s.heap.IsList l vs.toArray := ⟨_, (N _ hm).1, rfl, n, rfl⟩
theorem m_len (N : News h₀ L s.heap news) (hm : (l, lstObj vs n) ∈ news) (hfit : (vs.length : Int) < 1099511627776) (h : Q (.int (vs.length : Int) (s.toks + 1)) { s with toks := s.toks + 1 + 1 }) :
    wpAny (model prog w) A (call (.builtin "len") [.ref l]) Q E s :=
  len_list (m_isList N hm) (by rw [List.size_toArray]; omega) (by rw [List.size_toArray]; exact h)
theorem m_item {value slice : PySem.Expr} {k : Int} {u : Tok} (N : News h₀ L s.heap news) (hm : (l, lstObj vs n) ∈ news) (h0 : 0 ≤ k) (h1 : k < (vs.length : Int)) (hfit : k < 1099511627776)
    (h : ∀ v, vs[k.toNat]? = some v → Q v s)
    (hs : subscripted slice false (.ref l) (.int k u) = operate [.ref l, .int k u] (getItem (.ref l) (.int k u)) := by with_unfolding_all rfl) :
    wpAny (model prog w) A (subscriptTail value slice (.ref l) (.int k u)) Q E s := by
  have hk : k.toNat < vs.length := by omega
  have e : vs[k.toNat]? = some vs[k.toNat] := List.getElem?_eq_getElem hk
  exact tail_any (m_isList N hm).typeIs slot_list_getitem.lookup (wpAny_getItem_list (m_isList N hm) h0 (by omega) (by simpa using e) (h _ e)) hs
end

theorem updF_front {d : Addr} {o : Obj} {news : List (Addr × Obj)} {g : Obj → List (Addr × Obj)} (U : UpdF d o news g) :
    ∃ rest, (∀ p ∈ rest, p.1 ≠ d) ∧ (∀ h₀ L h, News h₀ L h news → News h₀ L h ((d, o) :: rest)) ∧ ∀ h₀ L h o', News h₀ L h ((d, o') :: rest) → News h₀ L h (g o') := by
  obtain ⟨pre, post, rfl, hg, a, b⟩ := U.split
  refine ⟨pre ++ post, fun p hp => (List.mem_append.mp hp).elim (a p) (b p), fun h₀ L h N p hp => N p ?_, fun h₀ L h o' N p hp => N p ?_⟩
  · rcases List.mem_cons.mp hp with rfl | hp
    · exact List.mem_append.mpr (.inr (.head _))
    · exact List.mem_append.mpr ((List.mem_append.mp hp).imp id fun q => .tail _ q)
  · rw [hg] at hp
    rcases List.mem_append.mp hp with hp | hp
    · exact .tail _ (List.mem_append.mpr (.inl hp))
    · rcases List.mem_cons.mp hp with rfl | hp
      · exact .head _
      · exact .tail _ (List.mem_append.mpr (.inr hp))

theorem updF_mem {d : Addr} {o : Obj} {news : List (Addr × Obj)} {g : Obj → List (Addr × Obj)} (U : UpdF d o news g) : (d, o) ∈ news := by
  obtain ⟨pre, post, rfl, _⟩ := U.split
  exact List.mem_append.mpr (.inr (.head _))
theorem updF_ne {d l : Addr} {o : Obj} {news : List (Addr × Obj)} {g : Obj → List (Addr × Obj)} (U : UpdF d o news g) (h : AllLt l news) : l ≠ d := Nat.ne_of_gt (tb_ltOf h _ (updF_mem U))
theorem updF_keep {d : Addr} {o o' : Obj} {news : List (Addr × Obj)} {g : Obj → List (Addr × Obj)} (U : UpdF d o news g) {p : Addr × Obj} (hp : p ∈ news) (hn : p.1 ≠ d) : p ∈ g o' := by
  obtain ⟨pre, post, rfl, hg, _⟩ := U.split
  rw [hg]
  rcases List.mem_append.mp hp with hp | hp
  · exact List.mem_append.mpr (.inl hp)
  · rcases List.mem_cons.mp hp with rfl | hp
    · exact absurd rfl hn
    · exact List.mem_append.mpr (.inr (.tail _ hp))

theorem words_take_0 : True := by
  k_with_none
  k_with "k_all" => exact List.forall_mem_append.mpr ⟨by k_all, by k_all⟩
  k_with "k_all" => exact tbn_neAll (by assumption)
  k_with "k_all" => assumption
  k_with "k_updF" => assumption
  k_with "k_mem" => assumption
  k_with "k_room" => ktr_room
  trivial
theorem lcg_sq {k : Int} (h0 : 0 ≤ k) (h1 : k < 2147483648) : IntMulOk k k := .of_left (intBits_le_64 (by omega) (by omega))
theorem fm_nn {a b : Int} (h : 0 < b) : 0 ≤ a.fmod b := Int.fmod_nonneg_of_pos a h
theorem fm_lt {a b : Int} (h : 0 < b) : a.fmod b < b := Int.fmod_lt_of_pos a h
theorem fd_nn {a b : Int} (h0 : 0 ≤ a) (h : 0 < b) : 0 ≤ a.fdiv b := Int.fdiv_nonneg h0 (Int.le_of_lt h)
/-- how a draw ends -/
def TakePost (top : Int) (g : Obj → List (Addr × Obj)) (r : Value) (news' : List (Addr × Obj)) : Prop := ∃ k tk s0' s1' t0' t1' n', r = .int k tk ∧ 0 ≤ k ∧ k < top ∧ SrcOk s0' s1' ∧ news' = g (srcObj s0' s1' t0' t1' n')
theorem TakePost.mk {top k s0 s1 : Int} {tk t0 t1 : Tok} {n : Nat} {g : Obj → List (Addr × Obj)} (h0 : 0 ≤ k) (h1 : k < top) (ok : SrcOk s0 s1) : TakePost top g (.int k tk) (g (srcObj s0 s1 t0 t1 n)) := ⟨_, _, _, _, _, _, _, rfl, h0, h1, ok, rfl⟩
theorem TakePost.cur {top : Int} {g : Obj → List (Addr × Obj)} (C : Value → List (Addr × Obj) → Prop) (h : ∀ k tk s0 s1 t0 t1 n, 0 ≤ k → k < top → SrcOk s0 s1 → C (.int k tk) (g (srcObj s0 s1 t0 t1 n))) : ∀ r n, TakePost top g r n → C r n := by
  rintro _ _ ⟨k, tk, s0, s1, t0, t1, n, rfl, h0, h1, ok, rfl⟩
  exact h _ _ _ _ _ _ _ h0 h1 ok
theorem take_spec (w : World) {src : Addr} {s0 s1 : Int} {t0 t1 : Tok} {n : Nat} {top : Int} {tt : Tok} {news : List (Addr × Obj)} {g : Obj → List (Addr × Obj)}
    (U : UpdF src (srcObj s0 s1 t0 t1 n) news g) (ok : SrcOk s0 s1) (ht : 0 < top) (ht2 : top < 1048576) :
    Spec w 10 100 340 [.ref src, .int top tt] news (TakePost top g) := by
  intro mean mg mb dp un gd cn cs a ccd cl outer A₀ base h₀ L m s Q E B F X N0 T hk hdp hun hret
  obtain ⟨rest, hne, front, back⟩ := updF_front U
  have N := front _ _ _ N0
  clear N0 front U
  have h0 := ok.p0
  have h1 := ok.p1
  have h2 := ok.u1
  refine wpAny_call ?_
  k_dflt ktr_enter
  k_steps
  · exact hret _ _ _ _ (by k_asm) (back _ _ _ _ (by k_asm)) (.mk (fm_nn ht) (fm_lt ht) ⟨fd_nn h0 ht, h1, h2⟩)
  · refine mul_int ?_ (lcg_sq (fm_nn (by decide)) (Int.lt_trans (fm_lt (by decide)) (by decide)))
    k_steps
    exact hret _ _ _ _ (by k_asm) (back _ _ _ _ (by k_asm)) (.mk (fm_nn ht) (fm_lt ht) ⟨h0, fm_nn (by decide), Int.lt_trans (fm_lt (by decide)) (by decide)⟩)

theorem words_one_0 : True := by
  k_with_none
  k_with "k_all" => exact List.forall_mem_append.mpr ⟨by k_all, by k_all⟩
  k_with "k_all" => exact tbn_neAll (by assumption)
  k_with "k_all" => assumption
  k_with "k_updF" => assumption
  k_with "k_mem" => assumption
  k_with "k_room" => ktr_room
  k_with "call ref" => (k_here; (with_reducible show wpAny _ _ (call (Value.ref 340) _) _ _ _); (k_dflt (refine' Spec.useC (f := 340) (take_spec _ ?u_1 ?ok_1 ?ht_1 ?ht2_1) ?k1_1 ?k2_1 ?k3_1 ?k4_1 ?k5_1 ?k6_1 ?k7_1 ?k8_1 TakePost.cur ?_; (case k4_1 => k_asm); (case u_1 => k_updF); (case ok_1 => assumption); (case ht_1 => first | omega | decide); (case ht2_1 => first | omega | decide); (case k1_1 => k_asm); (case k2_1 => k_asm); (case k3_1 => k_asm); (case k5_1 => k_asm); (case k6_1 => first | exact rfl | assumption); (case k7_1 => first | omega | ktr_room); (case k8_1 => first | omega | ktr_units))); intro k'_1 kt'_1 s0'_1 s1'_1 t0'_1 t1'_1 n'_1 hk0'_1 hk1'_1 ok'_1 h'_1 tk'_1 F'_1 N'_1; (try dsimp only); (try k_fold))
  k_with "call builtin:len" => (k_here; (with_reducible show wpAny _ _ (call (Value.builtin "len") [Value.ref _]) _ _ _); k_dflt (refine' m_len ?k1_2 ?k2_2 ?k3_2 ?_; (case k1_2 => k_asm); (case k2_2 => k_mem); (case k3_2 => omega); k_whole))
  k_with "subscriptTail" => (k_here; (with_reducible show wpAny _ _ (subscriptTail _ _ (Value.ref _) (Value.int _ _)) _ _ _); k_dflt (refine' m_item ?k1_3 ?k2_3 ?k3_3 ?k4_3 ?k5_3 ?_ ?k6_3; (case k1_3 => k_asm); (case k2_3 => k_mem); (case k3_3 => omega); (case k4_3 => omega); (case k5_3 => omega); (case k6_3 => with_unfolding_all rfl); k_whole); intro v'_3 hv'_3; (try dsimp only); (try k_fold))
  trivial
def AllMem (p : Addr × Obj) (g : Obj → List (Addr × Obj)) : Prop := ∀ o', p ∈ g o'
theorem AllMem.get {p : Addr × Obj} {g : Obj → List (Addr × Obj)} (h : AllMem p g) (o : Obj) : p ∈ g o := h o
theorem words_one_1 : True := by
  k_with "k_mem" => exact AllMem.get (by assumption) _
  trivial
def OnePost (vs : List Value) (g : Obj → List (Addr × Obj)) (r : Value) (news' : List (Addr × Obj)) : Prop := ∃ (k : Nat) (s0' s1' : Int) (t0' t1' : Tok) (n' : Nat), vs[k]? = some r ∧ SrcOk s0' s1' ∧ news' = g (srcObj s0' s1' t0' t1' n')
theorem OnePost.mk {vs : List Value} {g : Obj → List (Addr × Obj)} {r : Value} {k : Nat} {s0 s1 : Int} {t0 t1 : Tok} {n : Nat} (h : vs[k]? = some r) (ok : SrcOk s0 s1) : OnePost vs g r (g (srcObj s0 s1 t0 t1 n)) := ⟨_, _, _, _, _, _, h, ok, rfl⟩
theorem OnePost.cur {vs : List Value} {g : Obj → List (Addr × Obj)} (C : Value → List (Addr × Obj) → Prop) (h : ∀ r (k : Nat) s0 s1 t0 t1 n, vs[k]? = some r → SrcOk s0 s1 → C r (g (srcObj s0 s1 t0 t1 n))) : ∀ r n, OnePost vs g r n → C r n := by
  rintro _ _ ⟨k, s0, s1, t0, t1, n, hv, ok, rfl⟩
  exact h _ _ _ _ _ _ _ hv ok
theorem one_spec (w : World) {src : Addr} {s0 s1 : Int} {t0 t1 : Tok} {n : Nat} {news : List (Addr × Obj)} {g : Obj → List (Addr × Obj)} {th : Addr} {vs : List Value} {nn : Nat}
    (U : UpdF src (srcObj s0 s1 t0 t1 n) news g) (ok : SrcOk s0 s1) (hth : (th, lstObj vs nn) ∈ news) (hne : th ≠ src) (h0 : 0 < vs.length) (h1 : vs.length < 1048576) :
    Spec w 20 200 347 [.ref src, .ref th] news (OnePost vs g) := by
  intro mean mg mb dp un gd cn cs a ccd cl outer A₀ base h₀ L m s Q E B F X N T hk hdp hun hret
  have hth2 : AllMem (th, lstObj vs nn) g := fun o' => updF_keep U hth hne
  refine wpAny_call ?_
  k_dflt ktr_enter
  k_steps
  exact hret _ _ _ _ (by k_asm) (by k_asm) (.mk (by assumption) (by assumption))

theorem words_tree_0 : True := by
  k_with_none
  k_with "k_all" => exact List.forall_mem_append.mpr ⟨by k_all, by k_all⟩
  k_with "k_all" => exact tbn_neAll (by assumption)
  k_with "k_all" => assumption
  k_with "k_updF" => assumption
  k_with "k_mem" => assumption
  k_with "k_room" => ktr_room
  trivial
abbrev tupObj (vs : List Value) (n : Nat) : Obj := { cls := .type "tuple", data := .seq vs.toArray n }
abbrev ent (P : Params) (k : Str) (t : Tok) (v : Value) : DictEntry := { hash := PyData.keyHash P k, key := Value.str k t, val := v }

/-- the kinds of nodes, with what is written in them -/
inductive Kd where
  | lit (n : Str) | num | var (n : Str) | call (n : Str) | bin (n : Str) | neg | filt | pathN | pathR | pathT | step
/-- an expression's tree: its kind and its parts, in parts_of's order -/
inductive Tr where
  | mk (k : Kd) (ts : List Tr)
def Tr.kind : Tr → Kd
  | .mk k _ => k
def Tr.kids : Tr → List Tr
  | .mk _ ts => ts
mutual
noncomputable def Tr.size : Tr → Nat
  | .mk _ ts => 1 + sizeAll ts
noncomputable def sizeAll : List Tr → Nat
  | [] => 0
  | t :: ts => t.size + sizeAll ts
end
mutual
noncomputable def Tr.ht : Tr → Nat
  | .mk _ ts => 1 + htAll ts
noncomputable def htAll : List Tr → Nat
  | [] => 0
  | t :: ts => max t.ht (htAll ts)
end

mutual
/-- the ledger bears the tree at the value -/
inductive TrIn (P : Params) (news : List (Addr × Obj)) : Value → Tr → Prop where
  | var {a d : Addr} {t u : Tok} {c : Nat} {n : Str} : (a, instObj 128 d) ∈ news → (d, dictOf [ent P (Str.ofString "name") t (.str n u)] c) ∈ news → PyData.strOk n = true → TrIn P news (.ref a) (.mk (.var n) [])
  | lit {a d : Addr} {t u : Tok} {c : Nat} {n : Str} : (a, instObj 72 d) ∈ news → (d, dictOf [ent P (Str.ofString "value") t (.str n u)] c) ∈ news → PyData.strOk n = true → TrIn P news (.ref a) (.mk (.lit n) [])
  | num {a d p : Addr} {t u u' : Tok} {c c' : Nat} : (a, instObj 100 d) ∈ news → (d, dictOf [ent P (Str.ofString "value") t (.ref p)] c) ∈ news → (p, tupObj [.int 4 u, .int 1 u'] c') ∈ news → TrIn P news (.ref a) (.mk .num [])
  | call {a d p : Addr} {t t' u : Tok} {c c' : Nat} {n : Str} {vs : List Value} {ts : List Tr} : (a, instObj 156 d) ∈ news → (d, dictOf [ent P (Str.ofString "name") t (.str n u), ent P (Str.ofString "arguments") t' (.ref p)] c) ∈ news → (p, tupObj vs c') ∈ news → PyData.strOk n = true →
      TrAll P news vs ts → TrIn P news (.ref a) (.mk (.call n) ts)
  | bin {a d : Addr} {t t' t'' u : Tok} {c : Nat} {n : Str} {l r : Value} {tl tr : Tr} : (a, instObj 184 d) ∈ news → (d, dictOf [ent P (Str.ofString "op") t (.str n u), ent P (Str.ofString "left") t' l, ent P (Str.ofString "right") t'' r] c) ∈ news → PyData.strOk n = true →
      TrIn P news l tl → TrIn P news r tr → TrIn P news (.ref a) (.mk (.bin n) [tl, tr])
  | neg {a d : Addr} {t : Tok} {c : Nat} {l : Value} {tl : Tr} : (a, instObj 212 d) ∈ news → (d, dictOf [ent P (Str.ofString "value") t l] c) ∈ news → TrIn P news l tl → TrIn P news (.ref a) (.mk .neg [tl])
  | filt {a d p : Addr} {t t' : Tok} {c c' : Nat} {b : Value} {tb : Tr} {vs : List Value} {ts : List Tr} : (a, instObj 240 d) ∈ news → (d, dictOf [ent P (Str.ofString "base") t b, ent P (Str.ofString "predicates") t' (.ref p)] c) ∈ news → (p, tupObj vs c') ∈ news →
      TrIn P news b tb → TrAll P news vs ts → TrIn P news (.ref a) (.mk .filt (tb :: ts))
  | pathN {a d p : Addr} {t t' : Tok} {c c' : Nat} {vs : List Value} {ts : List Tr} : (a, instObj 268 d) ∈ news → (d, dictOf [ent P (Str.ofString "start") t .none, ent P (Str.ofString "steps") t' (.ref p)] c) ∈ news → (p, tupObj vs c') ∈ news →
      TrAll P news vs ts → TrIn P news (.ref a) (.mk .pathN ts)
  | pathR {a d p : Addr} {t t' u : Tok} {c c' : Nat} {vs : List Value} {ts : List Tr} : (a, instObj 268 d) ∈ news → (d, dictOf [ent P (Str.ofString "start") t (.str (Str.ofString "root") u), ent P (Str.ofString "steps") t' (.ref p)] c) ∈ news → (p, tupObj vs c') ∈ news →
      TrAll P news vs ts → TrIn P news (.ref a) (.mk .pathR ts)
  | pathT {a d p : Addr} {t t' : Tok} {c c' : Nat} {b : Addr} {tb : Tr} {vs : List Value} {ts : List Tr} : (a, instObj 268 d) ∈ news → (d, dictOf [ent P (Str.ofString "start") t (.ref b), ent P (Str.ofString "steps") t' (.ref p)] c) ∈ news → (p, tupObj vs c') ∈ news →
      TrIn P news (.ref b) tb → TrAll P news vs ts → TrIn P news (.ref a) (.mk .pathT (tb :: ts))
  | step {a d p q : Addr} {t t' t'' u u' : Tok} {c c' c'' : Nat} {vs : List Value} {ts : List Tr} : (a, instObj 296 d) ∈ news → (d, dictOf [ent P (Str.ofString "axis") t (.str (Str.ofString "child") u), ent P (Str.ofString "test") t' (.ref q), ent P (Str.ofString "predicates") t'' (.ref p)] c) ∈ news → (q, tupObj [.str (Str.ofString "any") u'] c'') ∈ news → (p, tupObj vs c') ∈ news →
      TrAll P news vs ts → TrIn P news (.ref a) (.mk .step ts)
inductive TrAll (P : Params) (news : List (Addr × Obj)) : List Value → List Tr → Prop where
  | nil : TrAll P news [] []
  | cons {v : Value} {vs : List Value} {t : Tr} {ts : List Tr} : TrIn P news v t → TrAll P news vs ts → TrAll P news (v :: vs) (t :: ts)
end
mutual
theorem TrIn.mono {P : Params} {news news' : List (Addr × Obj)} (hs : ∀ p ∈ news, p ∈ news') : ∀ {v : Value} {t : Tr}, TrIn P news v t → TrIn P news' v t
  | _, _, .var h1 h2 h3 => .var (hs _ h1) (hs _ h2) h3
  | _, _, .lit h1 h2 h3 => .lit (hs _ h1) (hs _ h2) h3
  | _, _, .num h1 h2 h3 => .num (hs _ h1) (hs _ h2) (hs _ h3)
  | _, _, .call h1 h2 h3 h4 h5 => .call (hs _ h1) (hs _ h2) (hs _ h3) h4 (TrAll.mono hs h5)
  | _, _, .bin h1 h2 h3 h4 h5 => .bin (hs _ h1) (hs _ h2) h3 (TrIn.mono hs h4) (TrIn.mono hs h5)
  | _, _, .neg h1 h2 h3 => .neg (hs _ h1) (hs _ h2) (TrIn.mono hs h3)
  | _, _, .filt h1 h2 h3 h4 h5 => .filt (hs _ h1) (hs _ h2) (hs _ h3) (TrIn.mono hs h4) (TrAll.mono hs h5)
  | _, _, .pathN h1 h2 h3 h5 => .pathN (hs _ h1) (hs _ h2) (hs _ h3) (TrAll.mono hs h5)
  | _, _, .pathR h1 h2 h3 h5 => .pathR (hs _ h1) (hs _ h2) (hs _ h3) (TrAll.mono hs h5)
  | _, _, .pathT h1 h2 h3 h4 h5 => .pathT (hs _ h1) (hs _ h2) (hs _ h3) (TrIn.mono hs h4) (TrAll.mono hs h5)
  | _, _, .step h1 h2 h3 h4 h5 => .step (hs _ h1) (hs _ h2) (hs _ h3) (hs _ h4) (TrAll.mono hs h5)
theorem TrAll.mono {P : Params} {news news' : List (Addr × Obj)} (hs : ∀ p ∈ news, p ∈ news') : ∀ {vs : List Value} {ts : List Tr}, TrAll P news vs ts → TrAll P news' vs ts
  | _, _, .nil => .nil
  | _, _, .cons h r => .cons (TrIn.mono hs h) (TrAll.mono hs r)
end
/-- a tree of the ledger by its kind -/
theorem TrIn.split {P : Params} {news : List (Addr × Obj)} {C : Value → Tr → Prop}
    (var : ∀ (a d : Addr) (t u : Tok) (c : Nat) (n : Str), (a, instObj 128 d) ∈ news → (d, dictOf [ent P (Str.ofString "name") t (.str n u)] c) ∈ news → PyData.strOk n = true → C (.ref a) (.mk (.var n) []))
    (lit : ∀ (a d : Addr) (t u : Tok) (c : Nat) (n : Str), (a, instObj 72 d) ∈ news → (d, dictOf [ent P (Str.ofString "value") t (.str n u)] c) ∈ news → PyData.strOk n = true → C (.ref a) (.mk (.lit n) []))
    (num : ∀ (a d p : Addr) (t u u' : Tok) (c c' : Nat), (a, instObj 100 d) ∈ news → (d, dictOf [ent P (Str.ofString "value") t (.ref p)] c) ∈ news → (p, tupObj [.int 4 u, .int 1 u'] c') ∈ news → C (.ref a) (.mk .num []))
    (call : ∀ (a d p : Addr) (t t' u : Tok) (c c' : Nat) (n : Str) (vs : List Value) (ts : List Tr), (a, instObj 156 d) ∈ news → (d, dictOf [ent P (Str.ofString "name") t (.str n u), ent P (Str.ofString "arguments") t' (.ref p)] c) ∈ news → (p, tupObj vs c') ∈ news → PyData.strOk n = true → TrAll P news vs ts → C (.ref a) (.mk (.call n) ts))
    (bin : ∀ (a d : Addr) (t t' t'' u : Tok) (c : Nat) (n : Str) (l r : Value) (tl tr : Tr), (a, instObj 184 d) ∈ news → (d, dictOf [ent P (Str.ofString "op") t (.str n u), ent P (Str.ofString "left") t' l, ent P (Str.ofString "right") t'' r] c) ∈ news → PyData.strOk n = true → TrIn P news l tl → TrIn P news r tr → C (.ref a) (.mk (.bin n) [tl, tr]))
    (neg : ∀ (a d : Addr) (t : Tok) (c : Nat) (l : Value) (tl : Tr), (a, instObj 212 d) ∈ news → (d, dictOf [ent P (Str.ofString "value") t l] c) ∈ news → TrIn P news l tl → C (.ref a) (.mk .neg [tl]))
    (filt : ∀ (a d p : Addr) (t t' : Tok) (c c' : Nat) (b : Value) (tb : Tr) (vs : List Value) (ts : List Tr), (a, instObj 240 d) ∈ news → (d, dictOf [ent P (Str.ofString "base") t b, ent P (Str.ofString "predicates") t' (.ref p)] c) ∈ news → (p, tupObj vs c') ∈ news → TrIn P news b tb → TrAll P news vs ts → C (.ref a) (.mk .filt (tb :: ts)))
    (pathN : ∀ (a d p : Addr) (t t' : Tok) (c c' : Nat) (vs : List Value) (ts : List Tr), (a, instObj 268 d) ∈ news → (d, dictOf [ent P (Str.ofString "start") t .none, ent P (Str.ofString "steps") t' (.ref p)] c) ∈ news → (p, tupObj vs c') ∈ news → TrAll P news vs ts → C (.ref a) (.mk .pathN ts))
    (pathR : ∀ (a d p : Addr) (t t' u : Tok) (c c' : Nat) (vs : List Value) (ts : List Tr), (a, instObj 268 d) ∈ news → (d, dictOf [ent P (Str.ofString "start") t (.str (Str.ofString "root") u), ent P (Str.ofString "steps") t' (.ref p)] c) ∈ news → (p, tupObj vs c') ∈ news → TrAll P news vs ts → C (.ref a) (.mk .pathR ts))
    (pathT : ∀ (a d p : Addr) (t t' : Tok) (c c' : Nat) (b : Addr) (tb : Tr) (vs : List Value) (ts : List Tr), (a, instObj 268 d) ∈ news → (d, dictOf [ent P (Str.ofString "start") t (.ref b), ent P (Str.ofString "steps") t' (.ref p)] c) ∈ news → (p, tupObj vs c') ∈ news → TrIn P news (.ref b) tb → TrAll P news vs ts → C (.ref a) (.mk .pathT (tb :: ts)))
    (step : ∀ (a d p q : Addr) (t t' t'' u u' : Tok) (c c' c'' : Nat) (vs : List Value) (ts : List Tr), (a, instObj 296 d) ∈ news → (d, dictOf [ent P (Str.ofString "axis") t (.str (Str.ofString "child") u), ent P (Str.ofString "test") t' (.ref q), ent P (Str.ofString "predicates") t'' (.ref p)] c) ∈ news → (q, tupObj [.str (Str.ofString "any") u'] c'') ∈ news → (p, tupObj vs c') ∈ news → TrAll P news vs ts → C (.ref a) (.mk .step ts)) : ∀ v t, TrIn P news v t → C v t
  | _, _, .var h0 h1 h2 => var _ _ _ _ _ _ h0 h1 h2
  | _, _, .lit h0 h1 h2 => lit _ _ _ _ _ _ h0 h1 h2
  | _, _, .num h0 h1 h2 => num _ _ _ _ _ _ _ _ h0 h1 h2
  | _, _, .call h0 h1 h2 h3 h4 => call _ _ _ _ _ _ _ _ _ _ _ h0 h1 h2 h3 h4
  | _, _, .bin h0 h1 h2 h3 h4 => bin _ _ _ _ _ _ _ _ _ _ _ _ h0 h1 h2 h3 h4
  | _, _, .neg h0 h1 h2 => neg _ _ _ _ _ _ h0 h1 h2
  | _, _, .filt h0 h1 h2 h3 h4 => filt _ _ _ _ _ _ _ _ _ _ _ h0 h1 h2 h3 h4
  | _, _, .pathN h0 h1 h2 h3 => pathN _ _ _ _ _ _ _ _ _ h0 h1 h2 h3
  | _, _, .pathR h0 h1 h2 h3 => pathR _ _ _ _ _ _ _ _ _ _ h0 h1 h2 h3
  | _, _, .pathT h0 h1 h2 h3 h4 => pathT _ _ _ _ _ _ _ _ _ _ _ h0 h1 h2 h3 h4
  | _, _, .step h0 h1 h2 h3 h4 => step _ _ _ _ _ _ _ _ _ _ _ _ _ _ h0 h1 h2 h3 h4
section
variable {P : Params} {news : List (Addr × Obj)} {v : Value} {t : Tr} {vs ws : List Value} {ts us : List Tr}
theorem TrIn.ref (h : TrIn P news v t) : ∃ a, v = .ref a := by cases h <;> exact ⟨_, rfl⟩
theorem TrAll.length (h : TrAll P news vs ts) : vs.length = ts.length := by
  induction vs generalizing ts with
  | nil => cases h; rfl
  | cons v vs ih =>
    cases h with
    | cons _ r => rw [List.length_cons, List.length_cons, ih r]
theorem TrAll.append (h : TrAll P news vs ts) (k : TrAll P news ws us) : TrAll P news (vs ++ ws) (ts ++ us) := by
  induction vs generalizing ts with
  | nil => cases h; exact k
  | cons v vs ih =>
    cases h with
    | cons a r => exact .cons a (ih r)
theorem TrAll.get (h : TrAll P news vs ts) {i : Nat} {v : Value} (hv : vs[i]? = some v) : ∃ t, ts[i]? = some t ∧ TrIn P news v t := by
  induction vs generalizing ts i with
  | nil => cases hv
  | cons x vs ih =>
    cases h with
    | cons a r =>
      cases i with
      | zero => cases hv; exact ⟨_, rfl, a⟩
      | succ i => exact ih r hv
theorem size_get : ∀ {ts : List Tr} {i : Nat} {t : Tr}, ts[i]? = some t → t.size ≤ sizeAll ts
  | _ :: _, 0, _, h => by cases h; simp [sizeAll]
  | _ :: ts, i + 1, _, h => by
    have := size_get (ts := ts) (i := i) (by simpa using h)
    simp only [sizeAll]; omega
end

-- what row tells of a tree
def rowHead : Kd → List Dat
  | .lit n => [.str (Str.ofString "literal"), .str n]
  | .num => [.str (Str.ofString "number"), .tuple [.int 4, .int 1]]
  | .var n => [.str (Str.ofString "variable"), .str n]
  | .call n => [.str (Str.ofString "call"), .str n]
  | .bin n => [.str (Str.ofString "binary"), .str n]
  | .neg => [.str (Str.ofString "negated")]
  | .filt => [.str (Str.ofString "filter")]
  | .pathN => [.str (Str.ofString "path"), .none]
  | .pathR => [.str (Str.ofString "path"), .str (Str.ofString "root")]
  | .pathT => [.str (Str.ofString "path")]
  | .step => [.str (Str.ofString "step"), .str (Str.ofString "child"), .tuple [.str (Str.ofString "any")]]
def rowTail : Kd → List Dat → List Dat
  | .lit _, _ => []
  | .num, _ => []
  | .var _, _ => []
  | .call _, ds => [.tuple ds]
  | .bin _, ds => ds
  | .neg, ds => ds
  | .filt, d :: ds => [d, .tuple ds]
  | .filt, [] => []
  | .pathN, ds => [.tuple ds]
  | .pathR, ds => [.tuple ds]
  | .pathT, d :: ds => [d, .tuple ds]
  | .pathT, [] => []
  | .step, ds => [.tuple ds]
mutual
noncomputable def Tr.row : Tr → Dat
  | .mk k ts => .tuple (rowHead k ++ rowTail k (rowAll ts))
noncomputable def rowAll : List Tr → List Dat
  | [] => []
  | t :: ts => t.row :: rowAll ts
end

theorem words_inst_0 : True := by
  k_with_none
  k_with "k_all" => exact List.forall_mem_append.mpr ⟨by k_all, by k_all⟩
  k_with "k_all" => exact tbn_neAll (by assumption)
  k_with "k_all" => assumption
  k_with "k_updF" => assumption
  k_with "k_mem" => assumption
  k_with "k_room" => ktr_room
  trivial
section
variable {prog : Program} {w : World} {A : Around} {E : Value → Shared → Prop} {s : Shared} {K : Frag} {b C : Addr} {ob : Obj} {o : Value}
structure PlainC (K : Frag) (C : Addr) : Prop where
  eq : findIn K (.ref C) "__eq__" = some (some (.builtin "object.__eq__"))
  ne : findIn K (.ref C) "__ne__" = some (some (.builtin "object.__ne__"))
  obj : subIn K (.ref C) (.type "object") = some true
  non : subIn K (.ref C) (.type "NoneType") = some false
  str : subIn K (.ref C) (.type "str") = some false

theorem inst_check {id : String} {owner n : String} {rest : List Value} (X : K.In s.heap) (hb : s.heap.get? b = some ob) (hc : ob.cls = .ref C) (hs : subIn K (.ref C) (.type owner) = some true)
    (hk : builtinKind id = some .slot) (hsp : splitId id = some (owner, n)) (ha : argsOk id ⟨.ref b :: rest, []⟩) {Q : Unit → Shared → Prop} (hq : Q () s) :
    wpAny (model prog w) A (checkBuiltinCall id ⟨.ref b :: rest, []⟩) Q E s := by
  simp only [checkBuiltinCall, hk, hsp]
  refine wpAny_bind ?_
  unfold isInstance
  refine wpAny_bind (m := typeOf (.ref b)) (wpAny_typeOf_ref hb ?_)
  rw [hc]
  refine (looks_subIn X hs).here ?_
  simp only [Bool.not_true, Bool.false_eq_true, if_false]
  cases hsig : Manifest.signature? id with
  | none => exact wpAny_pure hq
  | some sig =>
    simp only [argsOk, hsig] at ha
    have h2 : Bind.checkArgs id sig ⟨.ref b :: rest, []⟩ = pure () := ha
    show wpAny _ A (Bind.checkArgs id sig ⟨.ref b :: rest, []⟩) Q E _
    rw [h2]; exact wpAny_pure hq

theorem inst_call_eq (X : K.In s.heap) (hb : s.heap.get? b = some ob) (hc : ob.cls = .ref C) (hp : PlainC K C) (hs : isSame (.ref b) o = pure false) {Q : Value → Shared → Prop} (hq : Q .notImplemented s) :
    wpAny (model prog w) A (call (.builtin "object.__eq__") [.ref b, o]) Q E s := by
  refine wpAny_call (codeAny_call_builtin F.cmp_object.eq.plain F.cmpEntry_eq (inst_check X hb hc hp.obj F.cmpKind_eq F.cmpSplit_eq (F.cmpArgs_eq _ _) ?_))
  show wpAny _ _ (isSame (.ref b) o >>= fun r => if r = true then ret (.bool true) else ret .notImplemented) _ _ s
  rw [hs]
  refine wpAny_bind (wpAny_pure ?_)
  simp only [Bool.false_eq_true, if_false]
  exact wpAny_pure hq

theorem inst_tryEq (X : K.In s.heap) (hb : s.heap.get? b = some ob) (hc : ob.cls = .ref C) (hp : PlainC K C) (hs : isSame (.ref b) o = pure false) {Q : Option Value → Shared → Prop} (hq : Q none s) :
    wpAny (model prog w) A (tryCompare (.ref b) "__eq__" o) Q E s := by
  simp only [tryCompare, callSpecialIfBound?, bindSpecialIfBound?, specialOf]
  refine wpAny_bind (wpAny_holding (wpAny_bind (wpAny_bind (wpAny_bind (m := typeOf (.ref b)) (wpAny_typeOf_ref hb ?_)))))
  rw [hc]
  refine (looks_findIn X hp.eq).here ?_
  refine wpAny_bind (wpAny_askSetting (wpAny_ite ?_))
  have fin : wpAny (model prog w) A (call (.builtin "object.__eq__") ([.ref b] ++ [o]) >>= fun v => pure (some v)) (fun a s' => wpAny (model prog w) A (match a with | some .notImplemented | none => pure none | some v => pure (some v)) Q E s') E s :=
    wpAny_bind (inst_call_eq X hb hc hp hs (wpAny_pure (wpAny_pure hq)))
  simp only [F.cmp_object.eq.bind]
  split
  · exact wpAny_bind (wpAny_pure (wpAny_pure fin))
  · exact wpAny_tryCatch (wpAny_bind (wpAny_pure (wpAny_pure fin)))
theorem inst_eq_right {T ida : String} {a : Value} (X : K.In s.heap) (hb : s.heap.get? b = some ob) (hc : ob.cls = .ref C) (hp : PlainC K C) (hs : isSame (.ref b) a = pure false) (hs' : isSame a (.ref b) = pure false) (hu : A.units < cLine)
    (ha : s.TypeIs a T) (hT : subIn K (.ref C) (.type T) = some false) (h1 : Slot T "__eq__" ida)
    (hc1 : ∀ Q' : Value → Shared → Prop, Q' .notImplemented s → wpAny (model prog w) A (call (.builtin ida) [a, .ref b]) Q' E s) {Q : Value → Shared → Prop} (hq : Q (.bool false) s) :
    wpAny (model prog w) A (richCompare .Eq a (.ref b)) Q E s := by
  simp only [richCompare, cmpInfo_Eq, ha.oneThing_none]
  try with_reducible refine wpAny_holding ?_
  refine wpAny_bind (wpAny_cRoomFor_or (.inr hu) ?_)
  refine wpAny_bind (wpAny_typeOf ha (wpAny_bind (m := typeOf (.ref b)) (wpAny_typeOf_ref hb ?_)))
  rw [hc]
  have hne : (Value.type T != Value.ref C) = true := by simp
  simp only [hne, if_true]
  refine wpAny_bind ((looks_subIn X hT).here ?_)
  simp only [Bool.false_eq_true, if_false, Bool.not_false, if_true]
  refine wpAny_bind (m := tryCompare a _ (.ref b)) (wpAny_tryCompare_declines ha h1 (hc1 _ ⟨rfl, ?_⟩))
  refine wpAny_bind (m := tryCompare (.ref b) _ a) (inst_tryEq X hb hc hp hs ?_)
  exact wpAny_bind (wpAny_rule (wpAny_bind (wpAny_of_eq hs' (wpAny_pure hq))))

open PySem.SeqAt PySem.MeetsSeq in
theorem rc_none_inst (X : K.In s.heap) (hb : s.heap.get? b = some ob) (hc : ob.cls = .ref C) (hp : PlainC K C) (hu : A.units < cLine) {Q : Value → Shared → Prop} (hq : Q (.bool false) s) :
    wpAny (model prog w) A (richCompare .Eq .none (.ref b)) Q E s :=
  inst_eq_right X hb hc hp rfl rfl hu (T := "NoneType") (show s.TypeIs .none "NoneType" from rfl) hp.non F.slot_NoneType_eq (fun _ hq => call_gives F.slot_NoneType_eq (show s.TypeIs .none "NoneType" from rfl) F.entry_NoneType_eq (F.args_NoneType_eq_2 _ _) (NoneType___eq___none_ref_0 b) hq) hq
theorem str_eq_inst (x : Str) (u : Tok) (hb : s.heap.get? b = some ob) (hd : ob.data = .plain) {Q : Value → Shared → Prop} (hq : Q .notImplemented s) :
    wpAny (model prog w) A (call (.builtin "str.__eq__") [.str x u, .ref b]) Q E s := by
  refine call_meets F.slot_str_eq (typeIs_str s x u) F.entry_str_eq (F.args_str_eq_2 _ _) (S := fun A R s => s.heap.get? b = some ob ∧ R (.ok (.ret .notImplemented)) s) ?_ ⟨hb, hq⟩
  refine .of_wp fun prog w A R s h => ?_
  obtain ⟨hp, g, d, tk, os⟩ := s
  obtain ⟨hl, h⟩ := h
  wp_walk using wpAny_loadPart' hl, wpAny_load hl
  rw [hd]
  exact wpAny_pure (wpAny_bind (wpAny_rule (wpAny_pure ⟨_, rfl, h⟩)))
theorem str_ne_inst (x : Str) (u : Tok) (hb : s.heap.get? b = some ob) (hd : ob.data = .plain) {Q : Value → Shared → Prop} (hq : Q .notImplemented s) :
    wpAny (model prog w) A (call (.builtin "str.__ne__") [.str x u, .ref b]) Q E s := by
  refine call_meets F.slot_str_ne (typeIs_str s x u) F.entry_str_ne (F.args_str_ne_2 _ _) (S := fun A R s => s.heap.get? b = some ob ∧ R (.ok (.ret .notImplemented)) s) ?_ ⟨hb, hq⟩
  refine .of_wp fun prog w A R s h => ?_
  obtain ⟨hp, g, d, tk, os⟩ := s
  obtain ⟨hl, h⟩ := h
  wp_walk using wpAny_loadPart' hl, wpAny_load hl
  rw [hd]
  exact wpAny_pure (wpAny_bind (wpAny_rule (wpAny_pure ⟨_, rfl, h⟩)))
theorem rc_str_inst {x : Str} {u : Tok} (X : K.In s.heap) (hb : s.heap.get? b = some ob) (hd : ob.data = .plain) (hc : ob.cls = .ref C) (hp : PlainC K C) (hu : A.units < cLine) {Q : Value → Shared → Prop} (hq : Q (.bool false) s) :
    wpAny (model prog w) A (richCompare .Eq (.str x u) (.ref b)) Q E s :=
  inst_eq_right X hb hc hp rfl rfl hu (T := "str") (typeIs_str s x u) hp.str F.slot_str_eq (fun _ hq => str_eq_inst x u hb hd hq) hq

theorem inst_special_eq (X : K.In s.heap) (hb : s.heap.get? b = some ob) (hc : ob.cls = .ref C) (hp : PlainC K C) (hs : isSame (.ref b) o = pure false) {Q : Option Value → Shared → Prop} (hq : Q (some .notImplemented) s) :
    wpAny (model prog w) A (callSpecialIfBound? (.ref b) "__eq__" [o]) Q E s := by
  simp only [callSpecialIfBound?, bindSpecialIfBound?, specialOf]
  refine wpAny_holding (wpAny_bind (wpAny_bind (wpAny_bind (m := typeOf (.ref b)) (wpAny_typeOf_ref hb ?_))))
  rw [hc]
  refine (looks_findIn X hp.eq).here ?_
  refine wpAny_bind (wpAny_askSetting (wpAny_ite ?_))
  have fin : wpAny (model prog w) A (call (.builtin "object.__eq__") ([.ref b] ++ [o]) >>= fun v => pure (some v)) Q E s :=
    wpAny_bind (inst_call_eq X hb hc hp hs (wpAny_pure hq))
  simp only [F.cmp_object.eq.bind]
  split
  · exact wpAny_bind (wpAny_pure (wpAny_pure fin))
  · exact wpAny_tryCatch (wpAny_bind (wpAny_pure (wpAny_pure fin)))

theorem inst_call_ne (X : K.In s.heap) (hb : s.heap.get? b = some ob) (hc : ob.cls = .ref C) (hp : PlainC K C) (hs : isSame (.ref b) o = pure false) (hu : A.units + 1 < cLine) {Q : Value → Shared → Prop} (hq : Q .notImplemented s) :
    wpAny (model prog w) A (call (.builtin "object.__ne__") [.ref b, o]) Q E s := by
  refine wpAny_call (codeAny_call_builtin F.cmp_object.ne.plain F.cmpEntry_ne (inst_check X hb hc hp.obj F.cmpKind_ne F.cmpSplit_ne (F.cmpArgs_ne _ _) ?_))
  show wpAny _ _ (cRoomFor "comparison" [.ref b, o] >>= fun _ => callSpecialIfBound? (.ref b) "__eq__" [o] >>= fun r => match r with | some .notImplemented | none => ret .notImplemented | some r => truthy r >>= fun t => ret (.bool (!t))) _ _ s
  refine wpAny_bind (wpAny_cRoomFor_or (.inr hu) (wpAny_bind (inst_special_eq X hb hc hp hs ?_)))
  exact wpAny_pure hq

theorem inst_tryNe (X : K.In s.heap) (hb : s.heap.get? b = some ob) (hc : ob.cls = .ref C) (hp : PlainC K C) (hs : isSame (.ref b) o = pure false) (hu : A.units + 1 < cLine) {Q : Option Value → Shared → Prop} (hq : Q none s) :
    wpAny (model prog w) A (tryCompare (.ref b) "__ne__" o) Q E s := by
  simp only [tryCompare, callSpecialIfBound?, bindSpecialIfBound?, specialOf]
  refine wpAny_bind (wpAny_holding (wpAny_bind (wpAny_bind (wpAny_bind (m := typeOf (.ref b)) (wpAny_typeOf_ref hb ?_)))))
  rw [hc]
  refine (looks_findIn X hp.ne).here ?_
  refine wpAny_bind (wpAny_askSetting (wpAny_ite ?_))
  have fin : wpAny (model prog w) A (call (.builtin "object.__ne__") ([.ref b] ++ [o]) >>= fun v => pure (some v)) (fun a s' => wpAny (model prog w) A (match a with | some .notImplemented | none => pure none | some v => pure (some v)) Q E s') E s :=
    wpAny_bind (inst_call_ne X hb hc hp hs hu (wpAny_pure (wpAny_pure hq)))
  simp only [F.cmp_object.ne.bind]
  split
  · exact wpAny_bind (wpAny_pure (wpAny_pure fin))
  · exact wpAny_tryCatch (wpAny_bind (wpAny_pure (wpAny_pure fin)))

theorem ne_inst_str {x : Str} {u : Tok} (X : K.In s.heap) (hb : s.heap.get? b = some ob) (hd : ob.data = .plain) (hc : ob.cls = .ref C) (hp : PlainC K C) (hu : A.units + 1 < cLine) {Q : Value → Shared → Prop} (hq : Q (.bool true) s) :
    wpAny (model prog w) A (compareOp .NotEq (.ref b) (.str x u)) Q E s := by
  show wpAny _ _ (richCompare .NotEq (.ref b) (.str x u)) _ _ s
  simp only [richCompare, cmpInfo_NotEq, oneThing_ref]
  try with_reducible refine wpAny_holding ?_
  refine wpAny_bind (wpAny_cRoomFor_or (.inr (Nat.lt_of_succ_lt hu)) ?_)
  refine wpAny_bind (m := typeOf (.ref b)) (wpAny_typeOf_ref hb (wpAny_bind (wpAny_typeOf (typeIs_str s x u) ?_)))
  rw [hc]
  have hne : (Value.ref C != Value.type "str") = true := by simp
  simp only [hne, if_true]
  refine wpAny_bind ((looks_subIn X (t := .type "str") (base := .ref C) (r := false) (by rfl)).here ?_)
  simp only [Bool.false_eq_true, if_false, Bool.not_false, if_true]
  refine wpAny_bind (m := tryCompare (.ref b) _ (.str x u)) (inst_tryNe X hb hc hp rfl hu ?_)
  refine wpAny_bind (m := tryCompare (.str x u) _ (.ref b)) (wpAny_tryCompare_declines (typeIs_str s x u) F.slot_str_ne (str_ne_inst x u hb hd ⟨rfl, ?_⟩))
  exact wpAny_bind (wpAny_rule (wpAny_bind (wpAny_of_eq (show isSame (.ref b) (.str x u) = pure false from rfl) (wpAny_pure hq))))

open PySem.SeqAt in
theorem in_noneroot {D : Addr} {u u' : Tok} {n : Nat} (X : K.In s.heap) (hD : s.heap.get? D = some { cls := .type "tuple", data := .seq #[.none, .str (Str.ofString "root") u] n }) (hb : s.heap.get? b = some ob) (hd : ob.data = .plain) (hc : ob.cls = .ref C) (hp : PlainC K C) (hu : A.units + 1 < cLine) {Q : Value → Shared → Prop} (hq : Q (.bool false) s) :
    wpAny (model prog w) A (compareOp .In (.ref b) (.ref D)) Q E s := by
  refine in_tupleAt (items := #[.none, .str (Str.ofString "root") u]) (fun _ => false) ⟨_, hD, rfl, n, rfl⟩ (fun y hy => ?_) (by simpa using hq)
  have hy' : y = .none ∨ y = .str (Str.ofString "root") u := by simpa using hy
  intro prog w E Q h
  unfold eqBool
  refine wpAny_holding ?_
  rcases hy' with rfl | rfl
  · refine wpAny_ite_split (fun hab => absurd (eq_of_beq hab) nofun) (fun _ => ?_)
    exact wpAny_bind (rc_none_inst (A := A.in1) X hb hc hp hu (wpAny_truthy_bool h))
  · refine wpAny_ite_split (fun hab => absurd (eq_of_beq hab) nofun) (fun _ => ?_)
    exact wpAny_bind (rc_str_inst (A := A.in1) X hb hd hc hp hu (wpAny_truthy_bool h))
open PySem.SeqAt in
theorem in_none_noneroot {D : Addr} {u : Tok} {n : Nat} (hD : s.heap.get? D = some { cls := .type "tuple", data := .seq #[.none, .str (Str.ofString "root") u] n }) {Q : Value → Shared → Prop} (hq : Q (.bool true) s) :
    wpAny (model prog w) A (compareOp .In .none (.ref D)) Q E s := by
  refine in_tupleAt (items := #[.none, .str (Str.ofString "root") u]) (fun y => match y with | .none => true | _ => false) ⟨_, hD, rfl, n, rfl⟩ (fun y hy => ?_) (by simpa using hq)
  have hy' : y = .none ∨ y = .str (Str.ofString "root") u := by simpa using hy
  rcases hy' with rfl | rfl
  · exact EqAt.same _
  · exact EqAt.str_none _ _
open PySem.SeqAt in
theorem in_root_noneroot {D : Addr} {u u' : Tok} {n : Nat} (hD : s.heap.get? D = some { cls := .type "tuple", data := .seq #[.none, .str (Str.ofString "root") u] n }) {Q : Value → Shared → Prop} (hq : Q (.bool true) s) :
    wpAny (model prog w) A (compareOp .In (.str (Str.ofString "root") u') (.ref D)) Q E s := by
  refine in_tupleAt (items := #[.none, .str (Str.ofString "root") u]) (fun y => match y with | .none => false | _ => true) ⟨_, hD, rfl, n, rfl⟩ (fun y hy => ?_) (by simpa using hq)
  have hy' : y = .none ∨ y = .str (Str.ofString "root") u := by simpa using hy
  rcases hy' with rfl | rfl
  · exact EqAt.none_str _ _
  · have := EqAt.str_str (A := A.in1) (s := s) (Str.ofString "root") u (Str.ofString "root") u'
    simpa using this
end
theorem plain_72 (P : Params) : PlainC (hd.heap_39 P) 72 := ⟨by kernel_rfl, by kernel_rfl, by kernel_rfl, by kernel_rfl, by kernel_rfl⟩
theorem plain_100 (P : Params) : PlainC (hd.heap_39 P) 100 := ⟨by kernel_rfl, by kernel_rfl, by kernel_rfl, by kernel_rfl, by kernel_rfl⟩
theorem plain_128 (P : Params) : PlainC (hd.heap_39 P) 128 := ⟨by kernel_rfl, by kernel_rfl, by kernel_rfl, by kernel_rfl, by kernel_rfl⟩
theorem plain_156 (P : Params) : PlainC (hd.heap_39 P) 156 := ⟨by kernel_rfl, by kernel_rfl, by kernel_rfl, by kernel_rfl, by kernel_rfl⟩
theorem plain_184 (P : Params) : PlainC (hd.heap_39 P) 184 := ⟨by kernel_rfl, by kernel_rfl, by kernel_rfl, by kernel_rfl, by kernel_rfl⟩
theorem plain_212 (P : Params) : PlainC (hd.heap_39 P) 212 := ⟨by kernel_rfl, by kernel_rfl, by kernel_rfl, by kernel_rfl, by kernel_rfl⟩
theorem plain_240 (P : Params) : PlainC (hd.heap_39 P) 240 := ⟨by kernel_rfl, by kernel_rfl, by kernel_rfl, by kernel_rfl, by kernel_rfl⟩
theorem plain_268 (P : Params) : PlainC (hd.heap_39 P) 268 := ⟨by kernel_rfl, by kernel_rfl, by kernel_rfl, by kernel_rfl, by kernel_rfl⟩
theorem plain_296 (P : Params) : PlainC (hd.heap_39 P) 296 := ⟨by kernel_rfl, by kernel_rfl, by kernel_rfl, by kernel_rfl, by kernel_rfl⟩

theorem words_parts_0 : True := by
  k_with_none
  k_with "k_all" => exact List.forall_mem_append.mpr ⟨by k_all, by k_all⟩
  k_with "k_all" => exact tbn_neAll (by assumption)
  k_with "k_all" => assumption
  k_with "k_updF" => assumption
  k_with "k_mem" => assumption
  k_with "k_room" => ktr_room
  trivial
theorem TrIn.inst {P : Params} {news : List (Addr × Obj)} {b : Addr} {t : Tr} (h : TrIn P news (.ref b) t) : ∃ C d, (b, instObj C d) ∈ news ∧ PlainC (hd.heap_39 P) C := by
  have z := TrIn.split (C := fun v _ => ∀ b, v = .ref b → ∃ C d, (b, instObj C d) ∈ news ∧ PlainC (hd.heap_39 P) C) (P := P) (news := news)
    (fun _ _ _ _ _ _ h1 _ _ b e => by cases e; exact ⟨_, _, h1, plain_128 P⟩)
    (fun _ _ _ _ _ _ h1 _ _ b e => by cases e; exact ⟨_, _, h1, plain_72 P⟩)
    (fun _ _ _ _ _ _ _ _ h1 _ _ b e => by cases e; exact ⟨_, _, h1, plain_100 P⟩)
    (fun _ _ _ _ _ _ _ _ _ _ _ h1 _ _ _ _ b e => by cases e; exact ⟨_, _, h1, plain_156 P⟩)
    (fun _ _ _ _ _ _ _ _ _ _ _ _ h1 _ _ _ _ b e => by cases e; exact ⟨_, _, h1, plain_184 P⟩)
    (fun _ _ _ _ _ _ h1 _ _ b e => by cases e; exact ⟨_, _, h1, plain_212 P⟩)
    (fun _ _ _ _ _ _ _ _ _ _ _ h1 _ _ _ _ b e => by cases e; exact ⟨_, _, h1, plain_240 P⟩)
    (fun _ _ _ _ _ _ _ _ _ h1 _ _ _ b e => by cases e; exact ⟨_, _, h1, plain_268 P⟩)
    (fun _ _ _ _ _ _ _ _ _ _ h1 _ _ _ b e => by cases e; exact ⟨_, _, h1, plain_268 P⟩)
    (fun _ _ _ _ _ _ _ _ _ _ _ h1 _ _ _ _ b e => by cases e; exact ⟨_, _, h1, plain_268 P⟩)
    (fun _ _ _ _ _ _ _ _ _ _ _ _ _ _ h1 _ _ _ _ b e => by cases e; exact ⟨_, _, h1, plain_296 P⟩)
  exact z _ _ h b rfl

theorem in_noneroot' {prog : Program} {w : World} {A : Around} {E : Value → Shared → Prop} {s : Shared} {h₀ : Heap} {L b D : Addr} {m : Str → Option Value} {news news₀ : List (Addr × Obj)} {t : Tr} {P : Params} {u : Tok} {n : Nat} (F : Fr h₀ L s.heap m) (X : (hd.heap_39 P).In h₀) (N : News h₀ L s.heap news)
    (hD : (D, ({ cls := .type "tuple", data := .seq #[.none, .str (Str.ofString "root") u] n } : Obj)) ∈ news) (R : TrIn P news₀ (.ref b) t) (hs : ∀ p ∈ news₀, p ∈ news) (hu : A.units + 1 < cLine) {Q : Value → Shared → Prop} (hq : Q (.bool false) s) :
    wpAny (model prog w) A (compareOp .In (.ref b) (.ref D)) Q E s := by
  obtain ⟨C, d, hb, hp⟩ := R.inst
  exact in_noneroot (u' := 0) (X.keeps F.keep) (N.get hD) (N.get (hs _ hb)) rfl rfl hp hu hq

theorem add_tup1 {prog : Program} {w : World} {A : Around} {E : Value → Shared → Prop} {s : Shared} {h₀ : Heap} {L t p : Addr} {m : Str → Option Value} {news : List (Addr × Obj)} {b : Value} {ws : List Value} {n c : Nat} {Q : Value → Shared → Prop} (F : Fr h₀ L s.heap m)
    (N : News h₀ L s.heap ((t, tupObj [b] n) :: news)) (ht : ∀ q ∈ news, q.1 < t) (hp : (p, tupObj ws c) ∈ news)
    (h : ∀ r c' h', Fr h₀ L h' m → News h₀ L h' ((r, tupObj (b :: ws) c') :: news) → (∀ q ∈ news, q.1 < r) → Q (.ref r) { s with heap := h' }) (hsz : ws.length ≤ 1000 := by first | assumption | omega) :
    wpAny (model prog w) A (binaryOp .Add (.ref t) (.ref p)) Q E s := by
  refine add_tuples (vs := [b]) (ws := ws) F N ⟨_, N.get (.head _), rfl, n, rfl⟩ ⟨_, N.get (.tail _ hp), rfl, c, rfl⟩ (fun e => by cases e) (fun _ e => ?_) (fun _ _ h' F' N' => ?_) ?_
  · subst e; exact h t n s.heap F N ht
  · exact h _ 0 h' F' (fun q hq => N' q ((List.mem_cons.mp hq).elim (fun e => e ▸ .head _) fun e => .tail _ (.tail _ e))) fun q hq => Heap.lt_size (N q (.tail _ hq)).1
  · rw [show sizeLine = 16777216 from rfl, List.length_singleton]; omega

def PartsPost (P : Params) (small news : List (Addr × Obj)) (t : Tr) (r : Value) (news' : List (Addr × Obj)) : Prop :=
  ∃ (p : Addr) (vs : List Value) (c : Nat) (tl : List (Addr × Obj)), news' = news ++ tl ∧ (∀ q ∈ news, ∀ x ∈ tl, q.1 ≠ x.1) ∧ r = .ref p ∧ (p, tupObj vs c) ∈ news' ∧ TrAll P small vs t.kids
theorem PartsPost.cur {P : Params} {small news : List (Addr × Obj)} {t : Tr} (C : Value → List (Addr × Obj) → Prop) (h : ∀ p vs c tl, (∀ q ∈ news, ∀ x ∈ tl, q.1 ≠ x.1) → (p, tupObj vs c) ∈ news ++ tl → TrAll P small vs t.kids → C (.ref p) (news ++ tl)) : ∀ r n, PartsPost P small news t r n → C r n := by
  rintro _ _ ⟨p, vs, c, tl, rfl, ord, rfl, hp, hk⟩
  exact h _ _ _ _ ord hp hk
theorem parts_old {P : Params} {small news : List (Addr × Obj)} {t : Tr} {p : Addr} {vs : List Value} {c : Nat} (hp : (p, tupObj vs c) ∈ news) (hk : TrAll P small vs t.kids) : PartsPost P small news t (.ref p) (news ++ []) :=
  ⟨p, vs, c, [], rfl, fun _ _ _ h => (nomatch h), rfl, List.mem_append.mpr (.inl hp), hk⟩
theorem parts_new {P : Params} {small news : List (Addr × Obj)} {t : Tr} {p : Addr} {vs : List Value} {c : Nat} (lt : ∀ q ∈ news, q.1 < p) (hk : TrAll P small vs t.kids) : PartsPost P small news t (.ref p) (news ++ [(p, tupObj vs c)]) :=
  ⟨p, vs, c, _, rfl, fun q hq x hx => by rw [List.mem_singleton.mp hx]; exact Nat.ne_of_lt (lt q hq), rfl, List.mem_append.mpr (.inr (.head _)), hk⟩
theorem news_new {h₀ h : Heap} {L : Addr} {q : Addr × Obj} {news : List (Addr × Obj)} (N : News h₀ L h (q :: news)) : News h₀ L h (news ++ [q]) := ktn_tl1 N
theorem news_old {h₀ h : Heap} {L : Addr} {news : List (Addr × Obj)} (N : News h₀ L h news) : News h₀ L h (news ++ []) := by rw [List.append_nil]; exact N

theorem words_parts_1 : True := by
  k_with "compareOp In" => (k_here; k_dflt (first
      | refine' in_none_noneroot (News.get (by k_asm) (by k_mem)) ?_
      | refine' in_root_noneroot (News.get (by k_asm) (by k_mem)) ?_
      | (refine' in_noneroot' ?k1_5 ?k2_5 ?k3_5 ?k4_5 ?k5_5 ?k6_5 ?k7_5 ?_; (case k1_5 => k_asm); (case k2_5 => k_asm); (case k3_5 => k_asm); (case k4_5 => k_mem); (case k5_5 => assumption); (case k6_5 => exact fun _ h => .tail _ h); (case k7_5 => ktr_units))))
  k_with "binaryOp Add" => (k_here; (with_reducible show wpAny _ _ (binaryOp _ (Value.ref _) (Value.ref _)) _ _ _); k_dflt (refine' add_tup1 ?k1_6 ?k2_6 ?k3_6 ?k4_6 ?_ ?k5_6; (case k1_6 => k_asm); (case k2_6 => k_asm); (case k3_6 => first | assumption | exact tb_ltOf (by assumption)); (case k4_6 => k_mem); (case k5_6 => assumption)); intro r'_6 c'_6 h'_6 F'_6 N'_6 l1_6; (try k_lt l1_6); (try k_sweep); (try dsimp only))
  trivial
theorem news_sub {h₀ h : Heap} {L : Addr} {big small : List (Addr × Obj)} (N : News h₀ L h big) (hs : ∀ p ∈ small, p ∈ big) : News h₀ L h small := fun p hp => N p (hs p hp)
theorem drop2 {q g : Addr × Obj} {news : List (Addr × Obj)} : ∀ p ∈ q :: news, p ∈ q :: g :: news := fun p h => by
  rcases List.mem_cons.mp h with rfl | h
  · exact .head _
  · exact .tail _ (.tail _ h)
theorem len_ht : ∀ (ts : List Tr), ts.length ≤ sizeAll ts
  | [] => Nat.le_refl _
  | t :: ts => by
    have := len_ht ts
    cases t
    simp only [List.length_cons, sizeAll, Tr.size]; omega
set_option maxHeartbeats 16000000 in
theorem parts_spec (w : World) {v : Value} {t : Tr} {small news : List (Addr × Obj)} (hsub : ∀ p ∈ small, p ∈ news) (R : TrIn w.params small v t) (hsz : t.size ≤ 1000) :
    Spec w 20 200 321 [v] news (PartsPost w.params small news t) := by
  refine' TrIn.split (C := fun v t => t.size ≤ 1000 → Spec w 20 200 321 [v] news (PartsPost w.params small news t)) ?var ?lit ?num ?call ?bin ?neg ?filt ?pathN ?pathR ?pathT ?step v t R hsz
  case filt =>
    clear hsz R
    intro a d p t t' c c' b tb vs ts h1 h2 h3 hB hA hsz
    have hb1 := hsub _ h1
    have hb2 := hsub _ h2
    have hb3 := hsub _ h3
    have hs' : vs.length ≤ 1000 := Nat.le_trans (Nat.le_of_eq hA.length) (Nat.le_trans (len_ht _) (by simp only [Tr.size, sizeAll] at hsz; omega))
    intro mean mg mb dp un gd cn cs a ccd cl outer A₀ base h₀ L m s Q E B F X N T hk hdp hun hret
    refine wpAny_call ?_
    k_dflt ktr_enter
    k_steps
    exact hret _ _ _ _ (by k_asm) (news_new (news_sub (by k_asm) (fun _ h => h))) (parts_new (by first | assumption | exact tb_ltOf (by assumption)) (.cons hB hA))
  case pathT =>
    clear hsz R
    intro a d p t t' c c' b tb vs ts h1 h2 h3 hB hA hsz
    have hb1 := hsub _ h1
    have hb2 := hsub _ h2
    have hb3 := hsub _ h3
    have hs' : vs.length ≤ 1000 := Nat.le_trans (Nat.le_of_eq hA.length) (Nat.le_trans (len_ht _) (by simp only [Tr.size, sizeAll] at hsz; omega))
    have hBb := hB.mono hsub
    intro mean mg mb dp un gd cn cs a ccd cl outer A₀ base h₀ L m s Q E B F X N T hk hdp hun hret
    refine wpAny_call ?_
    k_dflt ktr_enter
    k_steps
    exact hret _ _ _ _ (by k_asm) (news_new (news_sub (by k_asm) drop2)) (parts_new (by first | exact fun q hq => (by assumption : ∀ q ∈ _ :: _, q.1 < _) q (.tail _ hq) | exact tb_ltOf (And.right (by assumption))) (.cons hB hA))
  case pathN =>
    clear hsz R
    intro a d p t t' c c' vs ts h1 h2 h3 hA hsz
    have hb1 := hsub _ h1
    have hb2 := hsub _ h2
    have hb3 := hsub _ h3
    intro mean mg mb dp un gd cn cs a ccd cl outer A₀ base h₀ L m s Q E B F X N T hk hdp hun hret
    refine wpAny_call ?_
    k_dflt ktr_enter
    k_steps
    exact hret _ _ _ _ (by k_asm) (news_old (news_sub (by k_asm) (fun _ h => .tail _ h))) (parts_old hb3 hA)
  case pathR =>
    clear hsz R
    intro a d p t t' u c c' vs ts h1 h2 h3 hA hsz
    have hb1 := hsub _ h1
    have hb2 := hsub _ h2
    have hb3 := hsub _ h3
    intro mean mg mb dp un gd cn cs a ccd cl outer A₀ base h₀ L m s Q E B F X N T hk hdp hun hret
    refine wpAny_call ?_
    k_dflt ktr_enter
    k_steps
    exact hret _ _ _ _ (by k_asm) (news_old (news_sub (by k_asm) (fun _ h => .tail _ h))) (parts_old hb3 hA)
  case call =>
    clear hsz R
    intro a d p t t' u c c' nm vs ts h1 h2 h3 h4 hA hsz
    have hb1 := hsub _ h1
    have hb2 := hsub _ h2
    have hb3 := hsub _ h3
    intro mean mg mb dp un gd cn cs a ccd cl outer A₀ base h₀ L m s Q E B F X N T hk hdp hun hret
    refine wpAny_call ?_
    k_dflt ktr_enter
    k_steps
    exact hret _ _ _ _ (by k_asm) (news_old (by k_asm)) (parts_old hb3 hA)
  case step =>
    clear hsz R
    intro a d p q t t' t'' u u' c c' c'' vs ts h1 h2 hq h3 hA hsz
    have hb1 := hsub _ h1
    have hb2 := hsub _ h2
    have hb3 := hsub _ h3
    intro mean mg mb dp un gd cn cs a ccd cl outer A₀ base h₀ L m s Q E B F X N T hk hdp hun hret
    refine wpAny_call ?_
    k_dflt ktr_enter
    k_steps
    exact hret _ _ _ _ (by k_asm) (news_old (by k_asm)) (parts_old hb3 hA)
  case bin =>
    clear hsz R
    intro a d t t' t'' u c nm l r tt tr h1 h2 h3 hB hC hsz
    have hb1 := hsub _ h1
    have hb2 := hsub _ h2
    intro mean mg mb dp un gd cn cs a ccd cl outer A₀ base h₀ L m s Q E B F X N T hk hdp hun hret
    refine wpAny_call ?_
    k_dflt ktr_enter
    k_steps
    exact hret _ _ _ _ (by k_asm) (news_new (by k_asm)) (parts_new (by first | assumption | exact tb_ltOf (by assumption)) (.cons hB (.cons hC .nil)))
  case neg =>
    clear hsz R
    intro a d t c l tt h1 h2 hB hsz
    have hb1 := hsub _ h1
    have hb2 := hsub _ h2
    intro mean mg mb dp un gd cn cs a ccd cl outer A₀ base h₀ L m s Q E B F X N T hk hdp hun hret
    refine wpAny_call ?_
    k_dflt ktr_enter
    k_steps
    exact hret _ _ _ _ (by k_asm) (news_new (by k_asm)) (parts_new (by first | assumption | exact tb_ltOf (by assumption)) (.cons hB .nil))
  case var =>
    clear hsz R
    intro a d t u c nm h1 h2 h3 hsz
    have hb1 := hsub _ h1
    have hb2 := hsub _ h2
    intro mean mg mb dp un gd cn cs a ccd cl outer A₀ base h₀ L m s Q E B F X N T hk hdp hun hret
    refine wpAny_call ?_
    k_dflt ktr_enter
    k_steps
    exact hret _ _ _ _ (by k_asm) (news_new (by k_asm)) (parts_new (by first | assumption | exact tb_ltOf (by assumption)) .nil)
  case lit =>
    clear hsz R
    intro a d t u c nm h1 h2 h3 hsz
    have hb1 := hsub _ h1
    have hb2 := hsub _ h2
    intro mean mg mb dp un gd cn cs a ccd cl outer A₀ base h₀ L m s Q E B F X N T hk hdp hun hret
    refine wpAny_call ?_
    k_dflt ktr_enter
    k_steps
    exact hret _ _ _ _ (by k_asm) (news_new (by k_asm)) (parts_new (by first | assumption | exact tb_ltOf (by assumption)) .nil)
  case num =>
    clear hsz R
    intro a d p t u u' c c' h1 h2 h3 hsz
    have hb1 := hsub _ h1
    have hb2 := hsub _ h2
    have hb3 := hsub _ h3
    intro mean mg mb dp un gd cn cs a ccd cl outer A₀ base h₀ L m s Q E B F X N T hk hdp hun hret
    refine wpAny_call ?_
    k_dflt ktr_enter
    k_steps
    exact hret _ _ _ _ (by k_asm) (news_new (by k_asm)) (parts_new (by first | assumption | exact tb_ltOf (by assumption)) .nil)

theorem words_comp_0 : True := by
  k_with_none
  k_with "k_all" => exact List.forall_mem_append.mpr ⟨by k_all, by k_all⟩
  k_with "k_all" => exact tbn_neAll (by assumption)
  k_with "k_all" => assumption
  k_with "k_updF" => assumption
  k_with "k_mem" => assumption
  k_with "k_room" => ktr_room
  trivial
section
open PyProof.Rows.LCg
variable {prog : Program} {w : World} {A : Around} {E : Value → Shared → Prop} {s : Shared} {h₀ : Heap} {L : Addr} {m : Str → Option Value} {env : Env}

theorem compEnd_mono {s₁ s₂ : Shared} {I C D : Addr} {oI oC oD : Obj} {S : List (Addr × Obj) → Prop} {r r' : Value → List (Addr × Obj) → Prop} {y : Value} (h : CompEnd h₀ L m s₁ I oI C oC D oD S r y s₂) (k : ∀ nw, r y nw → r' y nw) : CompEnd h₀ L m s₁ I oI C oC D oD S r' y s₂ := by
  obtain ⟨h', tk, nw, e, F, N, off, hS, hr⟩ := h
  exact ⟨h', tk, nw, e, F, N, off, hS, k _ hr⟩

/-- a comprehension's turns by an invariant over what it has made and the ledger -/
theorem compRest_inv {elt : Expr} {x : Str} {scope : Scope} {cl : List (Str × Addr)} {S : List (Addr × Obj) → Prop} {P : Nat → Value → Prop} {Fin : List Value → List (Addr × Obj) → Prop} {n : Nat} (J : Nat → List Value → List (Addr × Obj) → Prop)
    (step : ∀ i ys news v I oI C oC D m₂ h tk (E' : Value → Shared → Prop) (R : Value → Shared → Prop), (∀ y s', CompEnd h₀ L m { s with heap := h, toks := tk } I oI C oC D (lst ys) S (fun y news' => J (i + 1) (ys ++ [y]) news') y s' → R y s') → i < n → J i ys news → P i v → NsObj oC m₂ → m₂ x = some v → Fr h₀ L h m → News h₀ L h ((I, oI) :: (C, oC) :: (D, lst ys) :: news) → Off3 I C D news → ((@Ne Nat I C) ∧ (@Ne Nat I D) ∧ (@Ne Nat C D)) →
      wpAny (model prog w) A (eval elt (compEnvC scope cl C env)) R E' { s with heap := h, toks := tk })
    (fin : ∀ ys news, J n ys news → Fin ys news) : ∀ k i ys news, i + k = n → J i ys news → CompRest prog w A h₀ L m env elt x scope cl s S P Fin k i ys news := by
  intro k
  induction k with
  | zero => intro i ys news e j; exact CompRest.zero (fin _ _ (by rw [← e, Nat.add_zero]; exact j))
  | succ k ih =>
    intro i ys news e j
    refine CompRest.succ fun v I oI C oC D m₂ h tk E' hP hC hx F N off ne => ?_
    exact wpAny_mono (step i ys news v I oI C oC D m₂ h tk E' _ (fun _ _ q => q) (by omega) j hP hC hx F N off ne) (fun y s₂ q => compEnd_mono q fun nw j' => ih (i + 1) _ nw (by omega) j') fun _ _ q => q

def SrcT (prog : Program) (w : World) (A : Around) (h₀ : Heap) (L : Addr) (m : Str → Option Value) (env : Env) (elt : Expr) (x : Str) (scope : Scope) (cl : List (Str × Addr)) (Fin : Shared → List Value → List (Addr × Obj) → Prop) (xv : Value) (s₁ : Shared) : Prop :=
  ∃ ax vs c news, xv = .ref ax ∧ A.handled = none ∧ Fr h₀ L s₁.heap m ∧ News h₀ L s₁.heap news ∧ (ax, tupObj vs c) ∈ news ∧ vs.length ≤ sizeLine ∧
    ∀ s₂ : Shared, (∃ h, s₂ = { s₁ with heap := h }) → CompRest prog w A h₀ L m env elt x scope cl s₂ (fun nw => (ax, tupObj vs c) ∈ nw) (fun i v => vs[i]? = some v) (Fin s₂) vs.length 0 [] news

theorem SrcT.mk {elt : Expr} {x : Str} {scope : Scope} {cl : List (Str × Addr)} {Fin : Shared → List Value → List (Addr × Obj) → Prop} {ax : Addr} {vs : List Value} {c : Nat} {news : List (Addr × Obj)} {s₁ : Shared} (hh : A.handled = none) (F : Fr h₀ L s₁.heap m) (N : News h₀ L s₁.heap news) (hm : (ax, tupObj vs c) ∈ news) (hsz : vs.length ≤ sizeLine)
    (k : ∀ g, CompRest prog w A h₀ L m env elt x scope cl { s₁ with heap := g } (fun nw => (ax, tupObj vs c) ∈ nw) (fun i v => vs[i]? = some v) (Fin { s₁ with heap := g }) vs.length 0 [] news) : SrcT prog w A h₀ L m env elt x scope cl Fin (.ref ax) s₁ :=
  ⟨ax, vs, c, news, rfl, hh, F, N, hm, hsz, by rintro _ ⟨g, rfl⟩; exact k g⟩
theorem tup_st {ax I : Addr} {vs : List Value} {c : Nat} : ∀ i (h h' : Heap) (o : Obj) (nw : List (Addr × Obj)), (h.IsTupleIter I ax i ∧ h.IsTuple ax vs.toArray) → h.get? I = some o → h'.get? I = some o → (∀ b o, h₀.get? b = some o → h'.get? b = some o) → News h₀ L h' nw → (ax, tupObj vs c) ∈ nw → (h'.IsTupleIter I ax i ∧ h'.IsTuple ax vs.toArray) :=
  fun i h h' o nw st e e' k N S => ⟨by obtain ⟨o', q, r⟩ := st.1; rw [e] at q; cases q; exact ⟨o, e', r⟩, ⟨_, (N _ S).1, rfl, c, rfl⟩⟩

theorem ListComp_T {elt iter : Expr} {x : Str} {px : Pos} {scope : Scope} {cl : List (Str × Addr)} {pos : Pos} {Q : Value → Shared → Prop} (_F₀ : Fr h₀ L s.heap m)
    (hclos : closureFor scope env = pure cl) (hcell : ∀ y ∈ scope.names, y.2 ≠ .cell) (hkind : scope.kind = .function)
    (hnames : ∀ y ∈ scope.names, y.2 = .local → scope.names.lookup y.1 = some .local) (hx : scope.names.lookup x = some .local)
    (h : wpAny (model prog w) A (eval iter env) (SrcT prog w A h₀ L m env elt x scope cl (fun s₂ => FinE h₀ L m s₂ Q)) E s)
    (hs : ∀ x, foldedSetIterable iter env x = pure x := by intro _; rfl) :
    wpAny (model prog w) A (eval (.ListComp elt [⟨.Name x px, iter, [], 0⟩] scope pos) env) Q E s := by
  rw [eval_ListComp]
  refine wpAny_comprehension_free (use := none) rfl hs hclos hkind hnames (wpAny_mono h (fun xv s₁ h₁ => ?_) fun _ _ e => e)
  obtain ⟨ax, vs, c, news, rfl, hh, F, N, hm, hsz, R⟩ := h₁
  have hl : s₁.heap.IsTuple ax vs.toArray := ⟨_, (N _ hm).1, rfl, c, rfl⟩
  have hlt : ax < s₁.heap.objs.size := Heap.lt_size (N _ hm).1
  refine wpAny_pyIter_tuple hl ?_
  have up : ∀ b o, s₁.heap.get? b = some o → (s₁.heap.push { cls := .type "tuple_iterator", data := .fields #[.ref ax, .int 0 0] }).get? b = some o := fun b o e => Heap.get?_push_of_some _ e
  have W := Walks.tuple (prog := prog) (w := w) hh s₁.heap.objs.size ax (Nat.ne_of_lt hlt) vs.toArray
  rw [List.size_toArray] at W
  refine block_U W hsz (fun i h st => by obtain ⟨o, e, _⟩ := st.1; exact ⟨o, e⟩) tup_st hcell hkind hx ⟨⟨_, Heap.get?_push_size _ rfl, rfl, rfl⟩, ⟨_, up _ _ (N _ hm).1, rfl, c, rfl⟩⟩ (fun b hb => ?_)
    (F.keeps up) (N.grown up) (Nat.ne_of_lt F.ns.lt) (next_is_new F) (fun p hp => Nat.ne_of_lt (Heap.lt_size (N p hp).1)) hm (by simpa using R _ ⟨_, rfl⟩) ?_
  · show b < (s₁.heap.push _).objs.size
    rw [Heap.size_push]
    rcases List.mem_cons.mp hb with rfl | hb
    · exact Nat.lt_succ_self _
    · rw [List.mem_singleton.mp hb]; exact Nat.lt_succ_of_lt hlt
  · intro D C h tk m' ys news' F' N' o1 hn hC₀ hD₀ hCL hDL hCD offC fin
    refine ⟨m', hn, fun h'' hs'' => fin D h'' tk (F'.change hs'' hCL hC₀) (fun p hp => ?_) o1⟩
    refine ⟨hs''.extBut _ _ ?_ (N' p hp).1, (N' p hp).2⟩
    rcases List.mem_cons.mp hp with rfl | hp
    · exact Ne.symm hCD
    · exact offC p hp
theorem off3_app {I C D : Addr} {oI oC oD : Obj} : ∀ {nw tl : List (Addr × Obj)}, Off3 I C D nw → (∀ q ∈ (I, oI) :: (C, oC) :: (D, oD) :: nw, ∀ p ∈ tl, q.1 ≠ p.1) → Off3 I C D (nw ++ tl) := by
  intro nw tl h k
  refine Off3.of fun p hp => ?_
  rcases List.mem_append.mp hp with hp | hp
  · exact h.mem p hp
  · exact ⟨Ne.symm (k (I, oI) (.head _) p hp), Ne.symm (k (C, oC) (.tail _ (.head _)) p hp), Ne.symm (k (D, oD) (.tail _ (.tail _ (.head _))) p hp)⟩
end

theorem words_whil_0 : True := by
  k_with_none
  k_with "k_all" => exact List.forall_mem_append.mpr ⟨by k_all, by k_all⟩
  k_with "k_all" => exact tbn_neAll (by assumption)
  k_with "k_all" => assumption
  k_with "k_updF" => assumption
  k_with "k_mem" => assumption
  k_with "k_room" => ktr_room
  trivial
def WRest (prog : Program) (w : World) (A : Around) (E : Value → Shared → Prop) (env : Env) (test : PySem.Expr) (body orelse : List Stmt) (Q : Flow → Shared → Prop) (s : Shared) : Prop := WhlRest prog w A E env test body orelse Q 0 s
def WPost (prog : Program) (w : World) (A : Around) (E : Value → Shared → Prop) (env : Env) (test : PySem.Expr) (body orelse : List Stmt) (Q : Flow → Shared → Prop) (f : Flow) (s : Shared) : Prop :=
  match f with
  | .next => WRest prog w A E env test body orelse Q s
  | .cont => WRest prog w A E env test body orelse Q s
  | .brk => Q .next s
  | .ret v => Q (.ret v) s
section
variable {prog : Program} {w : World} {A : Around} {E : Value → Shared → Prop} {s : Shared} {env : Env} {test : PySem.Expr} {body orelse : List Stmt} {Q : Flow → Shared → Prop}
theorem wrest_start {pos : Pos} (h : WRest prog w A E env test body orelse Q s) : wpAny (model prog w) A (exec (.While test body orelse pos) env) Q E s := whl_start 0 h
theorem wrest_ind (Inv : Nat → Shared → Prop) (hE : PassesOwn (model prog w) A env E)
    (step : ∀ n s, Inv n s → (∀ n' s', n' < n → Inv n' s' → WRest prog w A E env test body orelse Q s') →
      wpAny (model prog w) A (isTrue test env (eval test env)) (fun b s₂ => WhlIf b (wpAny (model prog w) A (execs body env) (WPost prog w A E env test body orelse Q) E s₂) (wpAny (model prog w) A (execs orelse env) Q E s₂)) E s) :
    ∀ n s, Inv n s → WRest prog w A E env test body orelse Q s := by
  intro n
  induction n using Nat.strongRecOn with
  | ind n ih =>
    intro s hI
    show WhlRest prog w A E env test body orelse Q (0 + 1) s
    refine whl_turn (k := 0) hE (wpAny_mono (step n s hI fun n' s' hn hI' => ih n' hn s' hI') (fun b s₂ q => ?_) fun _ _ q => q)
    unfold WhlIf at q ⊢
    split
    · rename_i hb
      rw [if_pos hb] at q
      refine wpAny_mono q (fun f s₃ q' => ?_) fun _ _ q => q
      cases f <;> exact q'
    · rename_i hb
      rw [if_neg hb] at q
      exact q
end
theorem fr_eq {h₀ h : Heap} {L : Addr} {m m' : Str → Option Value} (F : Fr h₀ L h m) (e : ∀ y, m y = m' y) : Fr h₀ L h m' := (funext e : m = m') ▸ F

theorem words_row_0 : True := by
  k_with_none
  k_with "k_all" => exact List.forall_mem_append.mpr ⟨by k_all, by k_all⟩
  k_with "k_all" => exact tbn_neAll (by assumption)
  k_with "k_all" => assumption
  k_with "k_updF" => assumption
  k_with "k_mem" => assumption
  k_with "k_room" => ktr_room
  trivial
def rowAddr : Kd → Addr
  | .lit _ => 69
  | .num => 97
  | .var _ => 125
  | .call _ => 153
  | .bin _ => 181
  | .neg => 209
  | .filt => 237
  | .pathN => 265
  | .pathR => 265
  | .pathT => 265
  | .step => 293
/-- small: what the tree lies in; big: all that is known -/
def RowPost (small big : List (Addr × Obj)) (d : Dat) (r : Value) (news' : List (Addr × Obj)) : Prop :=
  ∃ tl, news' = big ++ tl ∧ (∀ q ∈ big, ∀ p ∈ tl, q.1 ≠ p.1) ∧ DatIn (small ++ tl) r d
theorem RowPost.cur {small big : List (Addr × Obj)} {d : Dat} (C : Value → List (Addr × Obj) → Prop) (h : ∀ r tl, (∀ q ∈ big, ∀ p ∈ tl, q.1 ≠ p.1) → DatIn (small ++ tl) r d → C r (big ++ tl)) : ∀ r n, RowPost small big d r n → C r n := by
  rintro _ _ ⟨tl, rfl, ord, hd⟩
  exact h _ _ ord hd
def RowOk (w : World) (t : Tr) : Prop := ∀ (v : Value) (small big : List (Addr × Obj)), (∀ p ∈ small, p ∈ big) → TrIn w.params small v t → Spec w (4 * t.ht) (40 * t.ht) (rowAddr t.kind) [v] big (RowPost small big t.row)

theorem getRow {prog : Program} {w : World} {A : Around} {E : Value → Shared → Prop} {s : Shared} {h₀ : Heap} {L b : Addr} {m : Str → Option Value} {news : List (Addr × Obj)} {t : Tr} {P : Params} {pl : Sem Bool} {Q : Value × List Value → Shared → Prop} (F : Fr h₀ L s.heap m) (X : (hd.heap_39 P).In h₀) (N : News h₀ L s.heap news)
    (R : TrIn P news (.ref b) t) (hq : Q (.ref (rowAddr t.kind), [.ref b]) s) : wpAny (model prog w) A (getMethod (.ref b) (Str.ofString "row") pl) Q E s := by
  cases R <;> (walk_at "getMethod ref"; exact hq)

theorem rowAll_take {ts : List Tr} {i : Nat} {t : Tr} (h : ts[i]? = some t) : rowAll (ts.take (i + 1)) = rowAll (ts.take i) ++ [t.row] := by
  induction ts generalizing i with
  | nil => cases h
  | cons x ts ih =>
    cases i with
    | zero => cases h; rfl
    | succ i => simp only [List.take_succ_cons, rowAll, List.cons_append, ih (i := i) (by simpa using h)]
theorem ht_get : ∀ {ts : List Tr} {i : Nat} {t : Tr}, ts[i]? = some t → t.ht ≤ htAll ts
  | _ :: _, 0, _, h => by cases h; simp only [htAll]; omega
  | _ :: ts, i + 1, _, h => by
    have := ht_get (ts := ts) (i := i) (by simpa using h)
    simp only [htAll]; omega


theorem words_row_1 : True := by
  k_with "eval ListComp" => (k_here; k_dflt (refine ListComp_T (by k_asm) (by rfl) (by decide) (by rfl) (by decide) (by rfl) ?_))
  k_with "getMethod ref" => (k_here; k_dflt (refine' getRow ?k1_8 ?k2_8 ?k3_8 ?k4_8 ?_; (case k1_8 => k_asm); (case k2_8 => k_asm); (case k3_8 => k_asm); (case k4_8 => first | assumption | exact TrIn.mono (fun _ h => List.mem_append.mpr (.inl h)) (by assumption))); (try dsimp only))
  k_with "call type:tuple" => (k_here; (with_reducible show wpAny _ _ (call (Value.type _) [Value.ref _]) _ _ _); k_dflt (refine' kde_tupleOf ?k1_9 ?k2_9 ?k3_9 ?k4_9 ?k5_9 ?_; (case k1_9 => k_asm); (case k2_9 => k_asm); (case k3_9 => exact m_isList (by k_asm) (by k_mem)); (case k4_9 => (simp only [List.size_toArray]; omega)); (case k5_9 => exact rfl); k_whole); intro D'_9 h'_9 F'_9 N'_9 l1_9; (try k_lt l1_9); (try k_sweep))
  trivial
theorem mem_mid {small tl tl' : List (Addr × Obj)} : ∀ p ∈ small ++ tl', p ∈ small ++ (tl ++ tl') := fun _ h => (List.mem_append.mp h).elim (fun h => List.mem_append.mpr (.inl h)) fun h => List.mem_append.mpr (.inr (List.mem_append.mpr (.inr h)))
theorem mem_left {small tl tl' : List (Addr × Obj)} : ∀ p ∈ small ++ tl, p ∈ small ++ (tl ++ tl') := fun _ h => (List.mem_append.mp h).elim (fun h => List.mem_append.mpr (.inl h)) fun h => List.mem_append.mpr (.inr (List.mem_append.mpr (.inl h)))
theorem rowTurn {h₀ h : Heap} {L : Addr} {m : Str → Option Value} {s₁ : Shared} {tk : Nat} {I C D : Addr} {oI oC : Obj} {small big tl news' : List (Addr × Obj)} {ys : List Value} {ts : List Tr} {t : Tr} {r : Value} {i : Nat}
    (F : Fr h₀ L h m) (N : News h₀ L h news') (off : LCg.Off3 I C D (big ++ tl)) (ord : ∀ q ∈ big, ∀ p ∈ tl, q.1 ≠ p.1) (hys : DatAll (small ++ tl) ys (rowAll (ts.take i))) {S : List (Addr × Obj) → Prop} (hS : ∀ nw, (∀ p ∈ big, p ∈ nw) → S nw) (ht : ts[i]? = some t)
    (P : RowPost small ((I, oI) :: (C, oC) :: (D, LCg.lst ys) :: (big ++ tl)) t.row r news') :
    LCg.CompEnd h₀ L m s₁ I oI C oC D (LCg.lst ys) S (fun y news' => ∃ tl, news' = big ++ tl ∧ (∀ q ∈ big, ∀ p ∈ tl, q.1 ≠ p.1) ∧ DatAll (small ++ tl) (ys ++ [y]) (rowAll (ts.take (i + 1)))) r { s₁ with heap := h, toks := tk } := by
  obtain ⟨tl', e, ord', hr⟩ := P
  subst e
  refine LCg.CompEnd.intro F N (big ++ (tl ++ tl')) (fun q hq => ?_) ?_ (hS _ fun p hp => List.mem_append.mpr (.inl hp)) ⟨tl ++ tl', rfl, fun q hq x hx => ?_, ?_⟩
  · rw [← List.append_assoc] at hq
    simpa using hq
  · rw [← List.append_assoc]; exact off3_app off ord'
  · rcases List.mem_append.mp hx with hx | hx
    · exact ord q hq x hx
    · exact ord' q (.tail _ (.tail _ (.tail _ (List.mem_append.mpr (.inl hq))))) x hx
  · rw [rowAll_take ht]
    exact (hys.mono mem_left).append (.cons (hr.mono mem_mid) .nil)
theorem keep_row (P : Params) (k : Kd) : keepIn (hd.heap_39 P) (.ref (rowAddr k)) = true := by cases k <;> kernel_rfl
theorem sub_app {small big tl : List (Addr × Obj)} (h : ∀ p ∈ small, p ∈ big) : ∀ p ∈ small, p ∈ big ++ tl := fun p hp => List.mem_append.mpr (.inl (h p hp))
theorem rowAll_len : ∀ ts : List Tr, (rowAll ts).length = ts.length
  | [] => rfl
  | t :: ts => by simp only [rowAll, List.length_cons, rowAll_len ts]
theorem rowFin {h₀ h : Heap} {L T : Addr} {all small big tl : List (Addr × Obj)} {vals : List Value} {c : Nat} {ds : List Dat} (N : News h₀ L h all) (hT : (T, tupObj vals c) ∈ all) (hs : ∀ p ∈ big ++ tl, p ∈ all) (lt : ∀ p ∈ big ++ tl, p.1 < T)
    (ord : ∀ q ∈ big, ∀ p ∈ tl, q.1 ≠ p.1) (hd : DatAll (small ++ tl) vals ds) : News h₀ L h (big ++ (tl ++ [(T, tupObj vals c)])) ∧ RowPost small big (.tuple ds) (.ref T) (big ++ (tl ++ [(T, tupObj vals c)])) := by
  refine ⟨fun p hp => N p ?_, tl ++ [(T, tupObj vals c)], rfl, fun q hq x hx => ?_, .tuple (List.mem_append.mpr (.inr (List.mem_append.mpr (.inr (.head _))))) (hd.mono mem_left)⟩
  · rw [← List.append_assoc] at hp
    rcases List.mem_append.mp hp with hp | hp
    · exact hs p hp
    · rw [List.mem_singleton.mp hp]; exact hT
  · rcases List.mem_append.mp hx with hx | hx
    · exact ord q hq x hx
    · rw [List.mem_singleton.mp hx]; exact Nat.ne_of_lt (lt q (List.mem_append.mpr (.inl hq)))


theorem words_row_2 : True := by
  k_with "callWith ref" => (k_here; (with_reducible show wpAny _ _ (callWith _ (Value.ref (rowAddr _)) _ _ _) _ _ _); k_dflt (refine' callWith_K0 (Frag.In.keeps (by k_asm) (Fr.keep (by k_asm))) (keep_row _ _) ?_))
  k_with "call ref" => (k_here; (with_reducible show wpAny _ _ (call (Value.ref (rowAddr _)) _) _ _ _); (k_dflt (refine' Spec.useC ((?ko_11 : RowOk _ _) _ _ _ ?ks_11 ?kR_11) ?k1_11 ?k2_11 ?k3_11 ?k4_11 ?k5_11 ?k6_11 ?k7_11 ?k8_11 RowPost.cur ?_; (case k1_11 => k_asm); (case k2_11 => k_asm); (case k3_11 => k_asm); (case k4_11 => k_asm); (case k5_11 => k_asm); (case k6_11 => first | exact rfl | assumption); (case ks_11 => first | assumption | exact sub_app (by assumption)); (case kR_11 => assumption); (case ko_11 => assumption); (case k7_11 => first | omega | ktr_room); (case k8_11 => first | omega | ktr_units))); intro r'_11 tl'_11 ord'_11 hd'_11 h'_11 tk'_11 F'_11 N'_11; (try dsimp only); (try k_fold))
  trivial
theorem rows_spec (w : World) {p : Addr} {vs : List Value} {c : Nat} {ts : List Tr} {small big : List (Addr × Obj)} (hsub : ∀ p ∈ small, p ∈ big) (hp : (p, tupObj vs c) ∈ small) (R : TrAll w.params small vs ts) (hsz : ts.length ≤ 1000) (IH : ∀ t ∈ ts, RowOk w t) :
    Spec w (4 * htAll ts + 2) (40 * htAll ts + 20) 48 [.ref p] big (RowPost small big (.tuple (rowAll ts))) := by
  intro mean mg mb dp un gd cn cs a ccd cl outer A₀ base h₀ L m s Q E B F X N T hk hdp hun hret
  have hlen := R.length
  refine wpAny_call ?_
  k_dflt ktr_enter
  k_steps
  refine SrcT.mk rfl (by k_asm) (by k_asm) (hsub _ hp) (by rw [show sizeLine = 16777216 from rfl]; omega) fun g9 => ?_
  refine compRest_inv (n := vs.length) (fun i ys nw => ∃ tl, nw = big ++ tl ∧ (∀ q ∈ big, ∀ p ∈ tl, q.1 ≠ p.1) ∧ DatAll (small ++ tl) ys (rowAll (ts.take i))) ?_ ?_ vs.length 0 [] big (by omega) ⟨[], by simp, fun _ _ _ h => (nomatch h), DatAll.nil⟩
  · intro i ys nw v I oI C oC D m₂ h tk E' R9 hR9 hi ⟨tl, e, ord, hys⟩ hv hC hx F1 N1 off ne
    subst e
    obtain ⟨t, ht, hR⟩ := R.get hv
    have hok := IH t (List.mem_of_getElem? ht)
    have hht := ht_get ht
    obtain ⟨b, rfl⟩ := hR.ref
    have hs' : ∀ p ∈ small, p ∈ (I, oI) :: (C, oC) :: (D, LCg.lst ys) :: (big ++ tl) := fun q hq => .tail _ (.tail _ (.tail _ (List.mem_append.mpr (.inl (hsub q hq)))))
    have hR' := hR.mono hs'
    k_steps
    exact hR9 _ _ (rowTurn (by k_asm) (by k_asm) off ord hys (fun nw hn => hn _ (hsub _ hp)) ht ⟨_, rfl, by assumption, by assumption⟩)
  · rintro ys nw ⟨tl, rfl, ord, hys⟩
    intro D h tk F1 N1 off
    have hm9 : (D, lstObj ys ys.length) ∈ (D, LCg.lst ys) :: (big ++ tl) := .head _
    rw [List.take_of_length_le (by omega)] at hys
    have hl9 := hys.length
    have hl8 := rowAll_len ts
    k_steps
    have z := rowFin (h₀ := h₀) (L := L) (by k_asm) (.head _) (fun p hp => .tail _ (.tail _ hp)) (tb_ltOf (And.right (by assumption))) ord hys
    exact hret _ _ _ _ (by k_asm) z.1 z.2


theorem drop_nil {p : Addr × Obj} {big : List (Addr × Obj)} (h : p ∈ big ++ []) : p ∈ big := by rw [List.append_nil] at h; exact h
theorem rowFin0 {h₀ h : Heap} {L T : Addr} {all small big : List (Addr × Obj)} {vals : List Value} {c : Nat} {ds : List Dat} (N : News h₀ L h all) (hT : (T, tupObj vals c) ∈ all) (hs : ∀ p ∈ big, p ∈ all) (lt : ∀ p ∈ big, p.1 < T)
    (hd : DatAll small vals ds) : News h₀ L h (big ++ ([] ++ [(T, tupObj vals c)])) ∧ RowPost small big (.tuple ds) (.ref T) (big ++ ([] ++ [(T, tupObj vals c)])) :=
  rowFin (tl := []) N hT (fun p hp => hs p (drop_nil hp)) (fun p hp => lt p (drop_nil hp)) (fun _ _ _ h => nomatch h) (hd.mono fun _ h => List.mem_append.mpr (.inl h))


theorem words_row_3 : True := by
  k_with "call ref" => (k_here; (with_reducible show wpAny _ _ (call (Value.ref 48) _) _ _ _); (k_dflt (refine' Spec.useC (rows_spec _ ?ks_12 ?kp_12 ?kR_12 ?kz_12 ?kI_12) ?k1_12 ?k2_12 ?k3_12 ?k4_12 ?k5_12 ?k6_12 ?k7_12 ?k8_12 RowPost.cur ?_; (case k1_12 => k_asm); (case k2_12 => k_asm); (case k3_12 => k_asm); (case k4_12 => k_asm); (case k5_12 => k_asm); (case k6_12 => first | exact rfl | assumption); (case ks_12 => first | assumption | exact sub_app (by assumption)); (case kp_12 => assumption); (case kR_12 => assumption); (case kz_12 => assumption); (case kI_12 => assumption); (case k7_12 => first | omega | ktr_room); (case k8_12 => first | omega | ktr_units))); intro r'_12 tl'_12 ord'_12 hd'_12 h'_12 tk'_12 F'_12 N'_12; (try dsimp only); (try k_fold))
  trivial
theorem rowFin2 {h₀ h : Heap} {L T : Addr} {small big tl1 tl2 : List (Addr × Obj)} {vals : List Value} {c : Nat} {ds : List Dat} (N : News h₀ L h ((T, tupObj vals c) :: ((big ++ tl1) ++ tl2))) (lt : ∀ p ∈ (big ++ tl1) ++ tl2, p.1 < T)
    (ord1 : ∀ q ∈ big, ∀ p ∈ tl1, q.1 ≠ p.1) (ord2 : ∀ q ∈ big ++ tl1, ∀ p ∈ tl2, q.1 ≠ p.1) (hd : DatAll (small ++ (tl1 ++ tl2)) vals ds) : News h₀ L h (big ++ ((tl1 ++ tl2) ++ [(T, tupObj vals c)])) ∧ RowPost small big (.tuple ds) (.ref T) (big ++ ((tl1 ++ tl2) ++ [(T, tupObj vals c)])) := by
  rw [List.append_assoc] at N lt
  exact rowFin N (.head _) (fun p hp => .tail _ hp) lt (fun q hq x hx => (List.mem_append.mp hx).elim (ord1 q hq x) (ord2 q (List.mem_append.mpr (.inl hq)) x)) hd
theorem ne_inst_str' {prog : Program} {w : World} {A : Around} {E : Value → Shared → Prop} {s : Shared} {h₀ : Heap} {L b : Addr} {m : Str → Option Value} {news : List (Addr × Obj)} {t : Tr} {P : Params} {x : Str} {u : Tok} (F : Fr h₀ L s.heap m) (X : (hd.heap_39 P).In h₀) (N : News h₀ L s.heap news)
    (R : TrIn P news (.ref b) t) (hu : A.units + 1 < cLine) {Q : Value → Shared → Prop} (hq : Q (.bool true) s) :
    wpAny (model prog w) A (compareOp .NotEq (.ref b) (.str x u)) Q E s := by
  obtain ⟨C, d, hb, hp⟩ := R.inst
  exact ne_inst_str (X.keeps F.keep) (N.get hb) rfl rfl hp hu hq
theorem words_row_4 : True := by
  k_with "compareOp NotEq" => (k_here; (with_reducible show wpAny _ _ (compareOp CmpOp.NotEq (Value.ref _) (Value.str _ _)) _ _ _); k_dflt (refine' ne_inst_str' ?k1_13 ?k2_13 ?k3_13 ?k4_13 ?k5_13 ?_; (case k1_13 => k_asm); (case k2_13 => k_asm); (case k3_13 => k_asm); (case k4_13 => assumption); (case k5_13 => ktr_units)))
  trivial
theorem row_spec (w : World) : ∀ (n : Nat) (t : Tr), t.size ≤ n → n ≤ 1000 → RowOk w t := by
  intro n
  induction n with
  | zero => intro t h; obtain ⟨k, ts⟩ := t; simp only [Tr.size] at h; omega
  | succ n ih =>
    intro t hsz hn v small big hsub R
    have ihs : ∀ ts : List Tr, sizeAll ts ≤ n → ∀ t ∈ ts, RowOk w t := fun ts hts t ht => ih t (by obtain ⟨i, hi⟩ := List.mem_iff_getElem?.mp ht; have := size_get hi; omega) (by omega)
    refine' TrIn.split (C := fun v t => t.size ≤ n + 1 → Spec w (4 * t.ht) (40 * t.ht) (rowAddr t.kind) [v] big (RowPost small big t.row)) ?var ?lit ?num ?call ?bin ?neg ?filt ?pathN ?pathR ?pathT ?step v t R hsz
    case var =>
      clear hsz R
      intro a d t u c nm h1 h2 h3 hsz
      intro mean mg mb dp un gd cn cs ca ccd cl outer A₀ base h₀ L m s Q E B F X N T hk hdp hun hret
      have hb1 := hsub _ h1
      have hb2 := hsub _ h2
      show wpAny _ _ (call (.ref 125) _) _ _ _
      refine wpAny_call ?_
      k_dflt ktr_enter
      k_steps
      have z := rowFin0 (h₀ := h₀) (L := L) (small := small) (by k_asm) (.head _) (fun p hp => .tail _ hp) (by first | assumption | exact tb_ltOf (by assumption)) (.cons (.str _ _) (.cons (.str _ _) .nil))
      exact hret _ _ _ _ (by k_asm) z.1 z.2
    case lit =>
      clear hsz R
      intro a d t u c nm h1 h2 h3 hsz
      intro mean mg mb dp un gd cn cs ca ccd cl outer A₀ base h₀ L m s Q E B F X N T hk hdp hun hret
      have hb1 := hsub _ h1
      have hb2 := hsub _ h2
      show wpAny _ _ (call (.ref 69) _) _ _ _
      refine wpAny_call ?_
      k_dflt ktr_enter
      k_steps
      have z := rowFin0 (h₀ := h₀) (L := L) (small := small) (by k_asm) (.head _) (fun p hp => .tail _ hp) (by first | assumption | exact tb_ltOf (by assumption)) (.cons (.str _ _) (.cons (.str _ _) .nil))
      exact hret _ _ _ _ (by k_asm) z.1 z.2
    case num =>
      clear hsz R
      intro a d p t u u' c c' h1 h2 h3 hsz
      intro mean mg mb dp un gd cn cs ca ccd cl outer A₀ base h₀ L m s Q E B F X N T hk hdp hun hret
      have hb1 := hsub _ h1
      have hb2 := hsub _ h2
      show wpAny _ _ (call (.ref 97) _) _ _ _
      refine wpAny_call ?_
      k_dflt ktr_enter
      k_steps
      have z := rowFin0 (h₀ := h₀) (L := L) (small := small) (by k_asm) (.head _) (fun p hp => .tail _ hp) (by first | assumption | exact tb_ltOf (by assumption)) (.cons (.str _ _) (.cons (.tuple h3 (.cons (.int _ _) (.cons (.int _ _) .nil))) .nil))
      exact hret _ _ _ _ (by k_asm) z.1 z.2
    case call =>
      clear hsz R
      intro a d p t t' u c c' nm vs ts h1 h2 h3 h4 h5 hsz
      intro mean mg mb dp un gd cn cs ca ccd cl outer A₀ base h₀ L m s Q E B F X N T hk hdp hun hret
      have hb1 := hsub _ h1
      have hb2 := hsub _ h2
      simp only [Tr.size, sizeAll] at hsz
      simp only [Tr.ht, htAll] at hdp hun
      have hts := Nat.le_trans (len_ht ts) (show sizeAll ts ≤ 1000 by omega)
      have hih := ihs ts (by omega)
      show wpAny _ _ (call (.ref 153) _) _ _ _
      refine wpAny_call ?_
      k_dflt ktr_enter
      k_steps
      have z := rowFin (h₀ := h₀) (L := L) (small := small) (by k_asm) (.head _) (fun p hp => .tail _ hp) (by first | assumption | exact tb_ltOf (by assumption)) (by assumption) (.cons (.str _ _) (.cons (.str _ _) (.cons (by assumption) .nil)))
      exact hret _ _ _ _ (by k_asm) z.1 z.2
    case pathN =>
      clear hsz R
      intro a d p t t' c c' vs ts h1 h2 h3 h5 hsz
      intro mean mg mb dp un gd cn cs ca ccd cl outer A₀ base h₀ L m s Q E B F X N T hk hdp hun hret
      have hb1 := hsub _ h1
      have hb2 := hsub _ h2
      simp only [Tr.size, sizeAll] at hsz
      simp only [Tr.ht, htAll] at hdp hun
      have hts := Nat.le_trans (len_ht ts) (show sizeAll ts ≤ 1000 by omega)
      have hih := ihs ts (by omega)
      show wpAny _ _ (call (.ref 265) _) _ _ _
      refine wpAny_call ?_
      k_dflt ktr_enter
      k_steps
      have z := rowFin (h₀ := h₀) (L := L) (small := small) (by k_asm) (.head _) (fun p hp => .tail _ hp) (by first | assumption | exact tb_ltOf (by assumption)) (by assumption) (.cons (.str _ _) (.cons .none (.cons (by assumption) .nil)))
      exact hret _ _ _ _ (by k_asm) z.1 z.2
    case pathR =>
      clear hsz R
      intro a d p t t' u c c' vs ts h1 h2 h3 h5 hsz
      intro mean mg mb dp un gd cn cs ca ccd cl outer A₀ base h₀ L m s Q E B F X N T hk hdp hun hret
      have hb1 := hsub _ h1
      have hb2 := hsub _ h2
      simp only [Tr.size, sizeAll] at hsz
      simp only [Tr.ht, htAll] at hdp hun
      have hts := Nat.le_trans (len_ht ts) (show sizeAll ts ≤ 1000 by omega)
      have hih := ihs ts (by omega)
      show wpAny _ _ (call (.ref 265) _) _ _ _
      refine wpAny_call ?_
      k_dflt ktr_enter
      k_steps
      have z := rowFin (h₀ := h₀) (L := L) (small := small) (by k_asm) (.head _) (fun p hp => .tail _ hp) (by first | assumption | exact tb_ltOf (by assumption)) (by assumption) (.cons (.str _ _) (.cons (.str _ _) (.cons (by assumption) .nil)))
      exact hret _ _ _ _ (by k_asm) z.1 z.2
    case step =>
      clear hsz R
      intro a d p q t t' t'' u u' c c' c'' vs ts h1 h2 hq h3 h5 hsz
      intro mean mg mb dp un gd cn cs ca ccd cl outer A₀ base h₀ L m s Q E B F X N T hk hdp hun hret
      have hb1 := hsub _ h1
      have hb2 := hsub _ h2
      simp only [Tr.size, sizeAll] at hsz
      simp only [Tr.ht, htAll] at hdp hun
      have hts := Nat.le_trans (len_ht ts) (show sizeAll ts ≤ 1000 by omega)
      have hih := ihs ts (by omega)
      show wpAny _ _ (call (.ref 293) _) _ _ _
      refine wpAny_call ?_
      k_dflt ktr_enter
      k_steps
      have z := rowFin (h₀ := h₀) (L := L) (small := small) (by k_asm) (.head _) (fun p hp => .tail _ hp) (by first | assumption | exact tb_ltOf (by assumption)) (by assumption) (.cons (.str _ _) (.cons (.str _ _) (.cons (.tuple (List.mem_append.mpr (.inl hq)) (.cons (.str _ _) .nil)) (.cons (by assumption) .nil))))
      exact hret _ _ _ _ (by k_asm) z.1 z.2
    case neg =>
      clear hsz R
      intro a d t c l tt h1 h2 hB hsz
      intro mean mg mb dp un gd cn cs ca ccd cl outer A₀ base h₀ L m s Q E B F X N T hk hdp hun hret
      have hb1 := hsub _ h1
      have hb2 := hsub _ h2
      simp only [Tr.size, sizeAll] at hsz
      simp only [Tr.ht, htAll] at hdp hun
      have hbR := hB.mono hsub
      obtain ⟨b', rfl⟩ := hB.ref
      have hokB := ih tt (by omega) (by omega)
      show wpAny _ _ (call (.ref 209) _) _ _ _
      refine wpAny_call ?_
      k_dflt ktr_enter
      k_steps
      have z := rowFin (h₀ := h₀) (L := L) (small := small) (by k_asm) (.head _) (fun p hp => .tail _ hp) (by first | assumption | exact tb_ltOf (by assumption)) (by assumption) (.cons (.str _ _) (.cons (by assumption) .nil))
      exact hret _ _ _ _ (by k_asm) z.1 z.2
    case filt =>
      clear hsz R
      intro a d p t t' c c' l tt vs ts h1 h2 h3 hB h5 hsz
      intro mean mg mb dp un gd cn cs ca ccd cl outer A₀ base h₀ L m s Q E B F X N T hk hdp hun hret
      have hb1 := hsub _ h1
      have hb2 := hsub _ h2
      simp only [Tr.size, sizeAll] at hsz
      simp only [Tr.ht, htAll] at hdp hun
      have hts := Nat.le_trans (len_ht ts) (show sizeAll ts ≤ 1000 by omega)
      have hih := ihs ts (by omega)
      have hbR := hB.mono hsub
      obtain ⟨b', rfl⟩ := hB.ref
      have hokB := ih tt (by omega) (by omega)
      show wpAny _ _ (call (.ref 237) _) _ _ _
      refine wpAny_call ?_
      k_dflt ktr_enter
      k_steps
      have z := rowFin2 (h₀ := h₀) (L := L) (small := small) (by k_asm) (by first | assumption | exact tb_ltOf (by assumption)) (by assumption) (by assumption) (.cons (.str _ _) (.cons (DatIn.mono mem_left (by assumption)) (.cons (DatIn.mono mem_mid (by assumption)) .nil)))
      exact hret _ _ _ _ (by k_asm) z.1 z.2
    case pathT =>
      clear hsz R
      intro a d p t t' c c' b tt vs ts h1 h2 h3 hB h5 hsz
      intro mean mg mb dp un gd cn cs ca ccd cl outer A₀ base h₀ L m s Q E B F X N T hk hdp hun hret
      have hb1 := hsub _ h1
      have hb2 := hsub _ h2
      simp only [Tr.size, sizeAll] at hsz
      simp only [Tr.ht, htAll] at hdp hun
      have hts := Nat.le_trans (len_ht ts) (show sizeAll ts ≤ 1000 by omega)
      have hih := ihs ts (by omega)
      have hbR := hB.mono hsub
      have hokB := ih tt (by omega) (by omega)
      show wpAny _ _ (call (.ref 265) _) _ _ _
      refine wpAny_call ?_
      k_dflt ktr_enter
      k_steps
      have z := rowFin2 (h₀ := h₀) (L := L) (small := small) (by k_asm) (by first | assumption | exact tb_ltOf (by assumption)) (by assumption) (by assumption) (.cons (.str _ _) (.cons (DatIn.mono mem_left (by assumption)) (.cons (DatIn.mono mem_mid (by assumption)) .nil)))
      exact hret _ _ _ _ (by k_asm) z.1 z.2
    case bin =>
      clear hsz R
      intro a d t t' t'' u c nm l r tt tr h1 h2 h3 hB hC hsz
      intro mean mg mb dp un gd cn cs ca ccd cl outer A₀ base h₀ L m s Q E B F X N T hk hdp hun hret
      have hb1 := hsub _ h1
      have hb2 := hsub _ h2
      simp only [Tr.size, sizeAll] at hsz
      simp only [Tr.ht, htAll] at hdp hun
      have hbR := hB.mono hsub
      obtain ⟨b', rfl⟩ := hB.ref
      have hokB := ih tt (by omega) (by omega)
      have hbC := hC.mono hsub
      obtain ⟨b'', rfl⟩ := hC.ref
      have hokC := ih tr (by omega) (by omega)
      show wpAny _ _ (call (.ref 181) _) _ _ _
      refine wpAny_call ?_
      k_dflt ktr_enter
      k_steps
      have z := rowFin2 (h₀ := h₀) (L := L) (small := small) (by k_asm) (by first | assumption | exact tb_ltOf (by assumption)) (by assumption) (by assumption) (.cons (.str _ _) (.cons (.str _ _) (.cons (DatIn.mono mem_left (by assumption)) (.cons (DatIn.mono mem_mid (by assumption)) .nil))))
      exact hret _ _ _ _ (by k_asm) z.1 z.2

theorem words_lawrows_0 : True := by
  k_with_none
  k_with "k_all" => exact List.forall_mem_append.mpr ⟨by k_all, by k_all⟩
  k_with "k_all" => exact tbn_neAll (by assumption)
  k_with "k_all" => assumption
  k_with "k_updF" => assumption
  k_with "k_mem" => assumption
  k_with "k_room" => ktr_room
  k_with "getMethod ref" => (k_here; k_dflt (refine' getRow ?k1_14 ?k2_14 ?k3_14 ?k4_14 ?_; (case k1_14 => k_asm); (case k2_14 => k_asm); (case k3_14 => k_asm); (case k4_14 => first | assumption | exact TrIn.mono (fun _ h => List.mem_append.mpr (.inl h)) (by assumption))); (try dsimp only))
  k_with "callWith ref" => (k_here; (with_reducible show wpAny _ _ (callWith _ (Value.ref (rowAddr _)) _ _ _) _ _ _); k_dflt (refine' callWith_K0 (Frag.In.keeps (by k_asm) (Fr.keep (by k_asm))) (keep_row _ _) ?_))
  k_with "call ref" => (k_here; (with_reducible show wpAny _ _ (call (Value.ref (rowAddr _)) _) _ _ _); (k_dflt (refine' Spec.useC ((?ko_16 : RowOk _ _) _ _ _ ?ks_16 ?kR_16) ?k1_16 ?k2_16 ?k3_16 ?k4_16 ?k5_16 ?k6_16 ?k7_16 ?k8_16 RowPost.cur ?_; (case k1_16 => k_asm); (case k2_16 => k_asm); (case k3_16 => k_asm); (case k4_16 => k_asm); (case k5_16 => k_asm); (case k6_16 => first | exact rfl | assumption); (case ks_16 => first | assumption | exact sub_app (by assumption)); (case kR_16 => assumption); (case ko_16 => assumption); (case k7_16 => first | omega | ktr_room); (case k8_16 => first | omega | ktr_units))); intro r'_16 tl'_16 ord'_16 hd'_16 h'_16 tk'_16 F'_16 N'_16; (try dsimp only); (try k_fold))
  trivial
def RowsPost (small big : List (Addr × Obj)) (ds : List Dat) (r : Value) (news' : List (Addr × Obj)) : Prop :=
  ∃ D ys c tl, r = .ref D ∧ news' = big ++ tl ∧ (∀ q ∈ big, ∀ p ∈ tl, q.1 ≠ p.1) ∧ (D, lstObj ys c) ∈ tl ∧ DatAll (small ++ tl) ys ds
theorem RowsPost.cur {small big : List (Addr × Obj)} {ds : List Dat} (C : Value → List (Addr × Obj) → Prop) (h : ∀ D ys c tl, (∀ q ∈ big, ∀ p ∈ tl, q.1 ≠ p.1) → (D, lstObj ys c) ∈ tl → DatAll (small ++ tl) ys ds → C (.ref D) (big ++ tl)) : ∀ r n, RowsPost small big ds r n → C r n := by
  rintro _ _ ⟨D, ys, c, tl, rfl, rfl, ord, hD, hy⟩
  exact h _ _ _ _ ord hD hy
theorem off1_mem {D : Addr} : ∀ {l : List (Addr × Obj)}, LCg.Off1 D l → ∀ p ∈ l, p.1 ≠ D
  | [], _, _, h => nomatch h
  | _ :: _, h, p, hp => by
    rcases List.mem_cons.mp hp with rfl | hp
    · exact h.1
    · exact off1_mem h.2 p hp
theorem lrFin {h₀ h : Heap} {L T : Addr} {small big tl : List (Addr × Obj)} {vals : List Value} {c : Nat} {ds : List Dat} (N : News h₀ L h ((T, lstObj vals c) :: (big ++ tl))) (lt : LCg.Off1 T (big ++ tl))
    (ord : ∀ q ∈ big, ∀ p ∈ tl, q.1 ≠ p.1) (hd : DatAll (small ++ tl) vals ds) : News h₀ L h (big ++ (tl ++ [(T, lstObj vals c)])) ∧ RowsPost small big ds (.ref T) (big ++ (tl ++ [(T, lstObj vals c)])) := by
  refine ⟨fun p hp => N p ?_, T, vals, c, tl ++ [(T, lstObj vals c)], rfl, rfl, fun q hq x hx => ?_, List.mem_append.mpr (.inr (.head _)), hd.mono mem_left⟩
  · rw [← List.append_assoc] at hp
    rcases List.mem_append.mp hp with hp | hp
    · exact .tail _ hp
    · rw [List.mem_singleton.mp hp]; exact .head _
  · rcases List.mem_append.mp hx with hx | hx
    · exact ord q hq x hx
    · rw [List.mem_singleton.mp hx]; exact off1_mem lt q (List.mem_append.mpr (.inl hq))

theorem words_lawrows_1 : True := by
  k_with "eval ListComp" => (k_here; k_dflt (refine ListComp_T (by k_asm) (by rfl) (by decide) (by rfl) (by decide) (by rfl) ?_))
  trivial
theorem lawrowsT_spec (w : World) {p : Addr} {vs : List Value} {c : Nat} {ts : List Tr} {small big : List (Addr × Obj)} (hsub : ∀ p ∈ small, p ∈ big) (hp : (p, tupObj vs c) ∈ big) (R : TrAll w.params small vs ts) (hsz : ts.length ≤ 1000) (IH : ∀ t ∈ ts, RowOk w t) :
    Spec w (4 * htAll ts + 2) (40 * htAll ts + 20) 371 [.ref p] big (RowsPost small big (rowAll ts)) := by
  intro mean mg mb dp un gd cn cs a ccd cl outer A₀ base h₀ L m s Q E B F X N T hk hdp hun hret
  have hlen := R.length
  refine wpAny_call ?_
  k_dflt ktr_enter
  k_steps
  refine SrcT.mk rfl (by k_asm) (by k_asm) (hp) (by rw [show sizeLine = 16777216 from rfl]; omega) fun g9 => ?_
  refine compRest_inv (n := vs.length) (fun i ys nw => ∃ tl, nw = big ++ tl ∧ (∀ q ∈ big, ∀ p ∈ tl, q.1 ≠ p.1) ∧ DatAll (small ++ tl) ys (rowAll (ts.take i))) ?_ ?_ vs.length 0 [] big (by omega) ⟨[], by simp, fun _ _ _ h => (nomatch h), DatAll.nil⟩
  · intro i ys nw v I oI C oC D m₂ h tk E' R9 hR9 hi ⟨tl, e, ord, hys⟩ hv hC hx F1 N1 off ne
    subst e
    obtain ⟨t, ht, hR⟩ := R.get hv
    have hok := IH t (List.mem_of_getElem? ht)
    have hht := ht_get ht
    obtain ⟨b, rfl⟩ := hR.ref
    have hs' : ∀ p ∈ small, p ∈ (I, oI) :: (C, oC) :: (D, LCg.lst ys) :: (big ++ tl) := fun q hq => .tail _ (.tail _ (.tail _ (List.mem_append.mpr (.inl (hsub q hq)))))
    have hR' := hR.mono hs'
    k_steps
    exact hR9 _ _ (rowTurn (by k_asm) (by k_asm) off ord hys (fun nw hn => hn _ hp) ht ⟨_, rfl, by assumption, by assumption⟩)
  · rintro ys nw ⟨tl, rfl, ord, hys⟩
    intro D h tk F1 N1 off
    rw [List.take_of_length_le (by omega)] at hys
    k_steps
    have z := lrFin (h₀ := h₀) (L := L) (by k_asm) off ord hys
    exact hret _ _ _ _ (by k_asm) z.1 z.2


theorem words_lawrows_2 : True := by
  k_with "eval ListComp" => (k_here; k_dflt (refine LCg.ListComp_U (F₀ := by k_asm) (by rfl) (by decide) (by rfl) (by decide) (by rfl) ?_))
  trivial
theorem lawrowsL_spec (w : World) {p : Addr} {vs : List Value} {c : Nat} {ts : List Tr} {small big : List (Addr × Obj)} (hsub : ∀ p ∈ small, p ∈ big) (hp : (p, lstObj vs c) ∈ big) (R : TrAll w.params small vs ts) (hsz : ts.length ≤ 1000) (IH : ∀ t ∈ ts, RowOk w t) :
    Spec w (4 * htAll ts + 2) (40 * htAll ts + 20) 371 [.ref p] big (RowsPost small big (rowAll ts)) := by
  intro mean mg mb dp un gd cn cs a ccd cl outer A₀ base h₀ L m s Q E B F X N T hk hdp hun hret
  have hlen := R.length
  refine wpAny_call ?_
  k_dflt ktr_enter
  k_steps
  refine LCg.CompSrc.ledger (its := vs.toArray) (by rfl) (by k_asm) (by k_asm) hp (by rw [show sizeLine = 16777216 from rfl, List.size_toArray]; omega) fun g9 => ?_
  rw [List.size_toArray]
  refine compRest_inv (n := vs.length) (fun i ys nw => ∃ tl, nw = big ++ tl ∧ (∀ q ∈ big, ∀ p ∈ tl, q.1 ≠ p.1) ∧ DatAll (small ++ tl) ys (rowAll (ts.take i))) ?_ ?_ vs.length 0 [] big (by omega) ⟨[], by simp, fun _ _ _ h => (nomatch h), DatAll.nil⟩
  · intro i ys nw v I oI C oC D m₂ h tk E' R9 hR9 hi ⟨tl, e, ord, hys⟩ hv hC hx F1 N1 off ne
    subst e
    obtain ⟨t, ht, hR⟩ := R.get (by simpa using hv)
    have hok := IH t (List.mem_of_getElem? ht)
    have hht := ht_get ht
    obtain ⟨b, rfl⟩ := hR.ref
    have hs' : ∀ p ∈ small, p ∈ (I, oI) :: (C, oC) :: (D, LCg.lst ys) :: (big ++ tl) := fun q hq => .tail _ (.tail _ (.tail _ (List.mem_append.mpr (.inl (hsub q hq)))))
    have hR' := hR.mono hs'
    k_steps
    exact hR9 _ _ (rowTurn (by k_asm) (by k_asm) off ord hys (fun nw hn => .inr ⟨_, hn _ hp, rfl, _, rfl⟩) ht ⟨_, rfl, by assumption, by assumption⟩)
  · rintro ys nw ⟨tl, rfl, ord, hys⟩
    intro D h tk F1 N1 off
    rw [List.take_of_length_le (by omega)] at hys
    k_steps
    have z := lrFin (h₀ := h₀) (L := L) (by k_asm) off ord hys
    exact hret _ _ _ _ (by k_asm) z.1 z.2

theorem words_height_0 : True := by
  k_with_none
  k_with "k_all" => exact List.forall_mem_append.mpr ⟨by k_all, by k_all⟩
  k_with "k_all" => exact tbn_neAll (by assumption)
  k_with "k_all" => assumption
  k_with "k_updF" => assumption
  k_with "k_mem" => assumption
  k_with "k_room" => ktr_room
  trivial
theorem off1_mem' {D : Addr} : ∀ {l : List (Addr × Obj)}, LCg.Off1 D l → ∀ p ∈ l, p.1 ≠ D
  | [], _, _, h => nomatch h
  | _ :: _, h, p, hp => by
    rcases List.mem_cons.mp hp with rfl | hp
    · exact h.1
    · exact off1_mem' h.2 p hp
theorem words_height_1 : True := by
  k_with "exec While" => (k_here; k_dflt (refine wrest_start ?_))
  k_with "exec While Compare" => (k_here; k_dflt (refine wrest_start ?_))
  k_with "exec While Compare cons nil" => (k_here; k_dflt (refine wrest_start ?_))
  trivial
theorem sub_tail {q : Addr × Obj} {a b : List (Addr × Obj)} (h : ∀ p ∈ a, p ∈ b) : ∀ p ∈ a, p ∈ q :: b := fun p hp => .tail _ (h p hp)
def HeightPost (big : List (Addr × Obj)) (t : Tr) (r : Value) (news' : List (Addr × Obj)) : Prop := news' = big ∧ ∃ tk, r = .int (t.ht : Int) tk
theorem HeightPost.cur {big : List (Addr × Obj)} {t : Tr} (C : Value → List (Addr × Obj) → Prop) (h : ∀ tk, C (.int (t.ht : Int) tk) big) : ∀ r n, HeightPost big t r n → C r n := by
  rintro _ _ ⟨rfl, tk, rfl⟩
  exact h _
section
open PySem.SeqAt
variable {prog : Program} {w : World} {A : Around} {E : Value → Shared → Prop} {s : Shared} {h₀ : Heap} {L l e : Addr} {news : List (Addr × Obj)} {vs : List Value} {m : Str → Option Value} {news' : List (Addr × Obj)} {n n' n2 : Nat} {Q : Value → Shared → Prop}
theorem m_ne_nil1 {v : Value} (N : News h₀ L s.heap news) (hl : (l, lstObj (vs ++ [v]) n) ∈ news) (he : (e, listOf #[] n') ∈ news) (hu : A.units < cLine) (h : Q (.bool true) s) :
    wpAny (model prog w) A (compareOp .NotEq (.ref l) (.ref e)) Q E s :=
  RcNeAt.lists_lengths (items := (vs ++ [v]).toArray) (items2 := #[]) (m_isList N hl) ⟨_, (N _ he).1, rfl, n', rfl⟩ (by simp) hu prog w E Q h
theorem m_ne_nil0 (N : News h₀ L s.heap news) (hl : (l, lstObj [] n) ∈ news) (he : (e, listOf #[] n') ∈ news) (hu : A.units < cLine) (h : Q (.bool false) s) :
    wpAny (model prog w) A (compareOp .NotEq (.ref l) (.ref e)) Q E s :=
  RcNeAt.lists (items := #[]) (items2 := #[]) (e := fun _ => true) ⟨_, (N _ hl).1, rfl, n, rfl⟩ ⟨_, (N _ he).1, rfl, n', rfl⟩ rfl hu (fun j h1 => absurd h1 (Nat.not_lt_zero _)) prog w E Q h
theorem m_last (p : List Value) (y : Value) : kl_last (p ++ [y]) = some (p, y) := by
  induction p with
  | nil => rfl
  | cons x p ih => simp only [List.cons_append, kl_last, ih]
theorem m_pop {D : Addr} {y : Value} (F : Fr h₀ L s.heap m) (N : News h₀ L s.heap news) (U : Upd D (lstObj (vs ++ [y]) n) (lstObj vs (n + 1)) news news')
    (hz : vs.length + 1 ≤ sizeLine) (h : ∀ h', Fr h₀ L h' m → News h₀ L h' news' → Q y { s with heap := h' }) : wpAny (model prog w) A (call (.builtin "list.pop") [.ref D]) Q E s :=
  kl_pop (its := (vs ++ [y]).toArray) F N (m_last vs y) U (by simpa using hz) h
theorem m_extend {D b : Addr} {ws : List Value} {g : Obj → List (Addr × Obj)} (F : Fr h₀ L s.heap m) (N : News h₀ L s.heap news) (hb : (b, lstObj ws n2) ∈ news) (U : UpdF D (lstObj vs n) news g)
    (hz : vs.length ≤ 1048576) (hz2 : ws.length ≤ 1048576) (h : ∀ h' c, Fr h₀ L h' m → News h₀ L h' (g (lstObj (vs ++ ws) c)) → Q .none { s with heap := h' }) : wpAny (model prog w) A (call (.builtin "list.extend") [.ref D, .ref b]) Q E s := by
  obtain ⟨pre, post, rfl, hg, a, c⟩ := U.split
  have z := N (D, lstObj vs n) (List.mem_append.mpr (.inr (.head _)))
  have hd : ¬(!vs.toArray.isEmpty && Builtin.List.listTooLong (vs.toArray.size + ws.toArray.size)) = true := by
    have e : Builtin.List.listTooLong (vs.toArray.size + ws.toArray.size) = false := by
      show decide (vs.length + ws.length > 16777216) = false
      exact decide_eq_false (by omega)
    rw [e, Bool.and_false]
    exact Bool.false_ne_true
  refine call_meets PySem.F.slot_list_extend ⟨_, z.1, rfl⟩ PySem.F.entry_list_extend (PySem.F.args_list_extend_2 _ _) (PySem.AutoSeq1.list_extend_list_list_0 D vs.toArray n b ws.toArray n2 hd (by simp [sizeLine]; omega) (by simp [sizeLine]; omega)) ⟨z.1, (N _ hb).1, ?_⟩
  cases ws with
  | nil => exact h _ n (F.change (Heap.SameBut.update ..) z.2.1 z.2.2) (by rw [hg, List.append_nil]; exact kl_turn0 (fun x => x ++ #[]) N a c (by simp) rfl)
  | cons x ws => exact h _ (n + 1) (F.change (Heap.SameBut.update ..) z.2.1 z.2.2) (by rw [hg]; exact kl_turn _ N a c (by simp) (by simp))
end

/-- a list of (node, height) pairs -/
inductive PrAll (P : Params) (small nw : List (Addr × Obj)) : List Value → List (Tr × Int) → Prop where
  | nil : PrAll P small nw [] []
  | cons {q : Addr} {c : Nat} {v : Value} {h : Int} {tk : Tok} {t : Tr} {vs : List Value} {ths : List (Tr × Int)} : (q, tupObj [v, .int h tk] c) ∈ nw → TrIn P small v t → PrAll P small nw vs ths → PrAll P small nw (.ref q :: vs) ((t, h) :: ths)
theorem PrAll.mono {P : Params} {small nw nw' : List (Addr × Obj)} {vs : List Value} {ths : List (Tr × Int)} (h : PrAll P small nw vs ths) (k : ∀ p ∈ nw, p ∈ nw') : PrAll P small nw' vs ths := by
  induction h with
  | nil => exact .nil
  | cons h1 h2 _ ih => exact .cons (k _ h1) h2 ih
theorem PrAll.append {P : Params} {small nw : List (Addr × Obj)} {vs ws : List Value} {ths us : List (Tr × Int)} (h : PrAll P small nw vs ths) (k : PrAll P small nw ws us) : PrAll P small nw (vs ++ ws) (ths ++ us) := by
  induction h with
  | nil => exact k
  | cons h1 h2 _ ih => exact .cons h1 h2 ih
theorem PrAll.length {P : Params} {small nw : List (Addr × Obj)} {vs : List Value} {ths : List (Tr × Int)} (h : PrAll P small nw vs ths) : vs.length = ths.length := by
  induction h with
  | nil => rfl
  | cons _ _ _ ih => simp [ih]
theorem PrAll.snoc {P : Params} {small nw : List (Addr × Obj)} {ths : List (Tr × Int)} {t : Tr} {h : Int} : ∀ {vs : List Value}, PrAll P small nw vs (ths ++ [(t, h)]) →
    ∃ vs' q c v tk, vs = vs' ++ [.ref q] ∧ PrAll P small nw vs' ths ∧ (q, tupObj [v, .int h tk] c) ∈ nw ∧ TrIn P small v t := by
  induction ths with
  | nil =>
    intro vs k
    cases k with
    | cons h1 h2 r => cases r; exact ⟨[], _, _, _, _, rfl, .nil, h1, h2⟩
  | cons x ths ih =>
    intro vs k
    cases k with
    | cons h1 h2 r =>
      obtain ⟨vs', q, c, v, tk, e, a, b, d⟩ := ih r
      exact ⟨_ :: vs', q, c, v, tk, by rw [e]; rfl, .cons h1 h2 a, b, d⟩
noncomputable def hval (H : Int) : List (Tr × Int) → Int
  | [] => H
  | (t, h) :: r => max (h + t.ht - 1) (hval H r)
noncomputable def hsize : List (Tr × Int) → Nat
  | [] => 0
  | (t, _) :: r => t.size + hsize r
theorem hsize_app (a b : List (Tr × Int)) : hsize (a ++ b) = hsize a + hsize b := by
  induction a with
  | nil => simp [hsize]
  | cons x a ih => obtain ⟨t, h⟩ := x; simp only [List.cons_append, hsize, ih]; omega
theorem Tr.size_pos (t : Tr) : 0 < t.size := by cases t; simp only [Tr.size]; omega
theorem hlen_le : ∀ l : List (Tr × Int), l.length ≤ hsize l
  | [] => Nat.le_refl _
  | (t, h) :: l => by have := hlen_le l; have := t.size_pos; simp only [hsize, List.length_cons]; omega
theorem hsize_kids (ts : List Tr) (h : Int) : hsize (ts.map fun t => (t, h)) = sizeAll ts := by
  induction ts with
  | nil => rfl
  | cons t ts ih => simp only [List.map_cons, hsize, sizeAll, ih]
theorem mx1 {h V H x : Int} (h1 : h ≤ x) (h2 : H ≤ V) : max (max h V) (max h (max H x)) = max V (max x H) := by
  have a : V ≤ max V (max x H) := Int.le_max_left _ _
  have b : x ≤ max V (max x H) := Int.le_trans (Int.le_max_left _ _) (Int.le_max_right _ _)
  refine Int.le_antisymm (Int.max_le.mpr ⟨Int.max_le.mpr ⟨Int.le_trans h1 b, a⟩, Int.max_le.mpr ⟨Int.le_trans h1 b, Int.max_le.mpr ⟨Int.le_trans h2 a, b⟩⟩⟩) (Int.max_le.mpr ⟨Int.le_trans (Int.le_max_right _ _) (Int.le_max_left _ _), Int.le_trans (Int.max_le.mpr ⟨Int.le_max_right _ _, Int.le_max_left _ _⟩) (Int.le_trans (Int.le_max_right _ _) (Int.le_max_right _ _))⟩)
theorem mx0 {h V H : Int} (h2 : H ≤ V) : max (max h V) (max h (max H H)) = max V (max h H) := by
  have a : V ≤ max V (max h H) := Int.le_max_left _ _
  have b : h ≤ max V (max h H) := Int.le_trans (Int.le_max_left _ _) (Int.le_max_right _ _)
  have c := Int.le_trans h2 a
  refine Int.le_antisymm (Int.max_le.mpr ⟨Int.max_le.mpr ⟨b, a⟩, Int.max_le.mpr ⟨b, Int.max_le.mpr ⟨c, c⟩⟩⟩) (Int.max_le.mpr ⟨Int.le_trans (Int.le_max_right _ _) (Int.le_max_left _ _), Int.le_trans (Int.max_le.mpr ⟨Int.le_max_left _ _, Int.le_trans (Int.le_max_left _ _) (Int.le_max_right _ _)⟩) (Int.le_max_right _ _)⟩)
theorem hval_ge (H : Int) : ∀ l : List (Tr × Int), H ≤ hval H l
  | [] => Int.le_refl _
  | (_, _) :: l => Int.le_trans (hval_ge H l) (Int.le_max_right _ _)
theorem hval_app (H : Int) (a b : List (Tr × Int)) : hval H (a ++ b) = max (hval H a) (hval H b) := by
  induction a with
  | nil => exact (Int.max_eq_right (hval_ge H b)).symm
  | cons x a ih => obtain ⟨t, h⟩ := x; simp only [List.cons_append, hval, ih, Int.max_assoc]
theorem add_one_sub (h a : Int) : h + 1 + a - 1 = h + a := by omega
theorem cast_one_sub (h : Int) (b : Nat) : h + ((1 + b : Nat) : Int) - 1 = h + b := by omega
theorem hval_kids (H h : Int) (ts : List Tr) : hval H (ts.map fun t => (t, h + 1)) = max H (if ts = [] then H else h + htAll ts) := by
  induction ts with
  | nil => exact (Int.max_self H).symm
  | cons t ts ih =>
    simp only [List.map_cons, hval, ih, htAll, add_one_sub, if_neg (List.cons_ne_nil t ts)]
    by_cases e : ts = []
    · subst e
      rw [if_pos rfl, Int.max_self, Int.max_comm]
      rw [show htAll [] = 0 from rfl, Nat.max_eq_left (Nat.zero_le _)]
    · rw [if_neg e]
      rcases Nat.le_total t.ht (htAll ts) with hl | hl
      · rw [Nat.max_eq_right hl]
        exact Int.max_eq_right (Int.le_trans (Int.add_le_add_left (Int.ofNat_le.mpr hl) h) (Int.le_max_right _ _))
      · rw [Nat.max_eq_left hl, ← Int.max_assoc, Int.max_comm (h + (t.ht : Int)) H, Int.max_assoc, Int.max_eq_left (Int.add_le_add_left (Int.ofNat_le.mpr hl) h)]
theorem hval_up (H h : Int) : ∀ l, hval (max H h) l = max h (hval H l)
  | [] => Int.max_comm _ _
  | (t, k) :: l => by rw [hval, hval, hval_up H h l, ← Int.max_assoc, Int.max_comm _ h, Int.max_assoc]
theorem hval_step (H h : Int) (ths : List (Tr × Int)) (t : Tr) : hval (max H h) (ths ++ t.kids.map fun t => (t, h + 1)) = hval H (ths ++ [(t, h)]) := by
  obtain ⟨k, ts⟩ := t
  rw [hval_app, hval_app, hval_up, hval_up, Tr.kids, hval_kids, hval, hval, Tr.ht, cast_one_sub]
  by_cases e : ts = []
  · subst e
    rw [if_pos rfl, show htAll [] = 0 from rfl, mx0 (hval_ge H ths)]
    rw [show h + ((0 : Nat) : Int) = h from Int.add_zero h]
  · rw [if_neg e]
    exact mx1 (Int.le_add_of_nonneg_right (Int.natCast_nonneg _)) (hval_ge H ths)

theorem words_height_2 : True := by
  k_with "compareOp NotEq" => (k_here; (with_reducible show wpAny _ _ (compareOp CmpOp.NotEq (Value.ref _) (Value.ref _)) _ _ _); k_dflt (first
      | (refine' m_ne_nil0 ?k1_22 ?k2_22 ?k3_22 ?k4_22 ?_; (case k1_22 => k_asm); (case k2_22 => k_mem); (case k3_22 => k_mem); (case k4_22 => ktr_units))
      | (refine' m_ne_nil1 ?k1_22 ?k2_22 ?k3_22 ?k4_22 ?_; (case k1_22 => k_asm); (case k2_22 => k_mem); (case k3_22 => k_mem); (case k4_22 => ktr_units))))
  k_with "call builtin:list.pop" => (k_here; (with_reducible show wpAny _ _ (call (Value.builtin _) [Value.ref _]) _ _ _); k_dflt (refine' m_pop ?F_23 ?N_23 ?U_23 ?z_23 ?_; (case F_23 => k_asm); (case N_23 => k_asm); (case U_23 => k_upd); (case z_23 => (simp only [sizeLine]; omega))); kl_rest)
  k_with "call builtin:list.extend" => (k_here; (with_reducible show wpAny _ _ (call (Value.builtin _) [Value.ref _, Value.ref _]) _ _ _); k_dflt (refine' m_extend ?F_24 ?N_24 ?b_24 ?U_24 ?z_24 ?y_24 ?_; (case F_24 => k_asm); (case N_24 => k_asm); (case b_24 => k_mem); (case U_24 => k_updF); (case z_24 => omega); (case y_24 => omega)); (intro h'_24 c'_24 F'_24 N'_24; (try dsimp only [List.nil_append, List.cons_append] at N'_24)))
  k_with "eval ListComp" => (k_here; k_dflt (refine ListComp_T (by k_asm) (by rfl) (by decide) (by rfl) (by decide) (by rfl) ?_))
  k_with "call ref" => (k_here; (with_reducible show wpAny _ _ (call (Value.ref 321) _) _ _ _); (k_dflt (refine' Spec.useC (parts_spec _ (small := ?sm_26) ?ks_26 ?kR_26 ?kz_26) ?k1_26 ?k2_26 ?k3_26 ?k4_26 ?k5_26 ?k6_26 ?k7_26 ?k8_26 PartsPost.cur ?_; (case kR_26 => assumption); (case k1_26 => k_asm); (case k2_26 => k_asm); (case k3_26 => k_asm); (case k4_26 => k_asm); (case k5_26 => k_asm); (case k6_26 => first | exact rfl | assumption); (case ks_26 => (repeat (first | assumption | refine sub_tail ?_))); (case kz_26 => omega); (case k7_26 => first | omega | ktr_room); (case k8_26 => first | omega | ktr_units))); intro pP vsP cP tlP ordP hpP hkP hP tkP FP NP; (try dsimp only); (try k_fold))
  trivial
def HJ (P : Params) (small base : List (Addr × Obj)) (kids : List Tr) (h : Int) (i : Nat) (ys : List Value) (nw : List (Addr × Obj)) : Prop :=
  ∃ tl, nw = base ++ tl ∧ (∀ q ∈ base, ∀ p ∈ tl, q.1 ≠ p.1) ∧ PrAll P small tl ys ((kids.take i).map fun t => (t, h + 1))
theorem HJ.cur {P : Params} {small base : List (Addr × Obj)} {kids : List Tr} {h : Int} {i : Nat} {ys : List Value} {C : List (Addr × Obj) → Prop} (k : ∀ tl, (∀ q ∈ base, ∀ p ∈ tl, q.1 ≠ p.1) → PrAll P small tl ys ((kids.take i).map fun t => (t, h + 1)) → C (base ++ tl)) : ∀ nw, HJ P small base kids h i ys nw → C nw := by
  rintro _ ⟨tl, rfl, ord, hp⟩
  exact k tl ord hp
theorem hTurn {h₀ h : Heap} {L : Addr} {m : Str → Option Value} {s₁ : Shared} {tk : Nat} {I C D T : Addr} {oI oC : Obj} {P : Params} {small base tl : List (Addr × Obj)} {ys : List Value} {kids : List Tr} {hh : Int} {i c : Nat} {v : Value} {tkk : Tok}
    (F : Fr h₀ L h m) (N : News h₀ L h ((T, tupObj [v, .int (hh + 1) tkk] c) :: (I, oI) :: (C, oC) :: (D, LCg.lst ys) :: (base ++ tl))) (off : LCg.Off3 I C D (base ++ tl)) (lt : AllLt T (base ++ tl)) (lt3 : I < T ∧ C < T ∧ D < T) (ord : ∀ q ∈ base, ∀ p ∈ tl, q.1 ≠ p.1)
    (hys : PrAll P small tl ys ((kids.take i).map fun t => (t, hh + 1))) (R : ∃ t, kids[i]? = some t ∧ TrIn P small v t) {S : List (Addr × Obj) → Prop} (hS : ∀ nw, (∀ p ∈ base, p ∈ nw) → S nw) :
    LCg.CompEnd h₀ L m s₁ I oI C oC D (LCg.lst ys) S (fun y news' => HJ P small base kids hh (i + 1) (ys ++ [y]) news') (.ref T) { s₁ with heap := h, toks := tk } := by
  obtain ⟨t, ht, R⟩ := R
  have lt' := tb_ltOf lt
  refine LCg.CompEnd.intro F N (base ++ (tl ++ [(T, tupObj [v, .int (hh + 1) tkk] c)])) (fun q hq => ?_) (LCg.Off3.of fun p hp => ?_) (hS _ fun p hp => List.mem_append.mpr (.inl hp)) ⟨tl ++ [(T, tupObj [v, .int (hh + 1) tkk] c)], rfl, fun q hq x hx => ?_, ?_⟩
  · rw [← List.append_assoc] at hq
    simp only [List.mem_cons, List.mem_append, List.mem_singleton, List.not_mem_nil, or_false] at hq ⊢
    rcases hq with h | h | h | h | h
    · exact .inr (.inl h)
    · exact .inr (.inr (.inl h))
    · exact .inr (.inr (.inr (.inl h)))
    · exact .inr (.inr (.inr (.inr h)))
    · exact .inl h
  · rw [← List.append_assoc] at hp
    rcases List.mem_append.mp hp with hp | hp
    · exact off.mem p hp
    · rw [List.mem_singleton.mp hp]; exact ⟨Ne.symm (Nat.ne_of_lt lt3.1), Ne.symm (Nat.ne_of_lt lt3.2.1), Ne.symm (Nat.ne_of_lt lt3.2.2)⟩
  · rcases List.mem_append.mp hx with hx | hx
    · exact ord q hq x hx
    · rw [List.mem_singleton.mp hx]; exact Nat.ne_of_lt (lt' q (List.mem_append.mpr (.inl hq)))
  · have e : (kids.take (i + 1)).map (fun t => (t, hh + 1)) = (kids.take i).map (fun t => (t, hh + 1)) ++ [(t, hh + 1)] := by
      rw [List.take_succ, ht]; simp
    rw [e]
    exact (hys.mono fun p hp => List.mem_append.mpr (.inl hp)).append (.cons (List.mem_append.mpr (.inr (.head _))) R .nil)
theorem n_drop {h₀ h : Heap} {L : Addr} {a b : Addr × Obj} {r : List (Addr × Obj)} (N : News h₀ L h (a :: b :: r)) : News h₀ L h r := fun p hp => N p (.tail _ (.tail _ hp))
theorem fr_height {h₀ h : Heap} {L : Addr} {kH kN kL : Str} {a b c d : Option Value} {u : Str → Option Value} (ne : kN ≠ kL) (F : Fr h₀ L h (fun y => if y = kH then a else if y = kN then b else if y = kH then c else if y = kL then d else u y)) :
    Fr h₀ L h (fun y => if y = kH then a else if y = kL then d else (fun y => if y = kN then b else u y) y) := by
  refine fr_eq F fun y => ?_
  dsimp only
  by_cases e1 : y = kH
  · simp only [e1, if_true]
  · by_cases e2 : y = kN
    · subst e2; simp only [e1, ne, if_true, if_false]
    · simp only [e1, e2, if_false]
theorem n_start {h₀ h : Heap} {L : Addr} {a b c d : Addr × Obj} {r : List (Addr × Obj)} (N : News h₀ L h (a :: b :: c :: d :: r)) : News h₀ L h (b :: d :: c :: r) := fun p hp => N p (by
  rcases List.mem_cons.mp hp with rfl | hp
  · exact .tail _ (.head _)
  · rcases List.mem_cons.mp hp with rfl | hp
    · exact .tail _ (.tail _ (.tail _ (.head _)))
    · rcases List.mem_cons.mp hp with rfl | hp
      · exact .tail _ (.tail _ (.head _))
      · exact .tail _ (.tail _ (.tail _ (.tail _ hp))))
theorem height_spec (w : World) {v : Value} {t : Tr} {small big : List (Addr × Obj)} (hsub : ∀ p ∈ small, p ∈ big) (R : TrIn w.params small v t) (hsz : t.size ≤ 1000) :
    Spec w 50 500 326 [v] big (HeightPost big t) := by
  intro mean mg mb dp un gd cn cs a ccd cl outer A₀ base h₀ L m s Q E B F X N T hk hdp hun hret
  refine wpAny_call ?_
  refine' code_defC ?k1 ?k2 ?k3 ?k4 ?k5 ?kA ?kF ?kK ?k6 ?k7 ?k8 ?k9 ?kB ?kD ?_ ?c2 ?c3 ?c4
  case kA => exact rfl
  case kF => exact rfl
  case kK => assumption
  case k1 => k_asm
  case k2 => k_asm
  case k3 => k_asm
  case k4 => k_asm
  case k5 => k_asm
  case k6 => k_is
  case k7 => k_is
  case k8 => ktr_room
  case k9 => exact BindsTo.of_eq rfl
  case kB => exact rfl
  case kD => decide +kernel
  case c2 => exact rfl
  case c3 => exact rfl
  case c4 => exact rfl
  intro g' L' h' tk' cells' FG' F' N' Y' B' X' T' l1
  k_cells Y'
  simp only [List.cons_append, List.nil_append] at N'
  (try dsimp only)
  (try k_fold)
  k_steps
  refine wrest_ind (fun n s' => ∃ (h : Heap) (tk : Nat) (ths : List (Tr × Int)) (H : Int) (tkH : Tok) (vs : List Value) (c : Nat) (oc : Obj) (x : Option Value) (nw : List (Addr × Obj)) (u : Str → Option Value) (lft : Addr),
    s' = ⟨h, s.gens, s.drawn, tk, s.os⟩ ∧ hsize ths = n ∧ n ≤ 1000 ∧ Fr g' L' h (fun y => if y = Str.ofString "highest" then some (.int H tkH) else if y = Str.ofString "left" then some (.ref lft) else u y) ∧
    News g' L' h ((lft, lstObj vs c) :: (L' + 1, oc) :: nw) ∧ oc.data = .cell x ∧ (∀ p ∈ nw, p.1 ≠ lft) ∧ (∀ p ∈ nw, p.1 ≠ L' + 1) ∧ (@Ne Nat lft (L' + 1)) ∧ (∀ p ∈ big, p ∈ nw) ∧ PrAll w.params small nw vs ths ∧ hval H ths = (t.ht : Int)) ?_ ?_ t.size _ ?_
  · with_unfolding_all passes_own
  · rintro n _ ⟨h, tk, ths, H, tkH, vs, c, oc, x, nw, u, lft, rfl, hn, hn2, F1, N1, d1, ne1, ne2, ne3, hbig, hpr, hval⟩ ih
    rcases List.eq_nil_or_concat ths with e | ⟨ths', ⟨tt, ht⟩, e⟩
    · subst e
      cases hpr
      k_steps
      exact hret _ _ _ _ (by k_asm) (news_sub (by k_asm) (fun p hp => .tail _ (.tail _ (.tail _ (hbig p hp))))) ⟨rfl, tkH, by simp only [Mine.hval] at hval; rw [hval]⟩
    · rw [List.concat_eq_append] at e
      subst e
      obtain ⟨vs', q, c', tv, tkh, e, hpr', hq, hR⟩ := hpr.snoc
      subst e
      have hsz2 : tt.size ≤ 1000 := by simp only [hsize_app, hsize] at hn; omega
      have hsub2 : ∀ p ∈ small, p ∈ nw := fun p hp => hbig p (hsub p hp)
      have hlen : vs'.length + 1 ≤ 1000 := by have h1 := hpr'.length; have h2 := hlen_le ths'; simp only [hsize_app, hsize] at hn; have h3 := tt.size_pos; omega
      k_steps
      have hkl := hkP.length
      have hks := len_ht tt.kids
      have hks2 : sizeAll tt.kids < tt.size := by cases tt; simp only [Tr.kids, Tr.size]; omega
      refine SrcT.mk rfl FP NP hpP (by rw [show sizeLine = 16777216 from rfl]; omega) fun g9 => ?_
      refine compRest_inv (HJ w.params small _ tt.kids ht) ?_ ?_ _ 0 [] _ (Nat.zero_add _) ⟨[], (List.append_nil _).symm, fun _ _ _ h => (nomatch h), .nil⟩
      · intro i ys nw9 v9 I oI C oC D m₂ h9 tk9 E' R9 hR9 hi
        revert nw9
        refine HJ.cur ?_
        intro tl9 ord9 hys hv hC hx F9 N9 off9 ne9
        k_steps
        refine hR9 _ _ ?_
        exact hTurn (by k_asm) (by k_asm) off9 (And.right (And.right (And.right (by assumption)))) ⟨And.left (by assumption), And.left (And.right (by assumption)), And.left (And.right (And.right (by assumption)))⟩ ord9 hys (hkP.get hv) (fun nw hn => hn _ hpP)
      · intro ys
        refine HJ.cur ?_
        intro tl9 ord9 hys
        intro D h9 tk9 F9 N9 off9
        rw [List.take_of_length_le (by omega)] at hys
        have hl9 := hys.length
        simp only [List.length_map] at hl9
        have hneL : ∀ p ∈ nw ++ (tlP ++ tl9), p.1 ≠ lft := by
          intro p hp
          rcases List.mem_append.mp hp with hp | hp
          · exact ne1 p hp
          · rcases List.mem_append.mp hp with hp | hp
            · exact Ne.symm (ordP (lft, lstObj vs' (c + 1)) (by simp) p hp)
            · exact Ne.symm (ord9 (lft, lstObj vs' (c + 1)) (by simp) p hp)
        have hneC : ∀ p ∈ nw ++ (tlP ++ tl9), p.1 ≠ L' + 1 := by
          intro p hp
          rcases List.mem_append.mp hp with hp | hp
          · exact ne2 p hp
          · rcases List.mem_append.mp hp with hp | hp
            · exact Ne.symm (ordP (L' + 1, _) (.tail _ (.tail _ (.head _))) p hp)
            · exact Ne.symm (ord9 (L' + 1, _) (.tail _ (.tail _ (.head _))) p hp)
        have hDl : @Ne Nat D lft := Ne.symm (off1_mem' off9 (lft, lstObj vs' (c + 1)) (by simp))
        simp only [List.cons_append, List.append_assoc] at N9
        k_steps
        show WRest _ _ _ _ _ _ _ _ _ _
        have hH : Mine.hval (if ht > H then ht else H) (ths' ++ tt.kids.map fun t => (t, ht + 1)) = (t.ht : Int) := by
          rw [← hval, ← hval_step]
          congr 1
          split <;> omega
        rename Fr _ _ _ _ => F10
        rename News _ _ _ _ => N10
        refine ih (hsize (ths' ++ tt.kids.map fun t => (t, ht + 1))) _ ?_ ⟨_, _, ths' ++ tt.kids.map fun t => (t, ht + 1), _, _, vs' ++ ys, _, _, _, nw ++ (tlP ++ tl9), _, lft, rfl, rfl, ?_, fr_height (by decide) F10, n_drop N10, by assumption, hneL, hneC, ne3, fun p hp => List.mem_append.mpr (.inl (hbig p hp)), ?_, hH⟩
        · rw [← hn]; simp only [hsize_app, hsize, hsize_kids]; omega
        · simp only [hsize_app, hsize, hsize_kids] at hn ⊢; omega
        · exact (hpr'.mono fun p hp => List.mem_append.mpr (.inl hp)).append (hys.mono fun p hp => List.mem_append.mpr (.inr (List.mem_append.mpr (.inr hp))))
  · rename Fr _ _ _ _ => F10
    rename News _ _ _ _ => N10
    rename _ ∧ _ ∧ AllLt _ _ => ll
    rename _ ∧ AllLt _ _ => lc
    refine ⟨_, _, [(t, 1)], 0, _, [.ref _], _, _, _, (_, _) :: big, _, _, rfl, ?_, hsz, F10, n_start N10, by assumption, ?_, ?_, Ne.symm (Nat.ne_of_lt ll.2.1), fun p hp => .tail _ hp, .cons (.head _) R .nil, ?_⟩
    · simp only [hsize, Nat.add_zero]
    · intro p hp
      rcases List.mem_cons.mp hp with rfl | hp
      · exact Nat.ne_of_lt ll.1
      · exact Nat.ne_of_lt (tb_ltOf ll.2.2 p hp)
    · intro p hp
      rcases List.mem_cons.mp hp with rfl | hp
      · exact Ne.symm (Nat.ne_of_lt lc.1)
      · exact Nat.ne_of_lt (Nat.lt_succ_of_lt (l1 p hp))
    · simp only [Mine.hval]; omega

theorem words_nums_0 : True := by
  k_with_none
  k_with "k_all" => exact List.forall_mem_append.mpr ⟨by k_all, by k_all⟩
  k_with "k_all" => exact tbn_neAll (by assumption)
  k_with "k_all" => assumption
  k_with "k_updF" => assumption
  k_with "k_mem" => assumption
  k_with "k_room" => ktr_room
  k_with "exec While" => (k_here; k_dflt (refine wrest_start ?_))
  k_with "exec While Compare" => (k_here; k_dflt (refine wrest_start ?_))
  k_with "exec While Compare cons nil" => (k_here; k_dflt (refine wrest_start ?_))
  trivial
theorem euclid {a b : Int} (h : 0 ≤ b) : Int.gcd b (a.fmod b) = Int.gcd a b := by
  rw [Int.fmod_eq_emod_of_nonneg _ h, Int.emod_def, Int.mul_comm, Int.gcd_sub_mul_right_right, Int.gcd_comm]
theorem fr_skip2 {h₀ h : Heap} {L : Addr} {k1 k2 : Str} {a b c d : Option Value} {u : Str → Option Value} (F : Fr h₀ L h (fun y => if y = k1 then a else if y = k2 then b else if y = k1 then c else if y = k2 then d else u y)) :
    Fr h₀ L h (fun y => if y = k1 then a else if y = k2 then b else u y) := by
  refine fr_eq F fun y => ?_
  by_cases e1 : y = k1
  · simp only [e1, if_true]
  · by_cases e2 : y = k2
    · simp only [e1, e2, if_true, if_false]
    · simp only [e1, e2, if_false]
theorem whlif_split {P : Prop} [Decidable P] {X Y : Prop} (h1 : P → X) (h2 : ¬P → Y) : WhlIf (decide P) X Y := by
  unfold WhlIf
  by_cases h : P
  · rw [if_pos (decide_eq_true h)]; exact h1 h
  · rw [if_neg (by simpa using h)]; exact h2 h
theorem fr_under {h₀ h : Heap} {L : Addr} {k1 k2 k3 k4 : Str} {a b c d : Option Value} {u : Str → Option Value} (F : Fr h₀ L h (fun y => if y = k1 then a else if y = k2 then b else u y)) (h3 : u k3 = c) (h4 : u k4 = d) :
    Fr h₀ L h (fun y => if y = k1 then a else if y = k2 then b else if y = k3 then c else if y = k4 then d else u y) := by
  refine fr_eq F fun y => ?_
  by_cases e3 : y = k3
  · subst e3; simp only [h3, if_true]
  · by_cases e4 : y = k4
    · subst e4; simp only [h4, e3, if_true, if_false]
    · simp only [e3, e4, if_false]
theorem n_drop2 {h₀ h : Heap} {L : Addr} {a b : Addr × Obj} {r : List (Addr × Obj)} (N : News h₀ L h (a :: b :: r)) : News h₀ L h (a :: r) := fun p hp => N p (by
  rcases List.mem_cons.mp hp with rfl | hp
  · exact .head _
  · exact .tail _ (.tail _ hp))
theorem n_drop1 {h₀ h : Heap} {L : Addr} {a : Addr × Obj} {r : List (Addr × Obj)} (N : News h₀ L h (a :: r)) : News h₀ L h r := fun p hp => N p (.tail _ hp)
def GcdPost (a b : Int) (news : List (Addr × Obj)) (r : Value) (news' : List (Addr × Obj)) : Prop := news' = news ∧ ∃ tk, r = .int (Int.gcd a b : Int) tk
theorem GcdPost.cur {a b : Int} {news : List (Addr × Obj)} (C : Value → List (Addr × Obj) → Prop) (h : ∀ tk, C (.int (Int.gcd a b : Int) tk) news) : ∀ r n, GcdPost a b news r n → C r n := by
  rintro _ _ ⟨rfl, tk, rfl⟩
  exact h _
theorem gcd_spec (w : World) {a b : Int} {ta tb : Tok} {news : List (Addr × Obj)} (ha : 0 ≤ a) (hb : 0 ≤ b) :
    Spec w 20 200 21 [.int a ta, .int b tb] news (GcdPost a b news) := by
  intro mean mg mb dp un gd cn cs c0 ccd cl outer A₀ base h₀ L m s Q E B F X N T hk hdp hun hret
  refine wpAny_call ?_
  k_dflt ktr_enter
  rename_i g1 L1 h1 FG1 F1 N1 B1 X1 T1
  k_steps
  refine wrest_ind (fun n s' => ∃ (h : Heap) (tk : Nat) (x y : Int) (tx ty : Tok) (u : Str → Option Value), s' = ⟨h, s.gens, s.drawn, tk, s.os⟩ ∧ y.toNat = n ∧ 0 ≤ x ∧ 0 ≤ y ∧ Int.gcd x y = Int.gcd a b ∧
    Fr g1 L1 h (fun z => if z = Str.ofString "first" then some (.int x tx) else if z = Str.ofString "second" then some (.int y ty) else u z) ∧ News g1 L1 h news) ?_ ?_ b.toNat _ ?_
  · with_unfolding_all passes_own
  · rintro n _ ⟨h, tk, x, y, tx, ty, u, rfl, hn, hx, hy, hg, F2, N2⟩ ih
    k_steps
    refine whlif_split (fun hy0 => ?_) (fun hy0 => ?_)
    · k_steps
      rename Fr _ _ _ _ => F10
      rename News _ _ _ _ => N10
      have hlt := fm_lt (a := x) (b := y) (by omega)
      have hnn := fm_nn (a := x) (b := y) (by omega)
      show WRest _ _ _ _ _ _ _ _ _ _
      exact ih (x.fmod y).toNat _ (by omega) ⟨_, _, y, x.fmod y, _, _, _, rfl, rfl, hy, hnn, by rw [euclid hy, hg], fr_skip2 F10, n_drop1 N10⟩
    · have e : y = 0 := by omega
      subst e
      rw [Int.gcd_zero_right] at hg
      k_steps
      refine hret _ _ _ _ (by k_asm) (by k_asm) ⟨rfl, tx, ?_⟩
      rw [← hg, Int.natAbs_of_nonneg hx]
  · rename Fr _ _ _ _ => F10
    rename News _ _ _ _ => N10
    have e : (if a < 0 then -a else a) = a := if_neg (by omega)
    rw [e] at F10
    exact ⟨_, _, a, b, _, _, _, rfl, rfl, ha, hb, rfl, F10, n_drop1 N10⟩
def LowPost (a b : Int) (news : List (Addr × Obj)) (r : Value) (news' : List (Addr × Obj)) : Prop :=
  ∃ D t u n, r = .ref D ∧ news' = (D, tupObj [.int (a.fdiv (Int.gcd a b : Int)) t, .int (b.fdiv (Int.gcd a b : Int)) u] n) :: news ∧ ∀ p ∈ news, p.1 < D
theorem LowPost.mk {a b : Int} {news : List (Addr × Obj)} {D : Addr} {t u : Tok} {n : Nat} (h : ∀ p ∈ news, p.1 < D) : LowPost a b news (.ref D) ((D, tupObj [.int (a.fdiv (Int.gcd a b : Int)) t, .int (b.fdiv (Int.gcd a b : Int)) u] n) :: news) := ⟨_, _, _, _, rfl, rfl, h⟩
theorem LowPost.cur {a b : Int} {news : List (Addr × Obj)} (C : Value → List (Addr × Obj) → Prop) (h : ∀ D t u n, (∀ p ∈ news, p.1 < D) → C (.ref D) ((D, tupObj [.int (a.fdiv (Int.gcd a b : Int)) t, .int (b.fdiv (Int.gcd a b : Int)) u] n) :: news)) : ∀ r n, LowPost a b news r n → C r n := by
  rintro _ _ ⟨D, t, u, n, rfl, rfl, lt⟩
  exact h _ _ _ _ lt
theorem gcd_le_r {a b : Int} (hb : 0 < b) : (Int.gcd a b : Int) ≤ b := Int.le_of_dvd hb (Int.gcd_dvd_right a b)
theorem words_nums_1 : True := by
  k_with "binaryOp FloorDiv int int" => (k_here; k_dflt (refine floordiv_int (by omega) ?_ (Or.inl (PyProof.noPylong_small (by omega)))))
  trivial
theorem low_spec (w : World) {a b : Int} {ta tb : Tok} {news : List (Addr × Obj)} (ha : 0 ≤ a) (hb : 0 < b) (hb2 : b ≤ 1000000) :
    Spec w 20 200 354 [.int a ta, .int b tb] news (LowPost a b news) := by
  intro mean mg mb dp un gd cn cs c0 ccd cl outer A₀ base h₀ L m s Q E B F X N T hk hdp hun hret
  refine wpAny_call ?_
  k_dflt ktr_enter
  rename_i g1 L1 h1 FG1 F1 N1 B1 X1 T1
  k_steps
  refine wrest_ind (fun n s' => ∃ (h : Heap) (tk : Nat) (x y : Int) (tx ty : Tok) (u : Str → Option Value), s' = ⟨h, s.gens, s.drawn, tk, s.os⟩ ∧ y.toNat = n ∧ 0 ≤ x ∧ 0 ≤ y ∧ Int.gcd x y = Int.gcd a b ∧
    Fr g1 L1 h (fun z => if z = Str.ofString "one" then some (.int x tx) else if z = Str.ofString "other" then some (.int y ty) else if z = Str.ofString "top" then some (.int a ta) else if z = Str.ofString "bottom" then some (.int b tb) else u z) ∧ News g1 L1 h news) ?_ ?_ b.toNat _ ?_
  · with_unfolding_all passes_own
  · rintro n _ ⟨h, tk, x, y, tx, ty, u, rfl, hn, hx, hy, hg, F2, N2⟩ ih
    k_steps
    refine whlif_split (fun hy0 => ?_) (fun hy0 => ?_)
    · k_steps
      rename Fr _ _ _ _ => F10
      rename News _ _ _ _ => N10
      have hlt := fm_lt (a := x) (b := y) (by omega)
      have hnn := fm_nn (a := x) (b := y) (by omega)
      show WRest _ _ _ _ _ _ _ _ _ _
      exact ih (x.fmod y).toNat _ (by omega) ⟨_, _, y, x.fmod y, _, _, _, rfl, rfl, hy, hnn, by rw [euclid hy, hg], fr_skip2 F10, n_drop1 N10⟩
    · have e : y = 0 := by omega
      subst e
      rw [Int.gcd_zero_right] at hg
      have eg : x = (Int.gcd a b : Int) := by rw [← hg, Int.natAbs_of_nonneg hx]
      have hgp : 0 < Int.gcd a b := Int.gcd_pos_of_ne_zero_right a (by omega)
      have hx0 : 0 < x := by omega
      have hxn : x ≠ 0 := by omega
      have hxb : x ≤ 1000000 := Int.le_trans (eg ▸ gcd_le_r hb) hb2
      k_steps
      rename Fr _ _ _ _ => F10
      rename News _ _ _ _ => N10
      subst eg
      exact hret _ _ _ _ (by k_asm) (by k_asm) (.mk (by first | assumption | exact tb_ltOf (by assumption)))
  · rename Fr _ _ _ _ => F10
    rename News _ _ _ _ => N10
    exact ⟨_, _, a, b, _, _, _, rfl, rfl, ha, Int.le_of_lt hb, rfl, fr_under F10 rfl rfl, n_drop1 N10⟩
theorem words_nums_2 : True := by
  k_with "call ref" => (k_here; (with_reducible show wpAny _ _ (call (Value.ref 21) _) _ _ _); (k_dflt (refine' Spec.useC (gcd_spec _ ?ka_31 ?kb_31) ?k1_31 ?k2_31 ?k3_31 ?k4_31 ?k5_31 ?k6_31 ?k7_31 ?k8_31 GcdPost.cur ?_; (case ka_31 => omega); (case kb_31 => omega); (case k1_31 => k_asm); (case k2_31 => k_asm); (case k3_31 => k_asm); (case k4_31 => k_asm); (case k5_31 => k_asm); (case k6_31 => first | exact rfl | assumption); (case k7_31 => first | omega | ktr_room); (case k8_31 => first | omega | ktr_units))); intro tgP hP tkP FP NP; (try dsimp only); (try k_fold))
  trivial
theorem numof_spec (w : World) {a b : Int} {ta tb : Tok} {news : List (Addr × Obj)} (ha : 0 ≤ a) (hb : 0 < b) (ha2 : a ≤ 1000000000000) (hb2 : b ≤ 1000000) :
    Spec w 50 500 36 [.int a ta, .int b tb] news (LowPost a b news) := by
  intro mean mg mb dp un gd cn cs c0 ccd cl outer A₀ base h₀ L m s Q E B F X N T hk hdp hun hret
  have hg0 : (0 : Int) < (Int.gcd a b : Int) := by have := Int.gcd_pos_of_ne_zero_right a (b := b) (by omega); omega
  have hg1 : (Int.gcd a b : Int) ≤ b := gcd_le_r hb
  have hd0 : 0 ≤ b.fdiv (Int.gcd a b : Int) := fd_nn (by omega) hg0
  have hd1 : b.fdiv (Int.gcd a b : Int) ≤ b := by
    rw [Int.fdiv_eq_ediv_of_nonneg _ (by omega)]
    exact Int.ediv_le_self _ (by omega)
  refine wpAny_call ?_
  refine' code_def ?k1 ?k2 ?k3 ?k4 ?k5 ?kA ?kF ?kK ?k6 ?k7 ?k8 ?k9 ?kB ?_ ?c2 ?c3 ?c4 ?c5
  case kA => exact rfl
  case kF => exact rfl
  case kK => assumption
  case k1 => k_asm
  case k2 => k_asm
  case k3 => k_asm
  case k4 => k_asm
  case k5 => k_asm
  case k6 => k_is
  case k7 => k_is
  case k8 => ktr_room
  case k9 => exact binds_K (by k_in) rfl (by k_is) rfl rfl rfl
  case c5 => decide
  case kB => exact locs rfl
  case c2 => exact rfl
  case c3 => exact rfl
  case c4 => exact rfl
  intro g' L' h' FG' F' N' B' X' T'
  (try dsimp only)
  (try k_fold)
  k_steps
  · exfalso; omega
  · rename News _ _ _ _ => N10
    exact hret _ _ _ _ (by k_asm) (n_drop2 N10) (.mk (by first | assumption | exact tb_ltOf (And.right (by assumption))))

theorem words_digs_0 : True := by
  k_with_none
  k_with "k_all" => exact List.forall_mem_append.mpr ⟨by k_all, by k_all⟩
  k_with "k_all" => exact tbn_neAll (by assumption)
  k_with "k_all" => assumption
  k_with "k_updF" => assumption
  k_with "k_mem" => assumption
  k_with "k_room" => ktr_room
  trivial
open Builtin Builtin.Str
def dch (d : Nat) : Str := ⟨#[48 + d]⟩
def dtx (ds : List Nat) : Str := ⟨(ds.map (48 + ·)).toArray⟩
noncomputable def dval : Int → List Nat → Int
  | n, [] => n
  | n, d :: ds => dval (n * 10 + (d : Int)) ds
theorem dval_cons (n : Int) (d : Nat) (ds : List Nat) : dval n (d :: ds) = dval (n * 10 + d) ds := rfl
theorem occ_digit {d : Nat} (h : d ≤ 9) : occurrences (Str.ofString "0123456789") (dch d) 0 (Str.ofString "0123456789").length 1 = [d] := by
  have : d = 0 ∨ d = 1 ∨ d = 2 ∨ d = 3 ∨ d = 4 ∨ d = 5 ∨ d = 6 ∨ d = 7 ∨ d = 8 ∨ d = 9 := by omega
  rcases this with rfl | rfl | rfl | rfl | rfl | rfl | rfl | rfl | rfl | rfl <;> decide +kernel
section
variable {prog : Program} {w : World} {A : Around} {E : Value → Shared → Prop} {s : Shared}
theorem index_digit {d : Nat} {t u : Tok} {Q : Value → Shared → Prop} (h : d ≤ 9) (hq : Q (.int d s.toks) { s with toks := s.toks + 1 }) :
    wpAny (model prog w) A (call (.builtin "str.index") [.str (Str.ofString "0123456789") t, .str (dch d) u]) Q E s :=
  call_gives F.slot_str_index (typeIs_str s _ t) F.entry_str_index (F.args_str_index_2 _ _) (gives_str_index _ _ t u d [] (occ_digit h)) hq
variable {env : Env} {h₀ : Heap} {x : Str} {body : List Stmt} {Q : Flow → Shared → Prop}
theorem strRest_ind {I : Addr} (J : List Str → (Str → Option Value) → List (Addr × Obj) → Prop)
    (step : ∀ c r m news u it h tk, J (c :: r) m news → Fr h₀ env.locals h (fun y => if y = x then some (.str c u) else m y) → News h₀ env.locals h ((I, it) :: news) →
      wpAny (model prog w) A (execs body env) (UnrPost h₀ env.locals { s with heap := h, toks := tk } I it (fun m' news' => J r m' news') Q) E { s with heap := h, toks := tk })
    (fin : ∀ m news h tk, J [] m news → Fr h₀ env.locals h m → News h₀ env.locals h news → Q .next { s with heap := h, toks := tk }) :
    ∀ l m news, J l m news → StrRest prog w A E h₀ env x body Q s I l m news := by
  intro l
  induction l with
  | nil => intro m news j; exact StrRest.zero fun h tk F N => fin m news h tk j F N
  | cons c r ih =>
    intro m news j
    refine StrRest.succ fun u it h tk F N => wpAny_mono (step c r m news u it h tk j F N) (fun f s₂ q => ?_) fun _ _ q => q
    cases f with
    | next => obtain ⟨h', tk', m', nw, e, F', N', ho, j'⟩ := q; exact ⟨h', tk', m', nw, e, F', N', ho, ih m' nw j'⟩
    | cont => obtain ⟨h', tk', m', nw, e, F', N', ho, j'⟩ := q; exact ⟨h', tk', m', nw, e, F', N', ho, ih m' nw j'⟩
    | brk => exact q
    | ret v => exact q
end
def WStr (prog : Program) (w : World) (A : Around) (E : Value → Shared → Prop) (h₀ : Heap) (env : Env) (x : Str) (body : List Stmt) (Q : Flow → Shared → Prop) (s : Shared) (I : Addr) (l : List Str) (m : Str → Option Value) (news : List (Addr × Obj)) : Prop := StrRest prog w A E h₀ env x body Q s I l m news
theorem iter_strW {prog : Program} {w : World} {A : Around} {E : Value → Shared → Prop} {s : Shared} {env : Env} {h₀ : Heap} {x : Str} {body : List Stmt} {Q : Flow → Shared → Prop} {tx : Str} {t : Tok} {m₀ : Str → Option Value} {news : List (Addr × Obj)} (hh : A.handled = none) (F : Fr h₀ env.locals s.heap m₀) (N : News h₀ env.locals s.heap news)
    (rest₀ : ∀ I : Addr, (∀ p ∈ news, p.1 < I) → WStr prog w A E h₀ env x body Q s I (tx.cps.toList.map fun c => (⟨#[c]⟩ : Str)) m₀ news) :
    wpAny (model prog w) A (pyIter (.str tx t)) (fun it s₂ => LoopAtV prog w A h₀ env x body Q E it s₂) E s := iter_strUnr hh F N rfl rest₀
theorem words_digs_1 : True := by
  k_with "pyIter str" => (k_here; (rename Fr _ _ _ _ => lF'_32); (rename News _ _ _ _ => lN'_32); (with_unfolding_all refine iter_strW (by rfl) lF'_32 lN'_32 ?_); clear lF'_32 lN'_32; intro i'_32 l1_32; (try k_lt l1_32))
  k_with "exec For" => (k_here; (with_reducible show wpAny _ _ (exec (Stmt.For _ _ _ [] _) _) _ _ _); (rename Fr _ _ _ _ => lF'_33); (with_unfolding_all refine' For_invVF lF'_33 ?k1_33 ?k2_33 ?_; (case k1_33 => exact rfl); (case k2_33 => exact rfl); k_whole))
  k_with "call builtin:str.index" => (k_here; k_dflt (refine index_digit (by assumption) ?_))
  trivial
def WholePost (v : Int) (news : List (Addr × Obj)) (r : Value) (news' : List (Addr × Obj)) : Prop := news' = news ∧ ∃ tk, r = .int v tk
theorem WholePost.cur {v : Int} {news : List (Addr × Obj)} (C : Value → List (Addr × Obj) → Prop) (h : ∀ tk, C (.int v tk) news) : ∀ r n, WholePost v news r n → C r n := by
  rintro _ _ ⟨rfl, tk, rfl⟩
  exact h _
theorem whole_spec (w : World) {ds : List Nat} {t : Tok} {news : List (Addr × Obj)} (hd : ∀ d ∈ ds, d ≤ 9) :
    Spec w 20 200 43 [.str (dtx ds) t] news (WholePost (dval 0 ds) news) := by
  intro mean mg mb dp un gd cn cs c0 ccd cl outer A₀ base h₀ L m s Q E B F X N T hk hdp hun hret
  refine wpAny_call ?_
  k_dflt ktr_enter
  rename_i g1 L1 h1 FG1 F1 N1 B1 X1 T1
  k_steps
  refine strRest_ind (fun l m nw => ∃ (n : Int) (tk : Tok) (u : Str → Option Value) (rs : List Nat), l = rs.map dch ∧ (∀ d ∈ rs, d ≤ 9) ∧ m = (fun y => if y = Str.ofString "number" then some (.int n tk) else u y) ∧ nw = news ∧ dval n rs = dval 0 ds) ?_ ?_ _ _ _ ⟨0, _, _, ds, by simp [dtx, dch], hd, rfl, rfl, rfl⟩
  · rintro c r m nw u it h tk ⟨n, tkn, u', rs, e, hrs, rfl, rfl, hv⟩ F2 N2
    cases rs with
    | nil => cases e
    | cons d rs =>
      cases e
      have hd9 : d ≤ 9 := hrs d (.head _)
      dsimp only at F2
      k_steps
      rename Fr _ _ _ _ => F10
      rename News _ _ _ _ => N10
      exact UnrEnd.intro F10 N10 _ (fun p hp => hp) (fun p hp => Nat.ne_of_lt ((by assumption : ∀ p ∈ _, p.1 < _) p hp)) ⟨_, _, _, rs, rfl, fun d hd => hrs d (.tail _ hd), rfl, rfl, hv⟩
  · rintro m nw h tk ⟨n, tkn, u', rs, e, hrs, rfl, rfl, hv⟩ F2 N2
    cases rs with
    | cons d rs => cases e
    | nil =>
      k_steps
      exact hret _ _ _ _ (by k_asm) (by k_asm) ⟨rfl, tkn, by rw [← hv]; rfl⟩

theorem words_digs_2 : True := by
  k_with "call ref" => (k_here; (with_reducible show wpAny _ _ (call (Value.ref 43) _) _ _ _); (k_dflt (refine' Spec.useC (whole_spec _ (ds := ?ds_35) ?ka_35) ?k1_35 ?k2_35 ?k3_35 ?k4_35 ?k5_35 ?k6_35 ?k7_35 ?k8_35 WholePost.cur ?_; (case ka_35 => assumption); (case k1_35 => k_asm); (case k2_35 => k_asm); (case k3_35 => k_asm); (case k4_35 => k_asm); (case k5_35 => k_asm); (case k6_35 => first | exact rfl | assumption); (case k7_35 => first | omega | ktr_room); (case k8_35 => first | omega | ktr_units))); intro tgP hP tkP FP NP; (try dsimp only); (try k_fold))
  k_with "call ref" => (k_here; (with_reducible show wpAny _ _ (call (Value.ref 36) _) _ _ _); (k_dflt (refine' Spec.useC (numof_spec _ ?ka_36 ?kb_36 ?kc_36 ?kd_36) ?k1_36 ?k2_36 ?k3_36 ?k4_36 ?k5_36 ?k6_36 ?k7_36 ?k8_36 LowPost.cur ?_; (case ka_36 => omega); (case kb_36 => omega); (case kc_36 => omega); (case kd_36 => omega); (case k1_36 => k_asm); (case k2_36 => k_asm); (case k3_36 => k_asm); (case k4_36 => k_asm); (case k5_36 => k_asm); (case k6_36 => first | exact rfl | assumption); (case k7_36 => first | omega | ktr_room); (case k8_36 => first | omega | ktr_units))); intro dP taP tbP nP ltP hP tkP FP NP; (try dsimp only); (try k_fold))
  trivial
/-- the text of a number: figures, a point or none, figures -/
def numTx (as bs : List Nat) (pt : Bool) : Str := dtx as ++ (if pt then Str.ofString "." else Str.ofString "") ++ dtx bs
theorem dtx_list (ds : List Nat) : (dtx ds).cps.toList = ds.map (48 + ·) := by simp [dtx]
theorem dtx_len (ds : List Nat) : (dtx ds).length = ds.length := by simp [dtx, Str.length]
theorem dtx_app (as bs : List Nat) : dtx as ++ dtx bs = dtx (as ++ bs) := Str.ext' (by rw [Str.cps_append]; simp [dtx])
theorem dot_eq : Str.ofString "." = ⟨#[46]⟩ := by decide +kernel
theorem nil_eq : Str.ofString "" = Str.empty := by decide +kernel
theorem dtx_nil : dtx [] = Str.empty := rfl
theorem num_list (as bs : List Nat) : (numTx as bs true).cps.toList = as.map (48 + ·) ++ 46 :: bs.map (48 + ·) := by
  unfold numTx
  rw [if_pos rfl, dot_eq, Str.cps_append, Str.cps_append, Array.toList_append, Array.toList_append, dtx_list, dtx_list]
  simp
theorem num_false (as : List Nat) : numTx as [] false = dtx as := by
  unfold numTx
  rw [if_neg Bool.false_ne_true, nil_eq, dtx_nil, Str.append_empty, Str.append_empty]
theorem no_dot (l : List Nat) : 46 ∉ l.map (48 + ·) := by
  intro h
  obtain ⟨d, _, e⟩ := List.mem_map.mp h
  omega
theorem at_dot {as bs : List Nat} {i : Nat} (h : (as.map (48 + ·) ++ 46 :: bs.map (48 + ·))[i]? = some 46) : i = as.length := by
  rcases Nat.lt_trichotomy i as.length with hi | hi | hi
  · rw [List.getElem?_append_left (by simpa using hi)] at h
    exact absurd (List.mem_of_getElem? h) (no_dot as)
  · exact hi
  · rw [List.getElem?_append_right (by simp; omega)] at h
    obtain ⟨k, hk⟩ : ∃ k, i - (as.map (48 + ·)).length = k + 1 := ⟨i - as.length - 1, by simp; omega⟩
    rw [hk, List.getElem?_cons_succ] at h
    exact absurd (List.mem_of_getElem? h) (no_dot bs)
theorem part_num (as bs : List Nat) (pt : Bool) (hp : pt = false → bs = []) : Txt.partition (numTx as bs pt) (Str.ofString ".") = (dtx as, if pt then Str.ofString "." else Str.empty, dtx bs) := by
  cases pt with
  | false =>
    rw [hp rfl, num_false]
    have h := StrLaws.found_one (dtx as) 46
    rw [dtx_list, decide_eq_false (no_dot as)] at h
    unfold Txt.partition
    rw [dot_eq]
    cases h2 : occurrences (dtx as) ⟨#[46]⟩ 0 (dtx as).length 1 with
    | nil => rfl
    | cons i r => rw [h2] at h; cases h
  | true =>
    have h := StrLaws.found_one (numTx as bs true) 46
    rw [num_list, decide_eq_true (by simp)] at h
    unfold Txt.partition
    rw [dot_eq]
    cases h2 : occurrences (numTx as bs true) ⟨#[46]⟩ 0 (numTx as bs true).length 1 with
    | nil => rw [h2] at h; cases h
    | cons i r =>
      have h3 := StrLaws.occ_spec (numTx as bs true) ⟨#[46]⟩ 0 (numTx as bs true).length 1 i (by rw [h2]; exact .head _)
      rw [StrLaws.subAt_one, num_list] at h3
      have e := at_dot h3
      subst e
      have e1 : strSub (numTx as bs true) 0 as.length = dtx as := Str.ext' (Array.toList_inj.mp (by
        rw [StrLaws.strSub_toList, num_list, dtx_list, List.drop_zero, Nat.sub_zero, List.take_append_of_le_length (by simp), List.take_of_length_le (by simp)]))
      have e2 : strSub (numTx as bs true) (as.length + (⟨#[46]⟩ : Str).length) (numTx as bs true).length = dtx bs := Str.ext' (Array.toList_inj.mp (by
        have hl : (numTx as bs true).length = as.length + 1 + bs.length := by
          show (numTx as bs true).cps.size = _
          rw [← Array.length_toList, num_list]; simp; omega
        rw [StrLaws.strSub_toList, num_list, dtx_list, hl]
        show List.take (as.length + 1 + bs.length - (as.length + 1)) (List.drop (as.length + 1) _) = _
        rw [show as.map (48 + ·) ++ 46 :: bs.map (48 + ·) = (as.map (48 + ·) ++ [46]) ++ bs.map (48 + ·) by simp, List.drop_left' (by simp)]
        exact List.take_of_length_le (by rw [List.length_map]; omega)))
      show (strSub (numTx as bs true) 0 as.length, (⟨#[46]⟩ : Str), strSub (numTx as bs true) (as.length + (⟨#[46]⟩ : Str).length) (numTx as bs true).length) = _
      rw [e1, e2]
      rfl
theorem num_len (as bs : List Nat) (pt : Bool) : (numTx as bs pt).length ≤ as.length + bs.length + 1 := by
  unfold numTx
  rw [Str.length_append, Str.length_append, dtx_len, dtx_len]
  cases pt
  · rw [if_neg Bool.false_ne_true, nil_eq]; show _ + 0 + _ ≤ _; omega
  · rw [if_pos rfl, dot_eq]; show _ + 1 + _ ≤ _; omega
theorem add_dtx {prog : Program} {w : World} {A : Around} {E : Value → Shared → Prop} {s : Shared} {as bs : List Nat} {t u : Tok} {Q : Value → Shared → Prop} (hl : as.length + bs.length ≤ 1000) (h : ∀ t' tk, Q (.str (dtx (as ++ bs)) t') { s with toks := tk }) :
    wpAny (model prog w) A (binaryOp .Add (.str (dtx as) t) (.str (dtx bs) u)) Q E s :=
  PyProof.Rows.add_str (fun t' tk => by rw [dtx_app]; exact h t' tk) (by rw [dtx_len, dtx_len, PySem.sizeLine_eq]; omega)
theorem words_digs_3 : True := by
  k_with "binaryOp Add str str" => (k_here; k_dflt (refine add_dtx (by omega) ?_); intro tD_37 kD_37)
  k_with "call builtin:str.partition" => (k_here; k_dflt (refine KXpa.partition (by k_asm) (by k_asm) (by decide +kernel) (congrArg (·.1) (part_num _ _ _ (by assumption))) (congrArg (·.2.1) (part_num _ _ _ (by assumption))) (congrArg (·.2.2) (part_num _ _ _ (by assumption))) (Nat.le_trans (num_len _ _ _) (by rw [PySem.sizeLine_eq]; omega)) ?_); intro D'_38 _ _ _ _ _ F'_38 N'_38 l1_38; (try k_lt l1_38); (try dsimp only at N'_38))
  trivial
theorem pow10_le : ∀ {n m : Nat}, n ≤ m → (10 : Int) ^ n ≤ 10 ^ m := by
  intro n m h
  have : (10 : Nat) ^ n ≤ 10 ^ m := Nat.pow_le_pow_right (by decide) h
  exact_mod_cast this
theorem dval_nn : ∀ (ds : List Nat) (n : Int), 0 ≤ n → 0 ≤ dval n ds
  | [], _, h => h
  | d :: ds, n, h => dval_nn ds (n * 10 + d) (by omega)
theorem dval_lt : ∀ (ds : List Nat) (n : Int), (∀ d ∈ ds, d ≤ 9) → dval n ds < (n + 1) * 10 ^ ds.length
  | [], n, _ => by simp only [dval, List.length_nil, Int.pow_zero]; omega
  | d :: ds, n, h => by
    have h1 := dval_lt ds (n * 10 + d) fun x hx => h x (.tail _ hx)
    have h2 := h d (.head _)
    have h3 : (n * 10 + (d : Int) + 1) * 10 ^ ds.length ≤ ((n + 1) * 10) * 10 ^ ds.length := Int.mul_le_mul_of_nonneg_right (by omega) (Int.le_of_lt (Int.pow_pos (by decide)))
    have h4 : (n + 1) * 10 ^ (d :: ds).length = ((n + 1) * 10) * 10 ^ ds.length := by rw [List.length_cons, Int.pow_succ, Int.mul_assoc, Int.mul_comm (10 ^ ds.length) 10]
    rw [h4]
    exact Int.lt_of_lt_of_le h1 h3
theorem value_spec (w : World) {as bs : List Nat} {pt : Bool} {t : Tok} {news : List (Addr × Obj)} (ha : ∀ d ∈ as, d ≤ 9) (hb : ∀ d ∈ bs, d ≤ 9) (hla : as.length ≤ 5) (hlb : bs.length ≤ 5) (hp : pt = false → bs = []) :
    Spec w 100 1000 314 [.str (numTx as bs pt) t] news (LowPost (dval 0 (as ++ bs)) (10 ^ bs.length) news) := by
  intro mean mg mb dp un gd cn cs c0 ccd cl outer A₀ base h₀ L m s Q E B F X N T hk hdp hun hret
  have hab : ∀ d ∈ as ++ bs, d ≤ 9 := fun d h => (List.mem_append.mp h).elim (ha d) (hb d)
  have hlb2 := dtx_len bs
  have hv0 : 0 ≤ dval 0 (as ++ bs) := dval_nn _ _ (Int.le_refl 0)
  have hv1 : dval 0 (as ++ bs) < (0 + 1) * 10 ^ (as ++ bs).length := dval_lt _ _ hab
  have hv2 : ((0 : Int) + 1) * 10 ^ (as ++ bs).length ≤ 1000000000000 := by
    rw [Int.zero_add, Int.one_mul]
    exact pow10_le (n := (as ++ bs).length) (m := 12) (by rw [List.length_append]; omega)
  have hp0 : (0 : Int) < 10 ^ ((dtx bs).length : Int).toNat := Int.pow_pos (by decide)
  have hp1 : (10 : Int) ^ ((dtx bs).length : Int).toNat ≤ 1000000 := pow10_le (m := 6) (by omega)
  refine wpAny_call ?_
  k_dflt ktr_enter
  rename_i g1 L1 h1 FG1 F1 N1 B1 X1 T1
  k_steps
  rename News _ _ _ _ => N10
  have e1 : ((dtx bs).length : Int).toNat = bs.length := by rw [Int.toNat_natCast, hlb2]
  rw [e1] at N10
  exact hret _ _ _ _ (by k_asm) (n_drop2 N10) (.mk fun p hp => (by assumption : ∀ p ∈ _ :: _, p.1 < _) p (.tail _ hp))

theorem words_upd_0 : True := by
  k_with_none
  k_with "k_all" => exact List.forall_mem_append.mpr ⟨by k_all, by k_all⟩
  k_with "k_all" => exact tbn_neAll (by assumption)
  k_with "k_all" => assumption
  k_with "k_updF" => assumption
  k_with "k_mem" => assumption
  k_with "k_room" => ktr_room
  trivial
theorem updF_of {d : Addr} {o : Obj} {post : List (Addr × Obj)} : ∀ {pre : List (Addr × Obj)}, (∀ p ∈ pre, p.1 ≠ d) → (∀ p ∈ post, p.1 ≠ d) → UpdF d o (pre ++ (d, o) :: post) (fun o' => pre ++ (d, o') :: post)
  | [], _, h => .head h
  | p :: pre, h1, h2 => .tail (h1 p (.head _)) (updF_of (fun q hq => h1 q (.tail _ hq)) h2)
theorem updF_self {d : Addr} {o : Obj} {news : List (Addr × Obj)} {g : Obj → List (Addr × Obj)} (U : UpdF d o news g) : news = g o := by
  obtain ⟨pre, post, rfl, hg, _, _⟩ := U.split
  rw [hg]
def AllUpd (d : Addr) (g : Obj → List (Addr × Obj)) : Prop := ∀ o, UpdF d o (g o) g
theorem AllUpd.get {d : Addr} {g : Obj → List (Addr × Obj)} (h : AllUpd d g) (o : Obj) : UpdF d o (g o) g := h o
theorem updF_all {d : Addr} {o : Obj} {news : List (Addr × Obj)} {g : Obj → List (Addr × Obj)} (U : UpdF d o news g) : AllUpd d g := by
  obtain ⟨pre, post, rfl, hg, a, b⟩ := U.split
  have e : g = fun o' => pre ++ (d, o') :: post := funext hg
  intro o'
  rw [e]
  exact updF_of a b
theorem AllUpd.mem {d : Addr} {g : Obj → List (Addr × Obj)} (h : AllUpd d g) (o : Obj) : (d, o) ∈ g o := updF_mem (h o)
theorem AllUpd.keep {d : Addr} {g : Obj → List (Addr × Obj)} (h : AllUpd d g) {o : Obj} {p : Addr × Obj} (hp : p ∈ g o) (hn : p.1 ≠ d) (o' : Obj) : p ∈ g o' := updF_keep (h o) hp hn
/-- what is apart from one is apart from all -/
theorem AllUpd.apart {d x : Addr} {g : Obj → List (Addr × Obj)} (h : AllUpd d g) {o : Obj} (k : ∀ p ∈ g o, p.1 ≠ x) (o' : Obj) : ∀ p ∈ g o', p.1 ≠ x := by
  intro p hp
  by_cases e : p.1 = d
  · rw [e]; exact k _ (h.mem o)
  · exact k p (h.keep hp e o)
theorem ne_upd {d l : Addr} {g : Obj → List (Addr × Obj)} (h : AllUpd d g) {o : Obj} (k : AllLt l (g o)) : l ≠ d := Nat.ne_of_gt (tb_ltOf k _ (h.mem o))
theorem ne_upd1 {P1 : Prop} {d l : Addr} {g : Obj → List (Addr × Obj)} {o : Obj} (h : AllUpd d g) (k : P1 ∧ AllLt l (g o)) : l ≠ d := ne_upd h k.2
theorem ne_upd2 {P1 P2 : Prop} {d l : Addr} {g : Obj → List (Addr × Obj)} {o : Obj} (h : AllUpd d g) (k : P1 ∧ P2 ∧ AllLt l (g o)) : l ≠ d := ne_upd h k.2.2
theorem ne_upd3 {P1 P2 P3 : Prop} {d l : Addr} {g : Obj → List (Addr × Obj)} {o : Obj} (h : AllUpd d g) (k : P1 ∧ P2 ∧ P3 ∧ AllLt l (g o)) : l ≠ d := ne_upd h k.2.2.2
theorem ne_upd4 {P1 P2 P3 P4 : Prop} {d l : Addr} {g : Obj → List (Addr × Obj)} {o : Obj} (h : AllUpd d g) (k : P1 ∧ P2 ∧ P3 ∧ P4 ∧ AllLt l (g o)) : l ≠ d := ne_upd h k.2.2.2.2
theorem ne_upd5 {P1 P2 P3 P4 P5 : Prop} {d l : Addr} {g : Obj → List (Addr × Obj)} {o : Obj} (h : AllUpd d g) (k : P1 ∧ P2 ∧ P3 ∧ P4 ∧ P5 ∧ AllLt l (g o)) : l ≠ d := ne_upd h k.2.2.2.2.2
theorem ne_upd6 {P1 P2 P3 P4 P5 P6 : Prop} {d l : Addr} {g : Obj → List (Addr × Obj)} {o : Obj} (h : AllUpd d g) (k : P1 ∧ P2 ∧ P3 ∧ P4 ∧ P5 ∧ P6 ∧ AllLt l (g o)) : l ≠ d := ne_upd h k.2.2.2.2.2.2
def RightPost (g : Obj → List (Addr × Obj)) (r : Value) (news' : List (Addr × Obj)) : Prop := ∃ s0' s1' t0' t1' n', r = .bool true ∧ SrcOk s0' s1' ∧ news' = g (srcObj s0' s1' t0' t1' n')
theorem RightPost.mk {g : Obj → List (Addr × Obj)} {s0 s1 : Int} {t0 t1 : Tok} {n : Nat} (ok : SrcOk s0 s1) : RightPost g (.bool true) (g (srcObj s0 s1 t0 t1 n)) := ⟨_, _, _, _, _, rfl, ok, rfl⟩
theorem RightPost.cur {g : Obj → List (Addr × Obj)} (C : Value → List (Addr × Obj) → Prop) (h : ∀ s0 s1 t0 t1 n, SrcOk s0 s1 → C (.bool true) (g (srcObj s0 s1 t0 t1 n))) : ∀ r n, RightPost g r n → C r n := by
  rintro _ _ ⟨s0, s1, t0, t1, n, rfl, ok, rfl⟩
  exact h _ _ _ _ _ ok

theorem words_wsrc_0 : True := by
  k_with_none
  k_with "k_all" => exact List.forall_mem_append.mpr ⟨by k_all, by k_all⟩
  k_with "k_all" => exact tbn_neAll (by assumption)
  k_with "k_all" => assumption
  k_with "k_updF" => assumption
  k_with "k_mem" => assumption
  k_with "k_room" => ktr_room
  trivial
section
open PyProof.Rows.LCg
variable {prog : Program} {w : World} {A : Around} {E : Value → Shared → Prop} {s : Shared} {h₀ : Heap} {L : Addr} {m : Str → Option Value} {env : Env}
def WSrc (prog : Program) (w : World) (A : Around) (h₀ : Heap) (L : Addr) (m : Str → Option Value) (env : Env) (elt : Expr) (x : Str) (scope : Scope) (cl : List (Str × Addr)) (Fin : Shared → List Value → List (Addr × Obj) → Prop) (xv : Value) (s₁ : Shared) : Prop := CompSrc prog w A h₀ L m env elt x scope cl Fin xv s₁
theorem ListComp_W {elt iter : Expr} {x : Str} {px : Pos} {scope : Scope} {cl : List (Str × Addr)} {pos : Pos} {Q : Value → Shared → Prop} (F₀ : Fr h₀ L s.heap m)
    (hclos : closureFor scope env = pure cl) (hcell : ∀ y ∈ scope.names, y.2 ≠ .cell) (hkind : scope.kind = .function)
    (hnames : ∀ y ∈ scope.names, y.2 = .local → scope.names.lookup y.1 = some .local) (hx : scope.names.lookup x = some .local)
    (h : wpAny (model prog w) A (eval iter env) (WSrc prog w A h₀ L m env elt x scope cl (fun s₂ => FinE h₀ L m s₂ Q)) E s)
    (hs : ∀ x, foldedSetIterable iter env x = pure x := by intro _; rfl) :
    wpAny (model prog w) A (eval (.ListComp elt [⟨.Name x px, iter, [], 0⟩] scope pos) env) Q E s := ListComp_U F₀ hclos hcell hkind hnames hx h hs
theorem Assign_ListComp_W {elt iter : Expr} {x y : Str} {px py : Pos} {scope : Scope} {cl : List (Str × Addr)} {pos spos : Pos} {Q : Flow → Shared → Prop} (F₀ : Fr h₀ L s.heap m) (hLe : env.locals = L)
    (hsw : swapsWith (.ListComp elt [⟨.Name x px, iter, [], 0⟩] scope pos) (some (.Name y py)) spos.line env = pure true)
    (hclos : closureFor scope env = pure cl) (hcell : ∀ z ∈ scope.names, z.2 ≠ .cell) (hkind : scope.kind = .function)
    (hnames : ∀ z ∈ scope.names, z.2 = .local → scope.names.lookup z.1 = some .local) (hx : scope.names.lookup x = some .local)
    (hy : env.kindOf y = some .local) (hp : (env.scope.kind == .class || (env.scope.kind == .module && env.locals != env.globals)) = false)
    (h : wpAny (model prog w) A (eval iter env) (WSrc prog w A h₀ L m env elt x scope cl (fun s₂ => FinA h₀ L m s₂ y Q)) E s)
    (hs : ∀ x, foldedSetIterable iter env x = pure x := by intro _; rfl) :
    wpAny (model prog w) A (exec (.Assign [.Name y py] (.ListComp elt [⟨.Name x px, iter, [], 0⟩] scope pos) spos) env) Q E s := Assign_ListComp_U F₀ hLe hsw hclos hcell hkind hnames hx hy hp h hs
theorem off3_upd {I C D src : Addr} {g : Obj → List (Addr × Obj)} (hU : AllUpd src g) {o : Obj} (off : Off3 I C D (g o)) (o' : Obj) : Off3 I C D (g o') := by
  refine Off3.of fun p hp => ⟨?_, ?_, ?_⟩
  · exact hU.apart (fun p hp => (off.mem p hp).1) o' p hp
  · exact hU.apart (fun p hp => (off.mem p hp).2.1) o' p hp
  · exact hU.apart (fun p hp => (off.mem p hp).2.2) o' p hp
end
theorem off1_in {D : Addr} : ∀ {l : List (Addr × Obj)}, LCg.Off1 D l → ∀ p ∈ l, p.1 ≠ D
  | [], _, _, h => nomatch h
  | _ :: _, h, p, hp => by
    rcases List.mem_cons.mp hp with rfl | hp
    · exact h.1
    · exact off1_in h.2 p hp
inductive DgAre : List Value → List Nat → Prop where
  | nil : DgAre [] []
  | cons {d : Nat} {t : Tok} {vs : List Value} {ds : List Nat} : d ≤ 9 → DgAre vs ds → DgAre (.int d t :: vs) (d :: ds)
theorem DgAre.length {vs : List Value} {ds : List Nat} (h : DgAre vs ds) : vs.length = ds.length := by
  induction h with
  | nil => rfl
  | cons _ _ ih => simp [ih]
theorem DgAre.append {vs ws : List Value} {ds es : List Nat} (h : DgAre vs ds) (k : DgAre ws es) : DgAre (vs ++ ws) (ds ++ es) := by
  induction h with
  | nil => exact k
  | cons h1 _ ih => exact .cons h1 ih
theorem DgAre.all {vs : List Value} {ds : List Nat} (h : DgAre vs ds) : ∀ d ∈ ds, d ≤ 9 := by
  induction h with
  | nil => exact fun _ h => nomatch h
  | cons h1 _ ih => exact fun d hd => (List.mem_cons.mp hd).elim (fun e => e ▸ h1) (ih d)
theorem DgAre.get {vs : List Value} {ds : List Nat} (h : DgAre vs ds) {i : Nat} {v : Value} (hv : vs[i]? = some v) : ∃ d t, ds[i]? = some d ∧ v = .int (d : Int) t ∧ d ≤ 9 := by
  induction h generalizing i with
  | nil => cases hv
  | cons h1 _ ih =>
    cases i with
    | zero => cases hv; exact ⟨_, _, rfl, rfl, h1⟩
    | succ i => exact ih hv
theorem drawn4 {a b c t : Tok} {nine k : Int} {i : Nat} {r : Value} (hn : 0 ≤ nine ∧ nine ≤ 9) (h0 : 0 ≤ k) (h1 : k < 10) (h : [Value.int 0 a, .int 0 b, .int nine c, .int k t][i]? = some r) : ∃ d u, r = .int ((d : Nat) : Int) u ∧ d ≤ 9 := by
  match i, h with
  | 0, h => cases h; exact ⟨0, a, rfl, by omega⟩
  | 1, h => cases h; exact ⟨0, b, rfl, by omega⟩
  | 2, h => cases h; exact ⟨nine.toNat, c, by rw [Int.toNat_of_nonneg hn.1], by omega⟩
  | 3, h => cases h; exact ⟨k.toNat, t, by rw [Int.toNat_of_nonneg h0], by omega⟩

theorem words_loops_0 : True := by
  k_with_none
  k_with "k_all" => exact List.forall_mem_append.mpr ⟨by k_all, by k_all⟩
  k_with "k_all" => exact tbn_neAll (by assumption)
  k_with "k_all" => assumption
  k_with "k_updF" => assumption
  k_with "k_mem" => assumption
  k_with "k_room" => ktr_room
  trivial
section
variable {prog : Program} {w : World} {A : Around} {E : Value → Shared → Prop} {s : Shared} {h₀ : Heap} {L l b e : Addr} {m : Str → Option Value} {news : List (Addr × Obj)} {v : Value} {vs ws : List Value} {n n' : Nat} {Q : Value → Shared → Prop}
theorem m_eq_nil1 (N : News h₀ L s.heap news) (hl : (l, lstObj (v :: vs) n) ∈ news) (he : (e, listOf #[] n') ∈ news) (hu : A.units < cLine) (h : Q (.bool false) s) :
    wpAny (model prog w) A (compareOp .Eq (.ref l) (.ref e)) Q E s :=
  PySem.SeqAt.eq_list_lengthsAt (items := (v :: vs).toArray) (items2 := #[]) (m_isList N hl) ⟨_, (N _ he).1, rfl, n', rfl⟩ (by simp) hu h
theorem m_eq_nil0 (N : News h₀ L s.heap news) (hl : (l, lstObj [] n) ∈ news) (he : (e, listOf #[] n') ∈ news) (hu : A.units < cLine) (h : Q (.bool true) s) :
    wpAny (model prog w) A (compareOp .Eq (.ref l) (.ref e)) Q E s :=
  PySem.SeqAt.eq_listAt (items := #[]) (items2 := #[]) (e := fun _ => true) ⟨_, (N _ hl).1, rfl, n, rfl⟩ ⟨_, (N _ he).1, rfl, n', rfl⟩ rfl hu (fun _ h1 => absurd h1 (Nat.not_lt_zero _)) h
theorem m_eq_nilN (N : News h₀ L s.heap news) (hl : (l, lstObj vs n) ∈ news) (he : (e, listOf #[] n') ∈ news) (hne : vs.length ≠ 0) (hu : A.units < cLine) (h : Q (.bool false) s) :
    wpAny (model prog w) A (compareOp .Eq (.ref l) (.ref e)) Q E s :=
  PySem.SeqAt.eq_list_lengthsAt (items := vs.toArray) (items2 := #[]) (m_isList N hl) ⟨_, (N _ he).1, rfl, n', rfl⟩ (by simpa using hne) hu h
theorem m_addl (F : Fr h₀ L s.heap m) (N : News h₀ L s.heap news) (hl : (l, lstObj vs n) ∈ news) (hb : (b, lstObj ws n') ∈ news) (hsz : vs.length + ws.length ≤ 100000)
    (h : ∀ D h', Fr h₀ L h' m → News h₀ L h' ((D, lstObj (vs ++ ws) 0) :: news) → (∀ p ∈ news, p.1 < D) → Q (.ref D) { s with heap := h' }) :
    wpAny (model prog w) A (binaryOp .Add (.ref l) (.ref b)) Q E s :=
  add_lists F N (m_isList N hl) (m_isList N hb) (fun h' F' N' => h _ h' F' N' fun p hp => Heap.lt_size (N p hp).1) (by rw [PySem.sizeLine_eq]; omega)
end
section
variable {prog : Program} {w : World} {A : Around} {E : Value → Shared → Prop} {s : Shared} {env : Env} {h₀ : Heap} {x : Str} {body : List Stmt} {Q : Flow → Shared → Prop}
def WLst (prog : Program) (w : World) (A : Around) (E : Value → Shared → Prop) (h₀ : Heap) (env : Env) (x : Str) (body : List Stmt) (Q : Flow → Shared → Prop) (s : Shared) (I : Addr) (lp : Addr × Obj) (l : List Value) (m : Str → Option Value) (news : List (Addr × Obj)) : Prop := ListRest prog w A E h₀ env x body Q s I lp l m news
theorem iter_listW {ax : Addr} {vs : List Value} {n : Nat} {m₀ : Str → Option Value} {news : List (Addr × Obj)} (hh : A.handled = none) (F : Fr h₀ env.locals s.heap m₀) (N : News h₀ env.locals s.heap news) (hm : (ax, lstObj vs n) ∈ news)
    (rest₀ : ∀ I : Addr, (∀ p ∈ news, p.1 < I) → WLst prog w A E h₀ env x body Q s I (ax, lstObj vs n) vs m₀ news) :
    wpAny (model prog w) A (pyIter (.ref ax)) (fun it s₂ => LoopAtV prog w A h₀ env x body Q E it s₂) E s := iter_listUnr hh F N hm rfl rfl rest₀
theorem listRest_ind {I : Addr} {lp : Addr × Obj} (J : List Value → (Str → Option Value) → List (Addr × Obj) → Prop)
    (step : ∀ it h tk (R : Flow → Shared → Prop) r, (∀ s', UnrEnd h₀ env.locals { s with heap := h, toks := tk } I it (fun m' news' => lp ∈ news' ∧ J r m' news') s' → R .next s') → ∀ c m news, J (c :: r) m news → Fr h₀ env.locals h (fun y => if y = x then some c else m y) → News h₀ env.locals h ((I, it) :: news) →
      wpAny (model prog w) A (execs body env) R E { s with heap := h, toks := tk })
    (fin : ∀ h tk m news, J [] m news → Fr h₀ env.locals h m → News h₀ env.locals h news → Q .next { s with heap := h, toks := tk }) :
    ∀ l m news, J l m news → WLst prog w A E h₀ env x body Q s I lp l m news := by
  intro l
  induction l with
  | nil => intro m news j; exact ListRest.zero fun h tk F N => fin h tk m news j F N
  | cons c r ih =>
    intro m news j
    refine ListRest.succ fun it h tk _ F N => wpAny_mono (step it h tk (UnrPost h₀ env.locals { s with heap := h, toks := tk } I it (fun m' news' => lp ∈ news' ∧ J r m' news') Q) r (fun _ q => q) c m news j F N) (fun f s₂ q => ?_) fun _ _ q => q
    cases f with
    | next => obtain ⟨h', tk', m', nw, e, F', N', ho, hl, j'⟩ := q; exact ⟨h', tk', m', nw, e, F', N', ho, hl, ih m' nw j'⟩
    | cont => obtain ⟨h', tk', m', nw, e, F', N', ho, hl, j'⟩ := q; exact ⟨h', tk', m', nw, e, F', N', ho, hl, ih m' nw j'⟩
    | brk => exact q
    | ret v => exact q
end

theorem words_texts_0 : True := by
  k_with_none
  k_with "k_all" => exact List.forall_mem_append.mpr ⟨by k_all, by k_all⟩
  k_with "k_all" => exact tbn_neAll (by assumption)
  k_with "k_all" => assumption
  k_with "k_updF" => assumption
  k_with "k_mem" => assumption
  k_with "k_room" => ktr_room
  trivial
open Builtin Builtin.Str
theorem dch_eq {d : Nat} (h : d ≤ 9) : Str.ofString (toString ((d : Nat) : Int)) = dch d := by
  have : d = 0 ∨ d = 1 ∨ d = 2 ∨ d = 3 ∨ d = 4 ∨ d = 5 ∨ d = 6 ∨ d = 7 ∨ d = 8 ∨ d = 9 := by omega
  rcases this with rfl | rfl | rfl | rfl | rfl | rfl | rfl | rfl | rfl | rfl <;> decide +kernel
theorem join_dch : ∀ ds : List Nat, Txt.join (Str.ofString "") (ds.map dch) = dtx ds := by
  intro ds
  show glued (Str.ofString "") (ds.map dch) = _
  rw [StrLaws.glued_eq_join, nil_eq]
  induction ds with
  | nil => rfl
  | cons d ds ih =>
    cases ds with
    | nil => rfl
    | cons e ds =>
      show dch d ++ Str.empty ++ Str.join Str.empty ((e :: ds).map dch) = _
      rw [ih, Str.append_empty]
      exact Str.ext' (by rw [Str.cps_append]; simp [dch, dtx])
section
variable {prog : Program} {w : World} {A : Around} {E : Value → Shared → Prop} {s : Shared} {h₀ : Heap} {L D : Addr} {m : Str → Option Value} {news : List (Addr × Obj)} {Q : Value → Shared → Prop} {t u : Tok}
theorem m_join {ys : List Value} {ds : List Nat} {n : Nat} (N : News h₀ L s.heap news) (hm : (D, lstObj ys n) ∈ news) (hs : StrsAre ys (ds.map dch)) (hl : ds.length ≤ 1000) (h : ∀ t' k, Q (.str (dtx ds) t') { s with toks := k }) :
    wpAny (model prog w) A (call (.builtin "str.join") [.str (Str.ofString "") t, .ref D]) Q E s := by
  have hc := hs.carried
  rw [List.map_map] at hc
  refine KT.join_1 (l := ds) (g := dch) (m_isList N hm) hc (fun _ _ => rfl) (by omega) fun t' k _ => ?_
  rw [join_dch]
  exact h t' k
theorem m_strd {d : Nat} (hd : d ≤ 9) (h : ∀ t' k, Q (.str (dch d) t') { s with toks := k }) : wpAny (model prog w) A (call (.type "str") [.int (d : Int) t]) Q E s := by
  have hl : ((d : Nat) : Int).natAbs.log2 < 1920 := by
    rw [Int.natAbs_natCast]
    exact Nat.lt_of_le_of_lt (Nat.log2_le_self d) (by omega)
  refine P.str_of_int hl ?_
  have e := dch_eq hd
  rw [show (Str.ofString (toString ((d : Nat) : Int))) = dch d from e]
  exact h _ _
/-- the point or none -/
def ptx (pt : Bool) : Str := if pt then Str.ofString "." else Str.ofString ""
theorem ptx_len (pt : Bool) : (ptx pt).length ≤ 1 := by cases pt <;> decide +kernel
theorem add_num1 {as : List Nat} {pt : Bool} (hl : as.length ≤ 1000) (h : ∀ t' tk, Q (.str (dtx as ++ ptx pt) t') { s with toks := tk }) :
    wpAny (model prog w) A (binaryOp .Add (.str (dtx as) t) (.str (ptx pt) u)) Q E s :=
  PyProof.Rows.add_str h (by have := ptx_len pt; rw [dtx_len, PySem.sizeLine_eq]; omega)
theorem add_num1t {as : List Nat} (hl : as.length ≤ 1000) (h : ∀ t' tk, Q (.str (dtx as ++ ptx true) t') { s with toks := tk }) :
    wpAny (model prog w) A (binaryOp .Add (.str (dtx as) t) (.str (Str.ofString ".") u)) Q E s := add_num1 (pt := true) hl h
theorem add_num2 {as bs : List Nat} {pt : Bool} (hl : as.length ≤ 1000) (hl2 : bs.length ≤ 1000) (h : ∀ t' tk, Q (.str (numTx as bs pt) t') { s with toks := tk }) :
    wpAny (model prog w) A (binaryOp .Add (.str (dtx as ++ ptx pt) t) (.str (dtx bs) u)) Q E s :=
  PyProof.Rows.add_str h (by have := ptx_len pt; rw [Str.length_append, dtx_len, dtx_len, PySem.sizeLine_eq]; omega)
theorem point_of {a b : Tok} {i : Nat} {r : Value} (h : [Value.str (Str.ofString "") a, .str (Str.ofString ".") b][i]? = some r) : ∃ pt v, r = .str (ptx pt) v := by
  match i, h with
  | 0, h => cases h; exact ⟨false, a, rfl⟩
  | 1, h => cases h; exact ⟨true, b, rfl⟩
end
section
open PyProof.Rows.LCg
variable {prog : Program} {w : World} {A : Around} {E : Value → Shared → Prop} {s : Shared} {h₀ : Heap} {L : Addr} {m : Str → Option Value} {env : Env}
theorem compRest_fix {elt : Expr} {x : Str} {scope : Scope} {cl : List (Str × Addr)} {S : List (Addr × Obj) → Prop} {P : Nat → Value → Prop} {Fin : List Value → List (Addr × Obj) → Prop} {n : Nat} {news : List (Addr × Obj)} (J : Nat → List Value → Prop) (j0 : J 0 [])
    (step : ∀ i ys v I oI C oC D m₂ h tk (E' : Value → Shared → Prop) (R : Value → Shared → Prop), (∀ y s', CompEnd h₀ L m { s with heap := h, toks := tk } I oI C oC D (lst ys) S (fun y news' => news' = news ∧ J (i + 1) (ys ++ [y])) y s' → R y s') → i < n → J i ys → P i v → NsObj oC m₂ → m₂ x = some v → Fr h₀ L h m → News h₀ L h ((I, oI) :: (C, oC) :: (D, lst ys) :: news) → Off3 I C D news → ((@Ne Nat I C) ∧ (@Ne Nat I D) ∧ (@Ne Nat C D)) →
      wpAny (model prog w) A (eval elt (compEnvC scope cl C env)) R E' { s with heap := h, toks := tk })
    (fin : ∀ ys, J n ys → Fin ys news) : CompRest prog w A h₀ L m env elt x scope cl s S P Fin n 0 [] news :=
  compRest_inv (fun i ys nw => nw = news ∧ J i ys) (fun i ys nw v I oI C oC D m₂ h tk E' R hR hi j hP hC hx F N off ne => by
    obtain ⟨rfl, j⟩ := j
    exact step i ys v I oI C oC D m₂ h tk E' R hR hi j hP hC hx F N off ne) (fun ys nw j => by obtain ⟨rfl, j⟩ := j; exact fin ys j) n 0 [] news (Nat.zero_add _) ⟨rfl, j0⟩
end

theorem words_numright_0 : True := by
  k_with_none
  k_with "k_all" => exact List.forall_mem_append.mpr ⟨by k_all, by k_all⟩
  k_with "k_all" => exact tbn_neAll (by assumption)
  k_with "k_all" => assumption
  k_with "k_updF" => assumption
  k_with "k_mem" => assumption
  k_with "k_room" => ktr_room
  k_with "call ref" => (k_here; (with_reducible show wpAny _ _ (call (Value.ref 340) _) _ _ _); (k_dflt (refine' Spec.useC (f := 340) (take_spec _ ?u_39 ?ok_39 ?ht_39 ?ht2_39) ?k1_39 ?k2_39 ?k3_39 ?k4_39 ?k5_39 ?k6_39 ?k7_39 ?k8_39 TakePost.cur ?_; (case k4_39 => k_asm); (case u_39 => k_updF); (case ok_39 => assumption); (case ht_39 => first | omega | decide); (case ht2_39 => first | omega | decide); (case k1_39 => k_asm); (case k2_39 => k_asm); (case k3_39 => k_asm); (case k5_39 => k_asm); (case k6_39 => first | exact rfl | assumption); (case k7_39 => first | omega | ktr_room); (case k8_39 => first | omega | ktr_units))); intro k'_39 kt'_39 s0'_39 s1'_39 t0'_39 t1'_39 n'_39 hk0'_39 hk1'_39 ok'_39 h'_39 tk'_39 F'_39 N'_39; (try dsimp only); (try k_fold))
  k_with "call builtin:len" => (k_here; (with_reducible show wpAny _ _ (call (Value.builtin "len") [Value.ref _]) _ _ _); k_dflt (refine' m_len ?k1_40 ?k2_40 ?k3_40 ?_; (case k1_40 => k_asm); (case k2_40 => k_mem); (case k3_40 => omega); k_whole))
  k_with "subscriptTail" => (k_here; (with_reducible show wpAny _ _ (subscriptTail _ _ (Value.ref _) (Value.int _ _)) _ _ _); k_dflt (refine' m_item ?k1_41 ?k2_41 ?k3_41 ?k4_41 ?k5_41 ?_ ?k6_41; (case k1_41 => k_asm); (case k2_41 => k_mem); (case k3_41 => omega); (case k4_41 => omega); (case k5_41 => omega); (case k6_41 => with_unfolding_all rfl); k_whole); intro v'_41 hv'_41; (try dsimp only); (try k_fold))
  k_with "eval ListComp" => (k_here; k_dflt (refine ListComp_W (by k_asm) (by rfl) (by decide) (by rfl) (by decide) (by rfl) ?_))
  k_with "exec Assign cons ListComp" => (k_here; k_dflt (refine Assign_ListComp_W (by k_asm) (by rfl) (by with_unfolding_all rfl) (by with_unfolding_all rfl) (by decide) (by rfl) (by decide) (by rfl) (by rfl) (by rfl) ?_))
  k_with "k_ne" => first | (refine' ne_upd ?knA_44 ?knB_44; (case knA_44 => assumption); (case knB_44 => assumption)) | (refine' ne_upd1 ?knA_44 ?knB_44; (case knA_44 => assumption); (case knB_44 => assumption)) | (refine' ne_upd2 ?knA_44 ?knB_44; (case knA_44 => assumption); (case knB_44 => assumption)) | (refine' ne_upd3 ?knA_44 ?knB_44; (case knA_44 => assumption); (case knB_44 => assumption)) | (refine' ne_upd4 ?knA_44 ?knB_44; (case knA_44 => assumption); (case knB_44 => assumption)) | (refine' ne_upd5 ?knA_44 ?knB_44; (case knA_44 => assumption); (case knB_44 => assumption)) | (refine' ne_upd6 ?knA_44 ?knB_44; (case knA_44 => assumption); (case knB_44 => assumption))
  k_with "call ref" => (k_here; (with_reducible show wpAny _ _ (call (Value.ref 347) _) _ _ _); (k_dflt (refine' Spec.useC (one_spec _ ?u_45 ?ok_45 ?hth_45 ?hne_45 ?h0_45 ?h1_45) ?k1_45 ?k2_45 ?k3_45 ?k4_45 ?k5_45 ?k6_45 ?k7_45 ?k8_45 OnePost.cur ?_; (case k4_45 => k_asm); (case u_45 => k_updF); (case ok_45 => assumption); (case hth_45 => k_mem); (case hne_45 => k_ne); (case h0_45 => exact Nat.succ_pos _); (case h1_45 => (simp only [List.length_cons, List.length_nil]; (try omega))); (case k1_45 => k_asm); (case k2_45 => k_asm); (case k3_45 => k_asm); (case k5_45 => k_asm); (case k6_45 => first | exact rfl | assumption); (case k7_45 => first | omega | ktr_room); (case k8_45 => first | omega | ktr_units))); intro rP kP s0P s1P t0P t1P nP hvP okP hP tkP FP NP; (try dsimp only); (try k_fold))
  k_with "compareOp Eq ref ref" => (k_here; (with_reducible show wpAny _ _ (compareOp CmpOp.Eq (Value.ref _) (Value.ref _)) _ _ _); k_dflt (first
      | (refine' m_eq_nil0 ?k1_46 ?k2_46 ?k3_46 ?k4_46 ?_; (case k1_46 => k_asm); (case k2_46 => k_mem); (case k3_46 => k_mem); (case k4_46 => ktr_units))
      | (refine' m_eq_nilN ?k1_46 ?k2_46 ?k3_46 ?kz_46 ?k4_46 ?_; (case k1_46 => k_asm); (case k2_46 => k_mem); (case k3_46 => k_mem); (case k4_46 => ktr_units); (case kz_46 => (simp only [List.length_append, List.length_cons, List.length_nil]; omega)))))
  k_with "binaryOp Add ref ref" => (k_here; (with_reducible show wpAny _ _ (binaryOp Operator.Add (Value.ref _) (Value.ref _)) _ _ _); k_dflt (refine' m_addl ?k1_47 ?k2_47 ?k3_47 ?k4_47 ?k5_47 ?_; (case k1_47 => k_asm); (case k2_47 => k_asm); (case k3_47 => k_mem); (case k4_47 => k_mem); (case k5_47 => first | omega | (simp only [List.length_cons, List.length_nil]; (try omega)))); intro DA hA FA NA lA; (try dsimp only); (try k_fold))
  k_with "pyIter ref" => (k_here; (rename Fr _ _ _ _ => lF'_48); (rename News _ _ _ _ => lN'_48); (k_dflt (refine' iter_listW ?k1_48 lF'_48 lN'_48 ?k2_48 ?_; (case k1_48 => rfl); (case k2_48 => k_mem))); clear lF'_48 lN'_48; intro i'_48 l1_48; (try k_lt l1_48))
  k_with "exec For" => (k_here; (with_reducible show wpAny _ _ (exec (Stmt.For _ _ _ [] _) _) _ _ _); (rename Fr _ _ _ _ => lF'_49); (with_unfolding_all refine' For_invVF lF'_49 ?k1_49 ?k2_49 ?_; (case k1_49 => exact rfl); (case k2_49 => exact rfl); k_whole))
  k_with "k_updF" => exact AllUpd.get (by assumption) _
  trivial
/-- what the tail of _law_number_right needs of the place where the loop over the figures begins -/
def NT (g : Obj → List (Addr × Obj)) (I : Addr) (lp : Addr × Obj) (l : List Value) (m : Str → Option Value) (news : List (Addr × Obj)) : Prop :=
  ∃ (as bs : List Value) (da db : List Nat) (pt : Bool) (tn tp : Tok) (A1 D2 : Addr) (na nb : Nat) (s0 s1 : Int) (t0 t1 : Tok) (n : Nat),
    l = as ++ bs ∧ DgAre as da ∧ DgAre bs db ∧ da.length ≤ 5 ∧ db.length ≤ 5 ∧ (pt = false → db = []) ∧ m (Str.ofString "number") = some (.int 0 tn) ∧ m (Str.ofString "ahead") = some (.ref A1) ∧ m (Str.ofString "behind") = some (.ref D2) ∧
    m (Str.ofString "point") = some (.str (ptx pt) tp) ∧ (A1, lstObj as na) ∈ news ∧ (D2, lstObj bs nb) ∈ news ∧ lp ∈ news ∧ (∀ p ∈ g (srcObj s0 s1 t0 t1 n), p ∈ news) ∧ SrcOk s0 s1 ∧ ∀ p ∈ news, p.1 < I
theorem NT.mk {g : Obj → List (Addr × Obj)} {I : Addr} {lp : Addr × Obj} {m : Str → Option Value} {news : List (Addr × Obj)} {as bs : List Value} (da db : List Nat) (pt : Bool) {tn tp : Tok} {A1 D2 : Addr} {na nb : Nat} {s0 s1 : Int} {t0 t1 : Tok} {n : Nat}
    (h1 : DgAre as da) (h2 : DgAre bs db) (h3 : da.length ≤ 5) (h4 : db.length ≤ 5) (h5 : pt = false → db = []) (h6 : m (Str.ofString "number") = some (.int 0 tn)) (h7 : m (Str.ofString "ahead") = some (.ref A1)) (h8 : m (Str.ofString "behind") = some (.ref D2))
    (h9 : m (Str.ofString "point") = some (.str (ptx pt) tp)) (h10 : (A1, lstObj as na) ∈ news) (h11 : (D2, lstObj bs nb) ∈ news) (h12 : lp ∈ news) (h13 : ∀ p ∈ g (srcObj s0 s1 t0 t1 n), p ∈ news) (h14 : SrcOk s0 s1) (h15 : ∀ p ∈ news, p.1 < I) : NT g I lp (as ++ bs) m news :=
  ⟨as, bs, da, db, pt, tn, tp, A1, D2, na, nb, s0, s1, t0, t1, n, rfl, h1, h2, h3, h4, h5, h6, h7, h8, h9, h10, h11, h12, h13, h14, h15⟩
/-- what holds between the figures drawn: f is the ledger about the source -/
def DJ (f : Obj → List (Addr × Obj)) (i : Nat) (ys : List Value) (nw : List (Addr × Obj)) : Prop :=
  ∃ (s0 s1 : Int) (t0 t1 : Tok) (n : Nat) (ds : List Nat), nw = f (srcObj s0 s1 t0 t1 n) ∧ SrcOk s0 s1 ∧ DgAre ys ds ∧ ds.length = i
theorem DJ.mk {f : Obj → List (Addr × Obj)} {i : Nat} {ys : List Value} {s0 s1 : Int} {t0 t1 : Tok} {n : Nat} {ds : List Nat} (ok : SrcOk s0 s1) (h : DgAre ys ds) (e : ds.length = i) : DJ f i ys (f (srcObj s0 s1 t0 t1 n)) := ⟨_, _, _, _, _, _, rfl, ok, h, e⟩
theorem DJ.cur {f : Obj → List (Addr × Obj)} {i : Nat} {ys : List Value} {C : List (Addr × Obj) → Prop} (h : ∀ s0 s1 t0 t1 n (ds : List Nat), SrcOk s0 s1 → DgAre ys ds → ds.length = i → C (f (srcObj s0 s1 t0 t1 n))) : ∀ nw, DJ f i ys nw → C nw := by
  rintro _ ⟨s0, s1, t0, t1, n, ds, rfl, ok, hy, e⟩
  exact h _ _ _ _ _ _ ok hy e
theorem DJ.snoc {i : Nat} {ys : List Value} {d : Nat} {t : Tok} {ds : List Nat} (h : DgAre ys ds) (e : ds.length = i) (hd : d ≤ 9) : DgAre (ys ++ [.int (d : Int) t]) (ds ++ [d]) ∧ (ds ++ [d]).length = i + 1 := ⟨h.append (.cons hd .nil), by rw [List.length_append, e]; rfl⟩
def NJ (A1 D2 : Addr) (pt : Bool) (tp : Tok) (news : List (Addr × Obj)) (V : Int) (r : List Value) (mm : Str → Option Value) (nw : List (Addr × Obj)) : Prop :=
  ∃ (n : Int) (tk : Tok) (u : Str → Option Value) (rs : List Nat), DgAre r rs ∧ mm = (fun y => if y = Str.ofString "number" then some (.int n tk) else if y = Str.ofString "ahead" then some (.ref A1) else if y = Str.ofString "behind" then some (.ref D2) else if y = Str.ofString "point" then some (.str (ptx pt) tp) else u y) ∧ nw = news ∧ dval n rs = V
theorem NJ.curC {A1 D2 : Addr} {pt : Bool} {tp : Tok} {news : List (Addr × Obj)} {V : Int} {r : List Value} {C : Value → (Str → Option Value) → List (Addr × Obj) → Prop}
    (h : ∀ n tk (u : Str → Option Value) (d : Nat) t (rs : List Nat), d ≤ 9 → DgAre r rs → dval n (d :: rs) = V → C (.int (d : Int) t) (fun y => if y = Str.ofString "number" then some (.int n tk) else if y = Str.ofString "ahead" then some (.ref A1) else if y = Str.ofString "behind" then some (.ref D2) else if y = Str.ofString "point" then some (.str (ptx pt) tp) else u y) news) : ∀ c mm nw, NJ A1 D2 pt tp news V (c :: r) mm nw → C c mm nw := by
  rintro _ _ _ ⟨n, tk, u, rs, hr, rfl, rfl, hv⟩
  cases hr with
  | cons h1 h2 => exact h _ _ _ _ _ _ h1 h2 hv
theorem NJ.curN {A1 D2 : Addr} {pt : Bool} {tp : Tok} {news : List (Addr × Obj)} {V : Int} {C : (Str → Option Value) → List (Addr × Obj) → Prop}
    (h : ∀ tk (u : Str → Option Value), C (fun y => if y = Str.ofString "number" then some (.int V tk) else if y = Str.ofString "ahead" then some (.ref A1) else if y = Str.ofString "behind" then some (.ref D2) else if y = Str.ofString "point" then some (.str (ptx pt) tp) else u y) news) : ∀ mm nw, NJ A1 D2 pt tp news V [] mm nw → C mm nw := by
  rintro _ _ ⟨n, tk, u, rs, hr, rfl, rfl, hv⟩
  cases hr with
  | nil => cases hv; exact h _ _
theorem joinW {prog : Program} {w : World} {A : Around} {E : Value → Shared → Prop} {h₀ : Heap} {env : Env} {x : Str} {body : List Stmt} {Q : Flow → Shared → Prop} {g : Obj → List (Addr × Obj)} {gs : Array GenState} {dr : Drawn} {os : OsState} {G : Prop}
    (front : (∀ I lp l m news h tk, NT g I lp l m news → WLst prog w A E h₀ env x body Q ⟨h, gs, dr, tk, os⟩ I lp l m news) → G)
    (tail : ∀ I lp l m news h tk, NT g I lp l m news → WLst prog w A E h₀ env x body Q ⟨h, gs, dr, tk, os⟩ I lp l m news) : G := front tail
theorem chain_eq {k1 k2 k3 k4 : Str} {a b c d : Option Value} {u : Str → Option Value} (h1 : u k1 = a) (h2 : u k2 = b) (h3 : u k3 = c) (h4 : u k4 = d) : u = fun y => if y = k1 then a else if y = k2 then b else if y = k3 then c else if y = k4 then d else u y := by
  funext y
  by_cases e1 : y = k1
  · subst e1; rw [if_pos rfl, h1]
  · rw [if_neg e1]
    by_cases e2 : y = k2
    · subst e2; rw [if_pos rfl, h2]
    · rw [if_neg e2]
      by_cases e3 : y = k3
      · subst e3; rw [if_pos rfl, h3]
      · rw [if_neg e3]
        by_cases e4 : y = k4
        · subst e4; rw [if_pos rfl, h4]
        · rw [if_neg e4]
theorem NT.cur {g : Obj → List (Addr × Obj)} {I : Addr} {lp : Addr × Obj} {news : List (Addr × Obj)} {C : List Value → (Str → Option Value) → Prop}
    (h : ∀ as bs (da db : List Nat) (pt : Bool) tn tp A1 D2 na nb s0 s1 t0 t1 n (m : Str → Option Value), DgAre as da → DgAre bs db → da.length ≤ 5 → db.length ≤ 5 → (pt = false → db = []) → (A1, lstObj as na) ∈ news → (D2, lstObj bs nb) ∈ news → lp ∈ news → (∀ p ∈ g (srcObj s0 s1 t0 t1 n), p ∈ news) → SrcOk s0 s1 → (∀ p ∈ news, p.1 < I) → C (as ++ bs) (fun y => if y = Str.ofString "number" then some (.int 0 tn) else if y = Str.ofString "ahead" then some (.ref A1) else if y = Str.ofString "behind" then some (.ref D2) else if y = Str.ofString "point" then some (.str (ptx pt) tp) else m y)) : ∀ l m, NT g I lp l m news → C l m := by
  rintro _ m ⟨as, bs, da, db, pt, tn, tp, A1, D2, na, nb, s0, s1, t0, t1, n, rfl, h1, h2, h3, h4, h5, h6, h7, h8, h9, h10, h11, h12, h13, h14, h15⟩
  rw [chain_eq h6 h7 h8 h9]
  exact h _ _ _ _ _ _ _ _ _ _ _ _ _ _ _ _ m h1 h2 h3 h4 h5 h10 h11 h12 h13 h14 h15
/-- the map behind a turn, once more in the invariant's form -/
theorem chain_turn {k1 k2 k3 k4 kF : Str} {a a' b c d f : Option Value} {u : Str → Option Value} (n2 : k2 ≠ k1 ∧ k2 ≠ kF) (n3 : k3 ≠ k1 ∧ k3 ≠ kF) (n4 : k4 ≠ k1 ∧ k4 ≠ kF) (n23 : k3 ≠ k2) (n24 : k4 ≠ k2) (n34 : k4 ≠ k3) :
    (fun y => if y = k1 then a else if y = kF then f else if y = k1 then a' else if y = k2 then b else if y = k3 then c else if y = k4 then d else u y) =
      fun y => if y = k1 then a else if y = k2 then b else if y = k3 then c else if y = k4 then d else (fun y => if y = k1 then a else if y = kF then f else if y = k1 then a' else if y = k2 then b else if y = k3 then c else if y = k4 then d else u y) y :=
  chain_eq (if_pos rfl) (by simp only [n2.1, n2.2, if_true, if_false]) (by simp only [n3.1, n3.2, n23, if_true, if_false]) (by simp only [n4.1, n4.2, n24, n34, if_true, if_false])
theorem strs_take {ys : List Value} {da : List Nat} {i d : Nat} {t : Tok} (h : StrsAre ys ((da.take i).map dch)) (hd : da[i]? = some d) : StrsAre (ys ++ [.str (dch d) t]) ((da.take (i + 1)).map dch) := by
  rw [List.take_add_one, hd, List.map_append]
  exact h.append' (.cons _ _ .nil)
theorem words_numright_1 : True := by
  k_with "call type:str" => (k_here; k_dflt (refine m_strd (by assumption) ?_); intro tS_51 kS_51)
  k_with "call builtin:str.join" => (k_here; k_dflt (refine' m_join ?N_52 ?hm_52 ?hs_52 ?hl_52 ?_; (case N_52 => k_asm); (case hm_52 => k_mem); (case hs_52 => assumption); (case hl_52 => omega)); intro tS_52 kS_52)
  k_with "binaryOp Add str str" => (k_here; first | ((with_reducible show wpAny _ _ (binaryOp _ (Value.str (_ ++ _) _) _) _ _ _); k_dflt (refine add_num2 (by omega) (by omega) ?_); intro tS_53 kS_53) | ((with_reducible show wpAny _ _ (binaryOp _ (Value.str (dtx _) _) _) _ _ _); k_dflt (refine add_num1 (by omega) ?_); intro tS_53 kS_53))
  k_with "call ref" => (k_here; (with_reducible show wpAny _ _ (call (Value.ref 314) _) _ _ _); (k_dflt (refine' Spec.useC (value_spec _ ?ka_54 ?kb_54 ?kc_54 ?kd_54 ?ke_54) ?k1_54 ?k2_54 ?k3_54 ?k4_54 ?k5_54 ?k6_54 ?k7_54 ?k8_54 LowPost.cur ?_; (case ka_54 => assumption); (case kb_54 => assumption); (case kc_54 => omega); (case kd_54 => omega); (case ke_54 => assumption); (case k1_54 => k_asm); (case k2_54 => k_asm); (case k3_54 => k_asm); (case k4_54 => k_asm); (case k5_54 => k_asm); (case k6_54 => first | exact rfl | assumption); (case k7_54 => first | omega | ktr_room); (case k8_54 => first | omega | ktr_units))); intro dP taP tbP nP ltP hP tkP FP NP; (try dsimp only); (try k_fold))
  k_with "call ref" => (k_here; (with_reducible show wpAny _ _ (call (Value.ref 354) _) _ _ _); (k_dflt (refine' Spec.useC (low_spec _ ?ka_55 ?kb_55 ?kc_55) ?k1_55 ?k2_55 ?k3_55 ?k4_55 ?k5_55 ?k6_55 ?k7_55 ?k8_55 LowPost.cur ?_; (case ka_55 => omega); (case kb_55 => omega); (case kc_55 => omega); (case k1_55 => k_asm); (case k2_55 => k_asm); (case k3_55 => k_asm); (case k4_55 => k_asm); (case k5_55 => k_asm); (case k6_55 => first | exact rfl | assumption); (case k7_55 => first | omega | ktr_room); (case k8_55 => first | omega | ktr_units))); intro dP taP tbP nP ltP hP tkP FP NP; (try dsimp only); (try k_fold))
  trivial
theorem numright_spec (w : World) {src : Addr} {s0 s1 : Int} {t0 t1 : Tok} {n : Nat} {news : List (Addr × Obj)} {g : Obj → List (Addr × Obj)} (U : UpdF src (srcObj s0 s1 t0 t1 n) news g) (ok : SrcOk s0 s1) :
    Spec w 200 2000 366 [.ref src] news (RightPost g) := by
  intro mean mg mb dp un gd cn cs a ccd cl outer A₀ base h₀ L m s Q E B F X N T hk hdp hun hret
  have e := updF_self U
  have hU := updF_all U
  subst e
  clear U
  refine wpAny_call ?_
  refine' code_defC ?k1 ?k2 ?k3 ?k4 ?k5 ?kA ?kF ?kK ?k6 ?k7 ?k8 ?k9 ?kB ?kD ?_ ?c2 ?c3 ?c4
  case kA => exact rfl
  case kF => exact rfl
  case kK => assumption
  case k1 => k_asm
  case k2 => k_asm
  case k3 => k_asm
  case k4 => k_asm
  case k5 => k_asm
  case k6 => k_is
  case k7 => k_is
  case k8 => ktr_room
  case k9 => exact BindsTo.of_eq rfl
  case kB => exact rfl
  case kD => decide +kernel
  case c2 => exact rfl
  case c3 => exact rfl
  case c4 => exact rfl
  intro g' L' h' tk' cells' FG' F' N' Y' B' X' T' l1
  k_cells Y'
  rename_i oc dc
  simp only [List.cons_append, List.nil_append] at N'
  (try dsimp only)
  (try k_fold)
  refine' joinW (g := g) ?front ?tail
  case front =>
    intro hT
    have hsl : @Ne Nat (L' + 1) src := Ne.symm (Nat.ne_of_lt (Nat.lt_succ_of_lt (l1 _ (hU.mem _))))
    k_steps
    refine LCg.CompSrc.range (by rfl) (by k_asm) (by k_asm) (by assumption) (small_one (by l_bnd) (by l_bnd) (by l_bnd) (by l_bnd)) (rangeSize_nat _ _) (by rw [PySem.sizeLine_eq]; omega) fun g9 => ?_
    refine compRest_inv (DJ fun o => (L' + 1, oc) :: g o) ?_ ?_ _ 0 [] _ (Nat.zero_add _) (.mk (f := fun o => (L' + 1, oc) :: g o) (by assumption) .nil rfl)
    · intro i ys nw9 v9 I oI C oC D m₂ h9 tk9 E' R9 hR9 hi
      revert nw9
      refine DJ.cur ?_
      intro s0' s1' t0' t1' n' ds ok' hys hlen hv hC hx F9 N9 off9 ne9
      try dsimp only at N9 off9
      have hI : @Ne Nat I src := Ne.symm (off9.mem (src, _) (.tail _ (hU.mem _))).1
      have hC2 : @Ne Nat C src := Ne.symm (off9.mem (src, _) (.tail _ (hU.mem _))).2.1
      have hD : @Ne Nat D src := Ne.symm (off9.mem (src, _) (.tail _ (hU.mem _))).2.2
      k_steps
      obtain ⟨d, u, rfl, hd9⟩ := drawn4 (by decide) (by assumption) (by assumption) hvP
      exact hR9 _ _ (LCg.CompEnd.intro FP NP _ (fun p hp => .tail _ hp) ⟨off9.1, off3_upd hU off9.2 _⟩ trivial (.mk (f := fun o => (L' + 1, oc) :: g o) okP (DJ.snoc hys hlen hd9).1 (DJ.snoc (t := u) hys hlen hd9).2))
    · intro as
      refine DJ.cur ?_
      intro s0' s1' t0' t1' n' da ok' has hla
      intro D1 h9 tk9 F9 N9' off9
      have N9 : News g' L' h9 ((D1, lstObj as as.length) :: (L' + 1, oc) :: g (srcObj s0' s1' t0' t1' n')) := N9'
      clear N9'
      have hDl1 : @Ne Nat (L' + 1) D1 := off9.1
      have hDs1 : @Ne Nat D1 src := Ne.symm (off1_in off9 (src, _) (.tail _ (hU.mem _)))
      k_steps
      refine LCg.CompSrc.range (by rfl) (by k_asm) (by k_asm) (by assumption) (small_one (by l_bnd) (by l_bnd) (by l_bnd) (by l_bnd)) (rangeSize_nat _ _) (by rw [PySem.sizeLine_eq]; omega) fun g9 => ?_
      refine compRest_inv (DJ fun o => (D1, lstObj as as.length) :: (L' + 1, oc) :: g o) ?_ ?_ _ 0 [] _ (Nat.zero_add _) (.mk (f := fun o => (D1, lstObj as as.length) :: (L' + 1, oc) :: g o) (by assumption) .nil rfl)
      · intro i ys nw9 v9 I oI C oC D m₂ h9 tk9 E' R9 hR9 hi
        revert nw9
        refine DJ.cur ?_
        intro s0' s1' t0' t1' n' ds ok' hys hlen hv hC hx F9 N9 off9 ne9
        try dsimp only at N9 off9
        have hI : @Ne Nat I src := Ne.symm (off9.mem (src, _) (.tail _ (.tail _ (hU.mem _)))).1
        have hC2 : @Ne Nat C src := Ne.symm (off9.mem (src, _) (.tail _ (.tail _ (hU.mem _)))).2.1
        have hD : @Ne Nat D src := Ne.symm (off9.mem (src, _) (.tail _ (.tail _ (hU.mem _)))).2.2
        k_steps
        obtain ⟨d, u, rfl, hd9⟩ := drawn4 (by decide) (by assumption) (by assumption) hvP
        exact hR9 _ _ (LCg.CompEnd.intro FP NP _ (fun p hp => .tail _ hp) ⟨off9.1, off9.2.1, off3_upd hU off9.2.2 _⟩ trivial (.mk (f := fun o => (D1, lstObj as as.length) :: (L' + 1, oc) :: g o) okP (DJ.snoc hys hlen hd9).1 (DJ.snoc (t := u) hys hlen hd9).2))
      · intro bs
        refine DJ.cur ?_
        intro s0' s1' t0' t1' n' db ok' hbs hlb
        intro D2 h9 tk9 F9 N9' off9
        have N9 : News g' L' h9 ((D2, lstObj bs bs.length) :: (D1, lstObj as as.length) :: (L' + 1, oc) :: g (srcObj s0' s1' t0' t1' n')) := N9'
        clear N9'
        have hDl2 : @Ne Nat (L' + 1) D2 := off9.2.1
        have hD12 : @Ne Nat D1 D2 := off9.1
        have hDs2 : @Ne Nat D2 src := Ne.symm (off1_in off9 (src, _) (.tail _ (.tail _ (hU.mem _))))
        have hal := has.length
        have hbl := hbs.length
        cases hbs with
        | cons hb1 hb2 =>
          k_steps
          exact hT _ _ _ _ _ _ _ (.mk da _ true has (.cons hb1 hb2) (by omega) (by omega) nofun rfl rfl rfl rfl (by k_mem) (by k_mem) (by k_mem) (fun p hp => by repeat (first | exact hp | apply List.Mem.tail)) (by assumption) (by first | assumption | exact tb_ltOf (by assumption)))
        | nil =>
          cases has with
          | cons ha1 ha2 =>
            k_steps
            obtain ⟨pt, tp, rfl⟩ := point_of hvP
            exact hT _ _ _ _ _ _ _ (.mk (bs := []) _ [] pt (.cons ha1 ha2) .nil (by omega) (by omega) (fun _ => rfl) rfl rfl rfl rfl (by k_mem) (by k_mem) (by k_mem) (fun p hp => by repeat (first | exact hp | apply List.Mem.tail)) (by assumption) (by first | assumption | exact tb_ltOf (by assumption)))
          | nil =>
            k_steps
            obtain ⟨pt, tp, rfl⟩ := point_of hvP
            exact hT _ _ _ _ _ _ _ (.mk (bs := []) [7] [] pt (.cons (by decide) .nil) .nil (by decide) (by decide) (fun _ => rfl) rfl rfl rfl rfl (by k_mem) (by k_mem) (by k_mem) (fun p hp => by repeat (first | exact hp | apply List.Mem.tail)) (by assumption) (by first | assumption | exact tb_ltOf (by assumption)))
  case tail =>
    intro I lp l m9 news h9 tk9
    revert l m9
    refine NT.cur ?_
    intro as bs da db pt tn tp A1 D2 na nb s0' s1' t0' t1' n' m9 has hbs hla hlb hpt hA hB hlp hg ok' hI
    refine listRest_ind (NJ A1 D2 pt tp news (dval 0 (da ++ db))) ?_ ?_ _ _ _ ⟨0, tn, m9, da ++ db, has.append hbs, rfl, rfl, rfl⟩
    · intro it h10 tk10 R9 r hR9
      refine NJ.curC ?_
      intro nn tkn u d' t' ds' hd1 hd2 hv F2 N2
      k_steps
      rename Fr _ _ _ _ => F10
      rename News _ _ _ _ => N10
      have hv2 : dval (10 * nn + (d' : Int)) ds' = dval 0 (da ++ db) := by rw [Int.mul_comm]; exact hv
      exact hR9 _ (UnrEnd.intro F10 N10 _ (fun p hp => hp) (fun p hp => Nat.ne_of_lt (hI p hp)) ⟨hlp, _, _, _, ds', hd2, chain_turn (by decide) (by decide) (by decide) (by decide) (by decide) (by decide), rfl, hv2⟩)
    · intro h10 tk10
      refine NJ.curN ?_
      intro tkn u F2 N2
      have hda := has.all
      have hdb := hbs.all
      have hal := has.length
      have hbl := hbs.length
      have hab : ∀ d ∈ da ++ db, d ≤ 9 := fun d h => (List.mem_append.mp h).elim (hda d) (hdb d)
      have hv0 : 0 ≤ dval 0 (da ++ db) := dval_nn _ _ (Int.le_refl 0)
      have hp0 : (0 : Int) < 10 ^ (bs.length : Int).toNat := Int.pow_pos (by decide)
      have hp1 : (10 : Int) ^ (bs.length : Int).toNat ≤ 1000000 := pow10_le (m := 6) (by omega)
      k_steps
      refine LCg.CompSrc.ledger (its := as.toArray) (by rfl) (by k_asm) (by k_asm) hA (by rw [PySem.sizeLine_eq, List.size_toArray]; omega) fun g9 => ?_
      refine compRest_fix (n := as.length) (fun i ys => StrsAre ys ((da.take i).map dch)) .nil ?_ ?_
      · intro i ys v9 I9 oI C oC D m₂ h9 tk9 E' R9 hR9 hi hys hv hC hx F9 N9 off9 ne9
        obtain ⟨d, u9, hd, rfl, hd9⟩ := has.get (by simpa using hv)
        k_steps
        exact hR9 _ _ (LCg.CompEnd.intro (by k_asm) (by k_asm) _ (fun p hp => hp) off9 (.inr ⟨_, hA, rfl, _, rfl⟩) ⟨rfl, strs_take hys hd⟩)
      · intro ys1 hysD3
        rw [List.take_of_length_le (by omega)] at hysD3
        intro D3 h9 tk9 F9 N9' off9
        have N9 : News g' L' h9 ((D3, lstObj ys1 ys1.length) :: news) := N9'
        clear N9'
        have hB2 : (D2, lstObj bs nb) ∈ (D3, lstObj ys1 ys1.length) :: news := .tail _ hB
        k_steps
        refine LCg.CompSrc.ledger (its := bs.toArray) (by rfl) (by k_asm) (by k_asm) hB2 (by rw [PySem.sizeLine_eq, List.size_toArray]; omega) fun g9 => ?_
        refine compRest_fix (n := bs.length) (fun i ys => StrsAre ys ((db.take i).map dch)) .nil ?_ ?_
        · intro i ys v9 I9 oI C oC D m₂ h9 tk9 E' R9 hR9 hi hys hv hC hx F9 N9 off9 ne9
          obtain ⟨d, u9, hd, rfl, hd9⟩ := hbs.get (by simpa using hv)
          k_steps
          exact hR9 _ _ (LCg.CompEnd.intro (by k_asm) (by k_asm) _ (fun p hp => hp) off9 (.inr ⟨_, hB2, rfl, _, rfl⟩) ⟨rfl, strs_take hys hd⟩)
        · intro ys2 hysD4
          rw [List.take_of_length_le (by omega)] at hysD4
          intro D4 h9 tk9 F9 N9' off9
          have N9b : News g' L' h9 ((D4, lstObj ys2 ys2.length) :: (D3, lstObj ys1 ys1.length) :: news) := N9'
          clear N9'
          k_steps
          have eL : (bs.length : Int).toNat = db.length := by rw [Int.toNat_natCast, hbl]
          simp only [eL, beq_self_eq_true, Bool.and_self]
          rename News h₀ _ _ _ => N10
          exact hret _ _ _ _ (by k_asm) (fun p hp => N10 p (by repeat (first | exact hg p hp | apply List.Mem.tail))) (.mk ok')

theorem words_names_0 : True := by
  k_with_none
  k_with "k_all" => exact List.forall_mem_append.mpr ⟨by k_all, by k_all⟩
  k_with "k_all" => exact tbn_neAll (by assumption)
  k_with "k_all" => assumption
  k_with "k_updF" => assumption
  k_with "k_mem" => assumption
  k_with "k_room" => ktr_room
  k_with "call ref" => (k_here; (with_reducible show wpAny _ _ (call (Value.ref 340) _) _ _ _); (k_dflt (refine' Spec.useC (f := 340) (take_spec _ ?u_56 ?ok_56 ?ht_56 ?ht2_56) ?k1_56 ?k2_56 ?k3_56 ?k4_56 ?k5_56 ?k6_56 ?k7_56 ?k8_56 TakePost.cur ?_; (case k4_56 => k_asm); (case u_56 => k_updF); (case ok_56 => assumption); (case ht_56 => first | omega | decide); (case ht2_56 => first | omega | decide); (case k1_56 => k_asm); (case k2_56 => k_asm); (case k3_56 => k_asm); (case k5_56 => k_asm); (case k6_56 => first | exact rfl | assumption); (case k7_56 => first | omega | ktr_room); (case k8_56 => first | omega | ktr_units))); intro k'_56 kt'_56 s0'_56 s1'_56 t0'_56 t1'_56 n'_56 hk0'_56 hk1'_56 ok'_56 h'_56 tk'_56 F'_56 N'_56; (try dsimp only); (try k_fold))
  k_with "call builtin:len" => (k_here; (with_reducible show wpAny _ _ (call (Value.builtin "len") [Value.ref _]) _ _ _); k_dflt (refine' m_len ?k1_57 ?k2_57 ?k3_57 ?_; (case k1_57 => k_asm); (case k2_57 => k_mem); (case k3_57 => omega); k_whole))
  k_with "subscriptTail" => (k_here; (with_reducible show wpAny _ _ (subscriptTail _ _ (Value.ref _) (Value.int _ _)) _ _ _); k_dflt (refine' m_item ?k1_58 ?k2_58 ?k3_58 ?k4_58 ?k5_58 ?_ ?k6_58; (case k1_58 => k_asm); (case k2_58 => k_mem); (case k3_58 => omega); (case k4_58 => omega); (case k5_58 => omega); (case k6_58 => with_unfolding_all rfl); k_whole); intro v'_58 hv'_58; (try dsimp only); (try k_fold))
  k_with "k_ne" => first | (refine' ne_upd ?knA_59 ?knB_59; (case knA_59 => assumption); (case knB_59 => assumption)) | (refine' ne_upd1 ?knA_59 ?knB_59; (case knA_59 => assumption); (case knB_59 => assumption)) | (refine' ne_upd2 ?knA_59 ?knB_59; (case knA_59 => assumption); (case knB_59 => assumption)) | (refine' ne_upd3 ?knA_59 ?knB_59; (case knA_59 => assumption); (case knB_59 => assumption)) | (refine' ne_upd4 ?knA_59 ?knB_59; (case knA_59 => assumption); (case knB_59 => assumption)) | (refine' ne_upd5 ?knA_59 ?knB_59; (case knA_59 => assumption); (case knB_59 => assumption)) | (refine' ne_upd6 ?knA_59 ?knB_59; (case knA_59 => assumption); (case knB_59 => assumption))
  k_with "call ref" => (k_here; (with_reducible show wpAny _ _ (call (Value.ref 347) _) _ _ _); (k_dflt (refine' Spec.useC (one_spec _ ?u_60 ?ok_60 ?hth_60 ?hne_60 ?h0_60 ?h1_60) ?k1_60 ?k2_60 ?k3_60 ?k4_60 ?k5_60 ?k6_60 ?k7_60 ?k8_60 OnePost.cur ?_; (case k4_60 => k_asm); (case u_60 => k_updF); (case ok_60 => assumption); (case hth_60 => k_mem); (case hne_60 => k_ne); (case h0_60 => exact Nat.succ_pos _); (case h1_60 => (simp only [List.length_cons, List.length_nil]; (try omega))); (case k1_60 => k_asm); (case k2_60 => k_asm); (case k3_60 => k_asm); (case k5_60 => k_asm); (case k6_60 => first | exact rfl | assumption); (case k7_60 => first | omega | ktr_room); (case k8_60 => first | omega | ktr_units))); intro rP kP s0P s1P t0P t1P nP hvP okP hP tkP FP NP; (try dsimp only); (try k_fold))
  trivial
open Builtin Builtin.Str
/-- a text and what name_test tells of it -/
inductive Nt : Str → List Str → Prop where
  | star : Nt (Str.ofString "*") [Str.ofString "any"]
  | anyOf {x p q : Str} : x ≠ Str.ofString "*" → Txt.rpartition x (Str.ofString ":") = (p, q, Str.ofString "*") → Nt x [Str.ofString "any of", p]
  | nm {x p q l : Str} : x ≠ Str.ofString "*" → Txt.rpartition x (Str.ofString ":") = (p, q, l) → l ≠ Str.ofString "*" → Nt x [Str.ofString "name", p, l]
section
variable {prog : Program} {w : World} {A : Around} {E : Value → Shared → Prop} {s : Shared} {h₀ : Heap} {L l b : Addr} {m : Str → Option Value} {news : List (Addr × Obj)} {x y : Str} {t u : Tok} {Q : Value → Shared → Prop}
theorem eq_str_f (h : x ≠ y) (hq : Q (.bool false) s) : wpAny (model prog w) A (compareOp .Eq (.str x t) (.str y u)) Q E s := by
  refine PyProof.Rows.eq_str ?_
  rw [beq_eq_false_iff_ne.mpr h]; exact hq
theorem eq_strs {vs ws : List Value} {ds : List Str} {n n' : Nat} (N : News h₀ L s.heap news) (hl : (l, tupObj vs n) ∈ news) (hb : (b, tupObj ws n') ∈ news) (hs : StrsAre vs ds) (hs' : StrsAre ws ds) (hu : A.units < cLine) (hq : Q (.bool true) s) :
    wpAny (model prog w) A (compareOp .Eq (.ref l) (.ref b)) Q E s := by
  refine PySem.SeqAt.eq_tupleAt (items := vs.toArray) (items2 := ws.toArray) (e := fun _ => true) ⟨_, (N _ hl).1, rfl, n, rfl⟩ ⟨_, (N _ hb).1, rfl, n', rfl⟩ hu (fun j h1 h2 => ?_) ?_
  · simp only [List.size_toArray] at h1 h2
    obtain ⟨y1, t1, e1, d1⟩ := hs.item j vs[j] (List.getElem?_eq_getElem h1)
    obtain ⟨y2, t2, e2, d2⟩ := hs'.item j ws[j] (List.getElem?_eq_getElem h2)
    rw [d1] at d2
    cases d2
    have z := PySem.SeqAt.EqAt.str_str (A := A.in1) (s := s) y1 t1 y1 t2
    rw [beq_self_eq_true] at z
    simpa [e1, e2] using z
  · have e : vs.length = ws.length := by rw [hs.len_eq, hs'.len_eq]
    have z : ((List.range (min vs.toArray.size ws.toArray.size)).all (fun _ => true) && vs.toArray.size == ws.toArray.size) = true := by simp [e]
    rw [z]; exact hq
end
theorem words_names_1 : True := by
  k_with "compareOp Eq str str" => (k_here; k_dflt (refine eq_str_f (by assumption) ?_))
  k_with "call builtin:str.rpartition" => (k_here; k_dflt (refine KXpa.rpartition (by k_asm) (by k_asm) (by decide +kernel) (congrArg (·.1) (by assumption : Txt.rpartition _ _ = _)) (congrArg (·.2.1) (by assumption : Txt.rpartition _ _ = _)) (congrArg (·.2.2) (by assumption : Txt.rpartition _ _ = _)) (Nat.le_trans (by assumption : Str.length _ ≤ 1000) (by rw [PySem.sizeLine_eq]; decide)) ?_); intro D'_62 _ _ _ _ _ F'_62 N'_62 l1_62; (try k_lt l1_62); (try dsimp only at N'_62))
  trivial
theorem nn_drop2 {h₀ h : Heap} {L : Addr} {a b : Addr × Obj} {r : List (Addr × Obj)} (N : News h₀ L h (a :: b :: r)) : News h₀ L h (a :: r) := fun p hp => N p (by
  rcases List.mem_cons.mp hp with rfl | hp
  · exact .head _
  · exact .tail _ (.tail _ hp))
def NtPost (ds : List Str) (news : List (Addr × Obj)) (r : Value) (news' : List (Addr × Obj)) : Prop :=
  ∃ D vs n, r = .ref D ∧ news' = (D, tupObj vs n) :: news ∧ StrsAre vs ds ∧ ∀ p ∈ news, p.1 < D
theorem NtPost.mk {ds : List Str} {news : List (Addr × Obj)} {D : Addr} {vs : List Value} {n : Nat} (hs : StrsAre vs ds) (lt : ∀ p ∈ news, p.1 < D) : NtPost ds news (.ref D) ((D, tupObj vs n) :: news) := ⟨_, _, _, rfl, rfl, hs, lt⟩
theorem NtPost.cur {ds : List Str} {news : List (Addr × Obj)} (C : Value → List (Addr × Obj) → Prop) (h : ∀ D vs n, StrsAre vs ds → (∀ p ∈ news, p.1 < D) → C (.ref D) ((D, tupObj vs n) :: news)) : ∀ r n, NtPost ds news r n → C r n := by
  rintro _ _ ⟨D, vs, n, rfl, rfl, hs, lt⟩
  exact h _ _ _ hs lt
theorem nametest_spec (w : World) {x : Str} {ds : List Str} {t : Tok} {news : List (Addr × Obj)} (h : Nt x ds) (hl : x.length ≤ 1000) :
    Spec w 20 200 307 [.str x t] news (NtPost ds news) := by
  intro mean mg mb dp un gd cn cs a ccd cl outer A₀ base h₀ L m s Q E B F X N T hk hdp hun hret
  refine wpAny_call ?_
  k_dflt ktr_enter
  cases h with
  | star =>
    k_steps
    exact hret _ _ _ _ (by k_asm) (by k_asm) (.mk (.cons _ _ .nil) (by first | assumption | exact tb_ltOf (by assumption)))
  | anyOf h1 h2 =>
    k_steps
    rename News h₀ _ _ _ => N10
    exact hret _ _ _ _ (by k_asm) (nn_drop2 N10) (.mk (.cons _ _ (.cons _ _ .nil)) (by first | assumption | exact tb_ltOf (And.right (by assumption))))
  | nm h1 h2 h3 =>
    k_steps
    rename News h₀ _ _ _ => N10
    exact hret _ _ _ _ (by k_asm) (nn_drop2 N10) (.mk (.cons _ _ (.cons _ _ (.cons _ _ .nil))) (by first | assumption | exact tb_ltOf (And.right (by assumption))))
def P3 (p : Str) : Prop := p = Str.ofString "p" ∨ p = Str.ofString "a-1" ∨ p = Str.ofString "x"
def N3 (p : Str) : Prop := p = Str.ofString "a" ∨ p = Str.ofString "div" ∨ p = Str.ofString "b.2"
theorem p3_of {a b c : Tok} {i : Nat} {r : Value} (h : [Value.str (Str.ofString "p") a, .str (Str.ofString "a-1") b, .str (Str.ofString "x") c][i]? = some r) : ∃ p t, r = .str p t ∧ P3 p := by
  match i, h with
  | 0, h => cases h; exact ⟨_, _, rfl, .inl rfl⟩
  | 1, h => cases h; exact ⟨_, _, rfl, .inr (.inl rfl)⟩
  | 2, h => cases h; exact ⟨_, _, rfl, .inr (.inr rfl)⟩
theorem n3_of {a b c : Tok} {i : Nat} {r : Value} (h : [Value.str (Str.ofString "a") a, .str (Str.ofString "div") b, .str (Str.ofString "b.2") c][i]? = some r) : ∃ p t, r = .str p t ∧ N3 p := by
  match i, h with
  | 0, h => cases h; exact ⟨_, _, rfl, .inl rfl⟩
  | 1, h => cases h; exact ⟨_, _, rfl, .inr (.inl rfl)⟩
  | 2, h => cases h; exact ⟨_, _, rfl, .inr (.inr rfl)⟩
theorem four_of {a b c d : Value} {i : Nat} {r : Value} (h : [a, b, c, d][i]? = some r) : r = a ∨ r = b ∨ r = c ∨ r = d := by
  match i, h with
  | 0, h => cases h; exact .inl rfl
  | 1, h => cases h; exact .inr (.inl rfl)
  | 2, h => cases h; exact .inr (.inr (.inl rfl))
  | 3, h => cases h; exact .inr (.inr (.inr rfl))
structure NtAll (p n : Str) : Prop where
  t2 : Nt (p ++ Str.ofString ":*") [Str.ofString "any of", p]
  t3 : Nt n [Str.ofString "name", Str.ofString "", n]
  t4 : Nt (p ++ Str.ofString ":" ++ n) [Str.ofString "name", p, n]
  z2 : p.length + (Str.ofString ":*").length ≤ sizeLine
  z3 : p.length + (Str.ofString ":").length ≤ sizeLine
  z4 : (p ++ Str.ofString ":").length + n.length ≤ sizeLine
  l2 : (p ++ Str.ofString ":*").length ≤ 1000
  l3 : n.length ≤ 1000
  l4 : (p ++ Str.ofString ":" ++ n).length ≤ 1000
theorem nt_all {p n : Str} (hp : P3 p) (hn : N3 n) : NtAll p n := by
  rcases hp with rfl | rfl | rfl <;> rcases hn with rfl | rfl | rfl <;>
    exact ⟨.anyOf (q := Str.ofString ":") (by decide +kernel) (by decide +kernel), .nm (q := Str.ofString "") (by decide +kernel) (by decide +kernel) (by decide +kernel), .nm (q := Str.ofString ":") (by decide +kernel) (by decide +kernel) (by decide +kernel), by decide +kernel, by decide +kernel, by decide +kernel, by decide +kernel, by decide +kernel, by decide +kernel⟩
theorem words_names_2 : True := by
  k_with "binaryOp Add str str" => (k_here; k_dflt (refine PyProof.Rows.add_str ?_ (by assumption)); intro tS_63 kS_63)
  k_with "compareOp Eq ref ref" => (k_here; k_dflt (refine' eq_strs ?N_64 ?hl_64 ?hb_64 ?hs_64 ?hs2_64 ?hu_64 ?_; (case N_64 => k_asm); (case hs_64 => assumption); (case hl_64 => k_mem); (case hb_64 => k_mem); (case hs2_64 => repeat (first | exact .nil | refine .cons _ _ ?_)); (case hu_64 => ktr_units)))
  k_with "call ref" => (k_here; (with_reducible show wpAny _ _ (call (Value.ref 307) _) _ _ _); (k_dflt (refine' Spec.useC (nametest_spec _ ?ka_65 ?kb_65) ?k1_65 ?k2_65 ?k3_65 ?k4_65 ?k5_65 ?k6_65 ?k7_65 ?k8_65 NtPost.cur ?_; (case ka_65 => assumption); (case kb_65 => assumption); (case k1_65 => k_asm); (case k2_65 => k_asm); (case k3_65 => k_asm); (case k4_65 => k_asm); (case k5_65 => k_asm); (case k6_65 => first | exact rfl | assumption); (case k7_65 => first | omega | ktr_room); (case k8_65 => first | omega | ktr_units))); intro dP vP nP hsP ltP hP tkP FP NP; (try dsimp only); (try k_fold))
  k_with "k_updF" => exact AllUpd.get (by assumption) _
  trivial
theorem ne_updA {d l : Addr} {g : Obj → List (Addr × Obj)} {o : Obj} (h : AllUpd d g) (k : ∀ p ∈ g o, p.1 < l) : l ≠ d := Nat.ne_of_gt (k _ (h.mem o))
theorem words_names_3 : True := by
  k_with "k_ne" => (refine' ne_updA ?knA_67 ?knB_67; (case knA_67 => assumption); (case knB_67 => assumption))
  trivial
theorem ne_upd7 {P1 P2 P3 P4 P5 P6 P7 : Prop} {d l : Addr} {g : Obj → List (Addr × Obj)} {o : Obj} (h : AllUpd d g) (k : P1 ∧ P2 ∧ P3 ∧ P4 ∧ P5 ∧ P6 ∧ P7 ∧ AllLt l (g o)) : l ≠ d := ne_upd h k.2.2.2.2.2.2.2
theorem ne_upd8 {P1 P2 P3 P4 P5 P6 P7 P8 : Prop} {d l : Addr} {g : Obj → List (Addr × Obj)} {o : Obj} (h : AllUpd d g) (k : P1 ∧ P2 ∧ P3 ∧ P4 ∧ P5 ∧ P6 ∧ P7 ∧ P8 ∧ AllLt l (g o)) : l ≠ d := ne_upd h k.2.2.2.2.2.2.2.2
theorem ne_upd9 {P1 P2 P3 P4 P5 P6 P7 P8 P9 : Prop} {d l : Addr} {g : Obj → List (Addr × Obj)} {o : Obj} (h : AllUpd d g) (k : P1 ∧ P2 ∧ P3 ∧ P4 ∧ P5 ∧ P6 ∧ P7 ∧ P8 ∧ P9 ∧ AllLt l (g o)) : l ≠ d := ne_upd h k.2.2.2.2.2.2.2.2.2
theorem ne_upd10 {P1 P2 P3 P4 P5 P6 P7 P8 P9 P10 : Prop} {d l : Addr} {g : Obj → List (Addr × Obj)} {o : Obj} (h : AllUpd d g) (k : P1 ∧ P2 ∧ P3 ∧ P4 ∧ P5 ∧ P6 ∧ P7 ∧ P8 ∧ P9 ∧ P10 ∧ AllLt l (g o)) : l ≠ d := ne_upd h k.2.2.2.2.2.2.2.2.2.2
theorem ne_upd11 {P1 P2 P3 P4 P5 P6 P7 P8 P9 P10 P11 : Prop} {d l : Addr} {g : Obj → List (Addr × Obj)} {o : Obj} (h : AllUpd d g) (k : P1 ∧ P2 ∧ P3 ∧ P4 ∧ P5 ∧ P6 ∧ P7 ∧ P8 ∧ P9 ∧ P10 ∧ P11 ∧ AllLt l (g o)) : l ≠ d := ne_upd h k.2.2.2.2.2.2.2.2.2.2.2
theorem ne_upd12 {P1 P2 P3 P4 P5 P6 P7 P8 P9 P10 P11 P12 : Prop} {d l : Addr} {g : Obj → List (Addr × Obj)} {o : Obj} (h : AllUpd d g) (k : P1 ∧ P2 ∧ P3 ∧ P4 ∧ P5 ∧ P6 ∧ P7 ∧ P8 ∧ P9 ∧ P10 ∧ P11 ∧ P12 ∧ AllLt l (g o)) : l ≠ d := ne_upd h k.2.2.2.2.2.2.2.2.2.2.2.2
theorem words_names_4 : True := by
  k_with "k_ne" => first | (refine' ne_upd7 ?knA_68 ?knB_68; (case knA_68 => assumption); (case knB_68 => assumption)) | (refine' ne_upd8 ?knA_68 ?knB_68; (case knA_68 => assumption); (case knB_68 => assumption)) | (refine' ne_upd9 ?knA_68 ?knB_68; (case knA_68 => assumption); (case knB_68 => assumption)) | (refine' ne_upd10 ?knA_68 ?knB_68; (case knA_68 => assumption); (case knB_68 => assumption)) | (refine' ne_upd11 ?knA_68 ?knB_68; (case knA_68 => assumption); (case knB_68 => assumption)) | (refine' ne_upd12 ?knA_68 ?knB_68; (case knA_68 => assumption); (case knB_68 => assumption))
  trivial
theorem namesright_spec (w : World) {src : Addr} {s0 s1 : Int} {t0 t1 : Tok} {n : Nat} {news : List (Addr × Obj)} {g : Obj → List (Addr × Obj)} (U : UpdF src (srcObj s0 s1 t0 t1 n) news g) (ok : SrcOk s0 s1) :
    Spec w 200 2000 361 [.ref src] news (RightPost g) := by
  intro mean mg mb dp un gd cn cs a ccd cl outer A₀ base h₀ L m s Q E B F X N T hk hdp hun hret
  have e := updF_self U
  have hU := updF_all U
  subst e
  clear U
  have nt1 : Nt (Str.ofString "*") [Str.ofString "any"] := .star
  have ln1 : (Str.ofString "*").length ≤ 1000 := by decide +kernel
  refine wpAny_call ?_
  k_dflt ktr_enter
  k_steps
  rename [Value.str (Str.ofString "p") _, _, _][_]? = some _ => hv1
  rename [Value.str (Str.ofString "a") _, _, _][_]? = some _ => hv2
  obtain ⟨p, tp, rfl, hp3⟩ := p3_of hv1
  obtain ⟨nm, tn, rfl, hn3⟩ := n3_of hv2
  obtain ⟨a2, a3, a4, z2, z3, z4, l2, l3, l4⟩ := nt_all hp3 hn3
  clear hv1 hv2
  k_steps
  rcases four_of hvP with rfl | rfl | rfl | rfl
  all_goals
    k_steps
  all_goals
    rename News h₀ _ _ _ => N10
    exact hret _ _ _ _ (by k_asm) (fun p hp => N10 p (by repeat (first | exact hp | apply List.Mem.tail))) (.mk (by assumption))

theorem words_pairs_0 : True := by
  k_with_none
  k_with "k_all" => exact List.forall_mem_append.mpr ⟨by k_all, by k_all⟩
  k_with "k_all" => exact tbn_neAll (by assumption)
  k_with "k_all" => assumption
  k_with "k_updF" => assumption
  k_with "k_mem" => assumption
  k_with "k_room" => ktr_room
  trivial
/-- a list of pairs (node, height) in the ledger -/
inductive PrT (P : Params) (nw : List (Addr × Obj)) : List Value → List Tr → Prop where
  | nil : PrT P nw [] []
  | cons {q : Addr} {c : Nat} {v : Value} {tk : Tok} {t : Tr} {vs : List Value} {ts : List Tr} : (q, tupObj [v, .int (t.ht : Int) tk] c) ∈ nw → TrIn P nw v t → PrT P nw vs ts → PrT P nw (.ref q :: vs) (t :: ts)
section
variable {P : Params} {nw nw' : List (Addr × Obj)} {vs ws : List Value} {ts us : List Tr}
theorem PrT.mono (h : PrT P nw vs ts) (k : ∀ p ∈ nw, p ∈ nw') : PrT P nw' vs ts := by
  induction h with
  | nil => exact .nil
  | cons h1 h2 _ ih => exact .cons (k _ h1) (h2.mono k) ih
theorem PrT.length (h : PrT P nw vs ts) : vs.length = ts.length := by
  induction h with
  | nil => rfl
  | cons _ _ _ ih => simp [ih]
theorem PrT.append (h : PrT P nw vs ts) (k : PrT P nw ws us) : PrT P nw (vs ++ ws) (ts ++ us) := by
  induction h with
  | nil => exact k
  | cons h1 h2 _ ih => exact .cons h1 h2 ih
theorem PrT.take (h : PrT P nw vs ts) (k : Nat) : PrT P nw (vs.take k) (ts.take k) := by
  induction h generalizing k with
  | nil => simp only [List.take_nil]; exact .nil
  | cons h1 h2 _ ih =>
    cases k with
    | zero => exact .nil
    | succ k => exact .cons h1 h2 (ih k)
theorem PrT.drop (h : PrT P nw vs ts) (k : Nat) : PrT P nw (vs.drop k) (ts.drop k) := by
  induction h generalizing k with
  | nil => simp only [List.drop_nil]; exact .nil
  | cons h1 h2 h3 ih =>
    cases k with
    | zero => exact .cons h1 h2 h3
    | succ k => exact ih k
theorem PrT.get (h : PrT P nw vs ts) {i : Nat} {x : Value} (hx : vs[i]? = some x) : ∃ q c v tk t, x = .ref q ∧ (q, tupObj [v, .int (t.ht : Int) tk] c) ∈ nw ∧ TrIn P nw v t ∧ ts[i]? = some t := by
  induction h generalizing i with
  | nil => cases hx
  | cons h1 h2 _ ih =>
    cases i with
    | zero => cases hx; exact ⟨_, _, _, _, _, rfl, h1, h2, rfl⟩
    | succ i => exact ih hx
end
theorem TrAll.snoc' {P : Params} {nw : List (Addr × Obj)} {ys : List Value} {ts : List Tr} {i : Nat} {v : Value} {t : Tr} (h : TrAll P nw ys (ts.take i)) (ht : ts[i]? = some t) (hv : TrIn P nw v t) : TrAll P nw (ys ++ [v]) (ts.take (i + 1)) := by
  rw [List.take_add_one, ht]
  exact h.append (.cons hv .nil)
theorem hts_snoc {ys : List Value} {ts : List Tr} {i : Nat} {t : Tr} {tk : Tok} (h : IntsAre ys ((ts.take i).map fun t => (t.ht : Int))) (ht : ts[i]? = some t) : IntsAre (ys ++ [.int (t.ht : Int) tk]) ((ts.take (i + 1)).map fun t => (t.ht : Int)) := by
  rw [List.take_add_one, ht, List.map_append]
  exact h.append (.cons _ _ .nil)
theorem ht_le_all : ∀ {ts : List Tr} {t : Tr}, t ∈ ts → t.ht ≤ htAll ts
  | _ :: _, _, h => by
    rcases List.mem_cons.mp h with rfl | h
    · exact Nat.le_max_left _ _
    · exact Nat.le_trans (ht_le_all h) (Nat.le_max_right _ _)
theorem htAll_mem : ∀ {ts : List Tr}, ts ≠ [] → ∃ t ∈ ts, t.ht = htAll ts
  | [], h => absurd rfl h
  | t :: ts, _ => by
    by_cases e : ts = []
    · subst e; exact ⟨t, .head _, (Nat.max_eq_left (Nat.zero_le _)).symm⟩
    · obtain ⟨u, hu, e2⟩ := htAll_mem e
      rcases Nat.le_total (htAll ts) t.ht with hl | hl
      · exact ⟨t, .head _, (Nat.max_eq_left hl).symm⟩
      · exact ⟨u, .tail _ hu, e2.trans (Nat.max_eq_right hl).symm⟩
theorem max_hts {ts : List Tr} {M : Int} (hm : M ∈ ts.map fun t => (t.ht : Int)) (hu : ∀ a ∈ ts.map (fun t => (t.ht : Int)), a ≤ M) : M = (htAll ts : Int) := by
  obtain ⟨t, ht, rfl⟩ := List.mem_map.mp hm
  obtain ⟨u, hu', e⟩ := htAll_mem (ts := ts) (by intro e; subst e; cases ht)
  have h1 := hu _ (List.mem_map.mpr ⟨u, hu', rfl⟩)
  have h2 := ht_le_all ht
  omega
theorem max_hts0 {ts : List Tr} {M : Int} (hm : M ∈ (0 : Int) :: ts.map fun t => (t.ht : Int)) (hu : ∀ a ∈ (0 : Int) :: ts.map (fun t => (t.ht : Int)), a ≤ M) : M = (htAll ts : Int) := by
  by_cases e : ts = []
  · subst e
    rcases List.mem_cons.mp hm with rfl | h
    · rfl
    · cases h
  · obtain ⟨u, hu', e⟩ := htAll_mem e
    have h1 := hu _ (.tail _ (List.mem_map.mpr ⟨u, hu', rfl⟩))
    rcases List.mem_cons.mp hm with rfl | h
    · have := hu 0 (.head _); omega
    · obtain ⟨t, ht, rfl⟩ := List.mem_map.mp h
      have h2 := ht_le_all ht
      omega
section
variable {prog : Program} {w : World} {A : Around} {E : Value → Shared → Prop} {s : Shared} {h₀ : Heap} {L l : Addr} {m : Str → Option Value} {news : List (Addr × Obj)} {value slice : PySem.Expr} {vs zs : List Value} {n : Nat} {vl vu : Value} {lo hi : Option Int} {Q : Value → Shared → Prop}
theorem pick_from {x : Int} (h : 0 ≤ x) : kms_pick vs (some x) none = vs.drop x.toNat := by
  unfold kms_pick kms_lo kms_hi
  simp only [if_neg (show ¬ x < 0 by omega)]
  rw [kmk_drop_min]
  exact List.take_of_length_le (by rw [List.length_drop]; omega)
theorem pick_upto {x : Int} (h : 0 ≤ x) : kms_pick vs none (some x) = vs.take x.toNat := by
  unfold kms_pick kms_lo kms_hi
  simp only [if_neg (show ¬ x < 0 by omega), List.drop_zero, Nat.sub_zero]
  exact kmk_take_min _ _
theorem m_slice (F : Fr h₀ L s.heap m) (N : News h₀ L s.heap news) (hl : (l, lstObj vs n) ∈ news) (pl : IsPart vl lo) (pu : IsPart vu hi) (e : kms_pick vs lo hi = zs) (hz : vs.length ≤ 100000)
    (h : ∀ D h', Fr h₀ L h' m → News h₀ L h' ((D, lstObj zs 0) :: news) → (∀ p ∈ news, p.1 < D) → Q (.ref D) { s with heap := h' })
    (hs : subscripted slice false (.ref l) (.ref s.heap.objs.size) = operate [.ref s.heap.objs.size, .ref l] (getItem (.ref l) (.ref s.heap.objs.size))) (ht : ∀ r, letTemporaryGo value (.ref l) r = pure ()) :
    wpAny (model prog w) A (subscriptTail value slice (.ref l) (.ref s.heap.objs.size)) Q E { s with heap := s.heap.push { cls := .type "slice", data := .fields #[vl, vu, .none] } } :=
  kms_slice_lit F N (m_isList N hl) pl pu e h hs ht (by rw [List.size_toArray, PySem.sizeLine_eq]; omega)
theorem m_max {ts : List Tr} (hh : A.handled = none) (F : Fr h₀ L s.heap m) (N : News h₀ L s.heap news) (hl : (l, lstObj vs n) ∈ news) (hi : IntsAre vs (ts.map fun t => (t.ht : Int))) (hne : 0 < ts.length)
    (h : ∀ h' t tk, Fr h₀ L h' m → News h₀ L h' news → Q (.int (htAll ts : Int) t) { s with heap := h', toks := tk }) : wpAny (model prog w) A (call (.builtin "max") [.ref l]) Q E s :=
  kso_max F N (m_isList N hl) hi (by simpa using hne) hh fun h' M t tk F' N' a b => by
    have e := max_hts a b
    subst e
    exact h h' t tk F' N'
theorem m_max0 {ts : List Tr} {u : Tok} (hh : A.handled = none) (F : Fr h₀ L s.heap m) (N : News h₀ L s.heap news) (hl : (l, lstObj ([.int 0 u] ++ vs) n) ∈ news) (hi : IntsAre vs (ts.map fun t => (t.ht : Int)))
    (h : ∀ h' t tk, Fr h₀ L h' m → News h₀ L h' news → Q (.int (htAll ts : Int) t) { s with heap := h', toks := tk }) : wpAny (model prog w) A (call (.builtin "max") [.ref l]) Q E s :=
  kso_max F N (m_isList N hl) (.cons _ _ hi) (Nat.succ_pos _) hh fun h' M t tk F' N' a b => by
    have e := max_hts0 a b
    subst e
    exact h h' t tk F' N'
end
section
open PyProof.Rows.LCg PyProof.Rows.LCp
variable {prog : Program} {w : World} {A : Around} {E : Value → Shared → Prop} {s : Shared} {h₀ : Heap} {L : Addr} {m : Str → Option Value} {env : Env}
def WSrcP (prog : Program) (w : World) (A : Around) (h₀ : Heap) (L : Addr) (m : Str → Option Value) (env : Env) (elt : Expr) (x x₂ : Str) (scope : Scope) (cl : List (Str × Addr)) (Fin : Shared → List Value → List (Addr × Obj) → Prop) (xv : Value) (s₁ : Shared) : Prop := SrcLP prog w A h₀ L m env elt x x₂ scope cl Fin xv s₁
theorem ListComp_PW {elt iter : Expr} {x x₂ : Str} {px px₂ tp : Pos} {tk} {scope : Scope} {cl : List (Str × Addr)} {pos : Pos} {Q : Value → Shared → Prop} (F₀ : Fr h₀ L s.heap m)
    (hclos : closureFor scope env = pure cl) (hcell : ∀ y ∈ scope.names, y.2 ≠ .cell) (hkind : scope.kind = .function)
    (hnames : ∀ y ∈ scope.names, y.2 = .local → scope.names.lookup y.1 = some .local) (hx : scope.names.lookup x = some .local) (hx₂ : scope.names.lookup x₂ = some .local) (hxx : x ≠ x₂)
    (h : wpAny (model prog w) A (eval iter env) (WSrcP prog w A h₀ L m env elt x x₂ scope cl (fun s₂ => FinE h₀ L m s₂ Q)) E s)
    (hs : ∀ x, foldedSetIterable iter env x = pure x := by intro _; rfl) :
    wpAny (model prog w) A (eval (.ListComp elt [⟨.Tuple [.Name x px, .Name x₂ px₂] tk tp, iter, [], 0⟩] scope pos) env) Q E s := ListComp_P F₀ hclos hcell hkind hnames hx hx₂ hxx h hs
/-- a comprehension over a list of pairs, its element making nothing -/
theorem compPair {elt : Expr} {x x₂ : Str} {scope : Scope} {cl : List (Str × Addr)} {Fin : Shared → List Value → List (Addr × Obj) → Prop} {l : Addr} {vs : List Value} {k : Nat} {P : Params} {ts : List Tr} {small news : List (Addr × Obj)} {s₁ : Shared} (J : Nat → List Value → Prop)
    (hh : A.handled = none) (F : Fr h₀ L s₁.heap m) (N : News h₀ L s₁.heap news) (hm : (l, lstObj vs k) ∈ news) (hsz : vs.length ≤ 100000) (hp : PrT P small vs ts) (hs : ∀ p ∈ small, p ∈ news) (j0 : J 0 [])
    (step : ∀ i ys v t tkk I oI C oC D m₂ h tk (E' : Value → Shared → Prop) (R : Value → Shared → Prop), (∀ y s', CompEnd h₀ L m { s₁ with heap := h, toks := tk } I oI C oC D (lst ys) (SrcAt h₀ l vs.toArray) (fun y news' => news' = news ∧ J (i + 1) (ys ++ [y])) y s' → R y s') → J i ys → ts[i]? = some t → TrIn P small v t → NsObj oC m₂ → m₂ x = some v → m₂ x₂ = some (.int (t.ht : Int) tkk) → Fr h₀ L h m → News h₀ L h ((I, oI) :: (C, oC) :: (D, lst ys) :: news) → Off3 I C D news → ((@Ne Nat I C) ∧ (@Ne Nat I D) ∧ (@Ne Nat C D)) →
      wpAny (model prog w) A (eval elt (compEnvC scope cl C env)) R E' { s₁ with heap := h, toks := tk })
    (fin : ∀ g ys, J ts.length ys → Fin { s₁ with heap := g } ys news) : WSrcP prog w A h₀ L m env elt x x₂ scope cl Fin (.ref l) s₁ := by
  have hlen := hp.length
  refine SrcLP.ledger hh F N hm (by rw [List.size_toArray, PySem.sizeLine_eq]; omega) fun g => ?_
  rw [List.size_toArray]
  have go : ∀ k i ys, i + k = ts.length → J i ys → CompRestP prog w A h₀ L m env elt x x₂ scope cl { s₁ with heap := g } (SrcAt h₀ l vs.toArray) (fun i v => vs.toArray[i]? = some v) (Fin { s₁ with heap := g }) k i ys news := by
    intro k
    induction k with
    | zero => intro i ys e j; exact CompRestP.zero (fin g ys (by rw [← e, Nat.add_zero]; exact j))
    | succ k ih =>
      intro i ys e j
      refine CompRestP.succ fun v hv => ?_
      obtain ⟨q, c, v', tk, t, rfl, hq, hv', ht⟩ := hp.get (i := i) (by simpa using hv)
      refine ⟨q, _, v', _, c, rfl, hs _ hq, rfl, rfl, fun I oI C oC D m₂ h tk' E' hC hx hx2 F' N' off ne => ?_⟩
      refine wpAny_mono (step i ys v' t tk I oI C oC D m₂ h tk' E' _ (fun _ _ q => q) j ht hv' hC hx hx2 F' N' off ne) (fun y s₂ q => ?_) fun _ _ q => q
      obtain ⟨h', tk2, nw, e2, F2, N2, off2, hS, rfl, j2⟩ := q
      exact ⟨h', tk2, nw, e2, F2, N2, off2, hS, ih (i + 1) _ (by omega) j2⟩
  exact go vs.length 0 [] (by omega) j0
end
theorem ord_nil {news : List (Addr × Obj)} : ∀ q ∈ news, ∀ p ∈ ([] : List (Addr × Obj)), q.1 ≠ p.1 := fun _ _ _ h => nomatch h
theorem ord_cons {news tl : List (Addr × Obj)} {x : Addr × Obj} (h : ∀ q ∈ news, q.1 < x.1) (k : ∀ q ∈ news, ∀ p ∈ tl, q.1 ≠ p.1) : ∀ q ∈ news, ∀ p ∈ x :: tl, q.1 ≠ p.1 := fun q hq p hp => (List.mem_cons.mp hp).elim (fun e => e ▸ Nat.ne_of_lt (h q hq)) (k q hq p)
theorem ord_app {news tl tl' : List (Addr × Obj)} (h : ∀ q ∈ news, ∀ p ∈ tl, q.1 ≠ p.1) (k : ∀ q ∈ news, ∀ p ∈ tl', q.1 ≠ p.1) : ∀ q ∈ news, ∀ p ∈ tl ++ tl', q.1 ≠ p.1 := fun q hq p hp => (List.mem_append.mp hp).elim (h q hq p) (k q hq p)
theorem lt_up {a b : Nat} {news : List (Addr × Obj)} (h : a < b) (k : ∀ q ∈ news, q.1 < a) : ∀ q ∈ news, q.1 < b := fun q hq => Nat.lt_trans (k q hq) h

theorem words_step_0 : True := by
  k_with_none
  k_with "k_all" => exact List.forall_mem_append.mpr ⟨by k_all, by k_all⟩
  k_with "k_all" => exact tbn_neAll (by assumption)
  k_with "k_all" => assumption
  k_with "k_updF" => assumption
  k_with "k_mem" => assumption
  k_with "k_room" => ktr_room
  k_with "eval ListComp" => (k_here; k_dflt (refine ListComp_PW (by k_asm) (by rfl) (by decide) (by rfl) (by decide) (by rfl) (by rfl) (by decide) ?_))
  k_with "call builtin:max" => (k_here; (with_reducible show wpAny _ _ (call (Value.builtin _) [Value.ref _]) _ _ _); k_dflt (first | (refine' m_max0 (by rfl) ?F_70 ?N_70 ?hl_70 ?hi_70 ?_; (case F_70 => k_asm); (case N_70 => k_asm); (case hl_70 => k_mem); (case hi_70 => assumption)) | (refine' m_max (by rfl) ?F_70 ?N_70 ?hl_70 ?hi_70 ?hne_70 ?_; (case F_70 => k_asm); (case N_70 => k_asm); (case hl_70 => k_mem); (case hi_70 => assumption); (case hne_70 => omega))); intro hM_70 tM_70 kM_70 FM_70 NM_70; (try dsimp only))
  k_with "call type:tuple" => (k_here; (with_reducible show wpAny _ _ (call (Value.type _) [Value.ref _]) _ _ _); k_dflt (refine' kde_tupleOf ?k1_71 ?k2_71 ?k3_71 ?k4_71 ?k5_71 ?_; (case k1_71 => k_asm); (case k2_71 => k_asm); (case k3_71 => exact m_isList (by k_asm) (by k_mem)); (case k4_71 => (simp only [List.size_toArray, List.length_drop, List.length_cons]; omega)); (case k5_71 => exact rfl); k_whole); intro D'_71 h'_71 F'_71 N'_71 l1_71; (try k_lt l1_71); (try k_sweep))
  k_with "binaryOp Add ref ref" => (k_here; (with_reducible show wpAny _ _ (binaryOp Operator.Add (Value.ref _) (Value.ref _)) _ _ _); k_dflt (refine' m_addl ?k1_72 ?k2_72 ?k3_72 ?k4_72 ?k5_72 ?_; (case k1_72 => k_asm); (case k2_72 => k_asm); (case k3_72 => k_mem); (case k4_72 => k_mem); (case k5_72 => (simp only [List.length_cons, List.length_nil]; omega))); intro DA hA FA NA lA; (try dsimp only); (try k_fold))
  k_with "ltAll" => first | assumption | exact tb_ltOf (by assumption) | exact tb_ltOf (And.right (by assumption)) | exact tb_ltOf (And.right (And.right (by assumption))) | exact tb_ltOf (And.right (And.right (And.right (by assumption)))) | exact tb_ltOf (And.right (And.right (And.right (And.right (by assumption))))) | exact tb_ltOf (And.right (And.right (And.right (And.right (And.right (by assumption)))))) | exact tb_ltOf (And.right (And.right (And.right (And.right (And.right (And.right (by assumption))))))) | exact tb_ltOf (And.right (And.right (And.right (And.right (And.right (And.right (And.right (by assumption)))))))) | exact tb_ltOf (And.right (And.right (And.right (And.right (And.right (And.right (And.right (And.right (by assumption))))))))) | exact tb_ltOf (And.right (And.right (And.right (And.right (And.right (And.right (And.right (And.right (And.right (by assumption)))))))))) | exact tb_ltOf (And.right (And.right (And.right (And.right (And.right (And.right (And.right (And.right (And.right (And.right (by assumption))))))))))) | exact tb_ltOf (And.right (And.right (And.right (And.right (And.right (And.right (And.right (And.right (And.right (And.right (And.right (by assumption)))))))))))) | exact tb_ltOf (And.right (And.right (And.right (And.right (And.right (And.right (And.right (And.right (And.right (And.right (And.right (And.right (by assumption))))))))))))) | (refine lt_up (by assumption) ?_; walk_at "ltAll")
  trivial
/-- no range's iterator -/
def NotIt (p : Addr × Obj) : Prop := p.2.cls ≠ .type "range_iterator"
theorem not_tup {a : Addr} {vs : List Value} {n : Nat} : NotIt (a, tupObj vs n) := fun h => by injection h with h; exact absurd h (by decide)
theorem not_lst {a : Addr} {vs : List Value} {n : Nat} : NotIt (a, lstObj vs n) := fun h => by injection h with h; exact absurd h (by decide)
theorem not_dict {a : Addr} {es : List DictEntry} {n : Nat} : NotIt (a, dictOf es n) := fun h => by injection h with h; exact absurd h (by decide)
theorem not_inst {a d C : Addr} : NotIt (a, instObj C d) := fun h => by cases h
theorem not_nil : ∀ p ∈ ([] : List (Addr × Obj)), NotIt p := fun _ h => nomatch h
theorem not_cons {x : Addr × Obj} {tl : List (Addr × Obj)} (h : NotIt x) (k : ∀ p ∈ tl, NotIt p) : ∀ p ∈ x :: tl, NotIt p := fun p hp => (List.mem_cons.mp hp).elim (fun e => e ▸ h) (k p)
theorem not_app {tl tl' : List (Addr × Obj)} (h : ∀ p ∈ tl, NotIt p) (k : ∀ p ∈ tl', NotIt p) : ∀ p ∈ tl ++ tl', NotIt p := fun p hp => (List.mem_append.mp hp).elim (h p) (k p)
def StepPost (P : Params) (small news : List (Addr × Obj)) (ts : List Tr) (r : Value) (news' : List (Addr × Obj)) : Prop :=
  ∃ (tl : List (Addr × Obj)) (R S : Addr) (tk : Tok) (c : Nat), r = .ref R ∧ news' = tl ++ news ∧ (∀ q ∈ news, ∀ p ∈ tl, q.1 ≠ p.1) ∧ (∀ p ∈ tl, NotIt p) ∧ (R, tupObj [.ref S, .int ((1 : Int) + (htAll ts : Int)) tk] c) ∈ tl ∧ TrIn P (tl ++ small) (.ref S) (.mk .step ts)
theorem StepPost.cur {P : Params} {small news : List (Addr × Obj)} {ts : List Tr} (C : Value → List (Addr × Obj) → Prop) (h : ∀ tl R S tk c, (∀ q ∈ news, ∀ p ∈ tl, q.1 ≠ p.1) → (∀ p ∈ tl, NotIt p) → (R, tupObj [.ref S, .int ((1 : Int) + (htAll ts : Int)) tk] c) ∈ tl → TrIn P (tl ++ small) (.ref S) (.mk .step ts) → C (.ref R) (tl ++ news)) : ∀ r n, StepPost P small news ts r n → C r n := by
  rintro _ _ ⟨tl, R, S, tk, c, rfl, rfl, a, b, d, e⟩
  exact h _ _ _ _ _ a b d e
theorem StepPost.mk {P : Params} {small news tl : List (Addr × Obj)} {ts : List Tr} {R S : Addr} {tk : Tok} {c : Nat} (a : ∀ q ∈ news, ∀ p ∈ tl, q.1 ≠ p.1) (b : ∀ p ∈ tl, NotIt p) (d : (R, tupObj [.ref S, .int ((1 : Int) + (htAll ts : Int)) tk] c) ∈ tl) (e : TrIn P (tl ++ small) (.ref S) (.mk .step ts)) : StepPost P small news ts (.ref R) (tl ++ news) := ⟨_, _, _, _, _, rfl, rfl, a, b, d, e⟩
theorem step_sub {h₀ h : Heap} {L : Addr} {a b c d e j1 j2 j3 j4 : Addr × Obj} {news : List (Addr × Obj)} (N : News h₀ L h (a :: j1 :: j2 :: j3 :: b :: c :: d :: j4 :: e :: news)) : News h₀ L h ([a, b, c, d, e] ++ news) := fun p hp => N p (by
  simp only [List.cons_append, List.nil_append, List.mem_cons] at hp ⊢
  rcases hp with h | h | h | h | h | h <;> simp only [h, true_or, or_true])
theorem step_spec (w : World) {l : Addr} {vs : List Value} {n : Nat} {ts : List Tr} {small news : List (Addr × Obj)} (hsub : ∀ p ∈ small, p ∈ news) (hl : (l, lstObj vs n) ∈ news) (hp : PrT w.params small vs ts) (hlen : ts.length ≤ 1000) :
    Spec w 50 500 376 [.ref l] news (StepPost w.params small news ts) := by
  intro mean mg mb dp un gd cn cs a ccd cl outer A₀ base h₀ L m s Q E B F X N T hk hdp hun hret
  have hvl := hp.length
  refine wpAny_call ?_
  k_dflt ktr_enter
  k_steps
  refine compPair (fun i ys => TrAll w.params small ys (ts.take i)) (by rfl) (by k_asm) (by k_asm) (.tail _ hl) (by omega) hp (fun p hp => .tail _ (hsub p hp)) .nil ?_ ?_
  · intro i ys v t tkk I oI C oC D m₂ h tk E' R9 hR9 j ht hv hC hx hx2 F9 N9 off9 ne9
    k_steps
    exact hR9 _ _ (LCg.CompEnd.intro (by k_asm) (by k_asm) _ (fun p hp => hp) off9 (.inr ⟨_, .tail _ hl, rfl, _, rfl⟩) ⟨rfl, j.snoc' ht hv⟩)
  · intro g ys j
    rw [List.take_length] at j
    have hyl := j.length
    intro D1 h9 tk9 F9 N9' off9
    have N9 := N9'
    dsimp only [LCg.lst] at N9
    clear N9'
    k_steps
    refine compPair (fun i ys => IntsAre ys ((ts.take i).map fun t => (t.ht : Int))) (by rfl) (by k_asm) (by k_asm) (by k_mem) (by omega) hp (fun p hp => by repeat (first | exact hsub p hp | apply List.Mem.tail)) .nil ?_ ?_
    · intro i ys v t tkk I oI C oC D m₂ h tk E' R9 hR9 j ht hv hC hx hx2 F9 N9 off9 ne9
      k_steps
      exact hR9 _ _ (LCg.CompEnd.intro (by k_asm) (by k_asm) _ (fun p hp => hp) off9 (.inr ⟨_, by k_mem, rfl, _, rfl⟩) ⟨rfl, hts_snoc j ht⟩)
    · intro g ys2 j2
      rw [List.take_length] at j2
      have hyl2 := j2.length
      rw [List.length_map] at hyl2
      intro D2 h9 tk9 F9 N9' off9b
      have N9 := N9'
      dsimp only [LCg.lst] at N9
      clear N9'
      k_steps
      rename News h₀ _ _ _ => N10
      exact hret _ _ _ _ (by k_asm) (step_sub N10) (.mk (ord_cons (by walk_at "ltAll") (ord_cons (by walk_at "ltAll") (ord_cons (by walk_at "ltAll") (ord_cons (by walk_at "ltAll") (ord_cons (by walk_at "ltAll") ord_nil))))) (not_cons not_tup (not_cons not_inst (not_cons not_dict (not_cons not_tup (not_cons not_tup not_nil))))) (.head _)
        (.step (.tail _ (.head _)) (.tail _ (.tail _ (.head _))) (.tail _ (.tail _ (.tail _ (.tail _ (.head _))))) (.tail _ (.tail _ (.tail _ (.head _)))) (j.mono fun p hp => List.mem_append.mpr (.inr hp))))

theorem words_pool_0 : True := by
  k_with_none
  k_with "k_all" => exact List.forall_mem_append.mpr ⟨by k_all, by k_all⟩
  k_with "k_all" => exact tbn_neAll (by assumption)
  k_with "k_all" => assumption
  k_with "k_updF" => assumption
  k_with "k_mem" => assumption
  k_with "k_room" => ktr_room
  trivial
def SpecS (w : World) (D U : Nat) (f : Addr) (args : List Value) (news : List (Addr × Obj)) (H : Heap → Prop) (Post : Value → List (Addr × Obj) → Prop) : Prop :=
  ∀ (mean : ExcName → Option Value) (mg mb : Str → Option Value) (dp un : Nat) (gd : Option (List Code)) (cn : Str) (cs : Scope) (a : Addr) (ccd : Value) (cl : List (Str × Addr)) (outer : List Env) (A₀ : Around) (base h₀ : Heap) (L : Addr) (m : Str → Option Value) (s : Shared) (Q E : Value → Shared → Prop),
    Below A₀ base outer h₀ → Fr h₀ L s.heap m → (hd.heap_39 w.params).In h₀ → News h₀ L s.heap news → Top hd.view_39 LO mean mg mb h₀ → cs.kind = .function → dp + D < recursionLimit → un + U < cLine → H h₀ →
    (∀ r news' h' tk', Fr h₀ L h' m → News h₀ L h' news' → Post r news' → Q r { s with heap := h', toks := tk' }) →
    wpAny (model PG w) (ktrTop dp un gd cn cs L a ccd cl outer) (call (.ref f) args) Q E s
theorem SpecS.use {w : World} {D U : Nat} {f : Addr} {args : List Value} {news : List (Addr × Obj)} {H : Heap → Prop} {Post : Value → List (Addr × Obj) → Prop} {mean : ExcName → Option Value} {mg mb : Str → Option Value} {dp un : Nat} {gd : Option (List Code)} {cn : Str} {cs : Scope} {a : Addr} {ccd : Value} {cl : List (Str × Addr)} {outer : List Env} {A₀ : Around} {base h₀ : Heap} {L : Addr} {m : Str → Option Value} {s : Shared} {Q E : Value → Shared → Prop}
    (C : SpecS w D U f args news H Post) (B : Below A₀ base outer h₀) (F : Fr h₀ L s.heap m) (X : (hd.heap_39 w.params).In h₀) (N : News h₀ L s.heap news) (T : Top hd.view_39 LO mean mg mb h₀) (hk : cs.kind = .function) (hd : dp + D < recursionLimit) (hu : un + U < cLine) (hH : H h₀)
    (ret : ∀ r news' h' tk', Fr h₀ L h' m → News h₀ L h' news' → Post r news' → Q r { s with heap := h', toks := tk' }) :
    wpAny (model PG w) (ktrTop dp un gd cn cs L a ccd cl outer) (call (.ref f) args) Q E s := C _ _ _ _ _ _ _ _ _ _ _ _ _ _ _ _ _ _ _ _ B F X N T hk hd hu hH ret
theorem SpecS.useC {K : (Value → List (Addr × Obj) → Prop) → Prop} {w : World} {D U : Nat} {f : Addr} {args : List Value} {news : List (Addr × Obj)} {H : Heap → Prop} {Post : Value → List (Addr × Obj) → Prop} {mean : ExcName → Option Value} {mg mb : Str → Option Value} {dp un : Nat} {gd : Option (List Code)} {cn : Str} {cs : Scope} {a : Addr} {ccd : Value} {cl : List (Str × Addr)} {outer : List Env} {A₀ : Around} {base h₀ : Heap} {L : Addr} {m : Str → Option Value} {s : Shared} {Q E : Value → Shared → Prop}
    (C : SpecS w D U f args news H Post) (B : Below A₀ base outer h₀) (F : Fr h₀ L s.heap m) (X : (hd.heap_39 w.params).In h₀) (N : News h₀ L s.heap news) (T : Top hd.view_39 LO mean mg mb h₀) (hk : cs.kind = .function) (hd : dp + D < recursionLimit) (hu : un + U < cLine) (hH : H h₀)
    (cur : ∀ C : Value → List (Addr × Obj) → Prop, K C → ∀ r n, Post r n → C r n) (ret : K fun r n => ∀ h' tk', Fr h₀ L h' m → News h₀ L h' n → Q r { s with heap := h', toks := tk' }) :
    wpAny (model PG w) (ktrTop dp un gd cn cs L a ccd cl outer) (call (.ref f) args) Q E s := C _ _ _ _ _ _ _ _ _ _ _ _ _ _ _ _ _ _ _ _ B F X N T hk hd hu hH fun r n h' tk' F N P => cur _ ret r n P h' tk' F N
def PoolPost (news : List (Addr × Obj)) (r : Value) (news' : List (Addr × Obj)) : Prop :=
  ∃ (S : Addr) (s0 s1 : Int) (t0 t1 : Tok) (n : Nat), r = .ref S ∧ news' = (S, srcObj s0 s1 t0 t1 n) :: news ∧ SrcOk s0 s1 ∧ ∀ p ∈ news, p.1 < S
theorem PoolPost.mk {news : List (Addr × Obj)} {S : Addr} {s0 s1 : Int} {t0 t1 : Tok} {n : Nat} (ok : SrcOk s0 s1) (lt : ∀ p ∈ news, p.1 < S) : PoolPost news (.ref S) ((S, srcObj s0 s1 t0 t1 n) :: news) := ⟨_, _, _, _, _, _, rfl, rfl, ok, lt⟩
theorem PoolPost.cur {news : List (Addr × Obj)} (C : Value → List (Addr × Obj) → Prop) (h : ∀ S s0 s1 t0 t1 n, SrcOk s0 s1 → (∀ p ∈ news, p.1 < S) → C (.ref S) ((S, srcObj s0 s1 t0 t1 n) :: news)) : ∀ r n, PoolPost news r n → C r n := by
  rintro _ _ ⟨S, s0, s1, t0, t1, n, rfl, rfl, ok, lt⟩
  exact h _ _ _ _ _ _ ok lt
theorem pool_spec (w : World) {sc : Addr} {vs : List Value} {ns : List Int} {news : List (Addr × Obj)} (hi : IntsAre vs ns) (hlen : ns.length ≤ 63) :
    SpecS w 10 100 333 [.ref sc] news (fun h => h.IsList sc vs.toArray) (PoolPost news) := by
  intro mean mg mb dp un gd cn cs a ccd cl outer A₀ base h₀ L m s Q E B F X N T hk hdp hun hl hret
  refine wpAny_call ?_
  k_dflt ktr_enter
  rename Fr h₀ L _ m => FG1
  have hl' := hl.at fun o e => FG1.keep _ o e
  k_steps
  all_goals rename News h₀ L _ _ => N9
  all_goals exact hret _ _ _ _ (by k_asm) N9 (.mk (by exact ⟨by first | exact Int.le_refl _ | assumption | exact Int.le_trans (b := (10 : Int) ^ Int.toNat 18) (by decide +kernel) (by assumption), Int.fmod_nonneg_of_pos _ (by decide), Int.lt_trans (Int.fmod_lt_of_pos _ (by decide)) (by decide)⟩) (by assumption))

theorem words_rowsne_0 : True := by
  k_with_none
  k_with "k_all" => exact List.forall_mem_append.mpr ⟨by k_all, by k_all⟩
  k_with "k_all" => exact tbn_neAll (by assumption)
  k_with "k_all" => assumption
  k_with "k_updF" => assumption
  k_with "k_mem" => assumption
  k_with "k_room" => ktr_room
  trivial
theorem kq_tup {n : Nat} {ds : List Dat} (h : ∀ d ∈ ds, kqdOk n d = true) : kqdOk (n + 1) (.tuple ds) = true := by
  simp only [kqdOk, List.all_eq_true]; exact h
theorem kq_nil {n : Nat} : ∀ d ∈ ([] : List Dat), kqdOk n d = true := fun _ h => nomatch h
theorem kq_cons {n : Nat} {d : Dat} {ds : List Dat} (h : kqdOk n d = true) (k : ∀ d ∈ ds, kqdOk n d = true) : ∀ x ∈ d :: ds, kqdOk n x = true := fun x hx => (List.mem_cons.mp hx).elim (fun e => e ▸ h) (k x)
theorem kq_str {n : Nat} {x : Str} (h : PyData.strOk x = true) : kqdOk n (.str x) = true := by cases n <;> exact h
theorem kq_none {n : Nat} : kqdOk n .none = true := by cases n <;> rfl
theorem kq_int {n : Nat} {i : Int} : kqdOk n (.int i) = true := by cases n <;> rfl
theorem ge2 {n m : Nat} (h : 2 * (1 + m) ≤ n) : ∃ k, n = k + 1 + 1 ∧ 2 * m ≤ k := ⟨n - 2, by omega, by omega⟩
mutual
theorem TrIn.rowOk {P : Params} {nw : List (Addr × Obj)} : ∀ {v : Value} {t : Tr}, TrIn P nw v t → ∀ n, 2 * t.ht ≤ n → kqdOk n t.row = true
  | _, _, .var _ _ h3, n, hn => by
    obtain ⟨k, rfl, _⟩ := ge2 (m := 0) (by simpa [Tr.ht, htAll] using hn)
    exact kq_tup (kq_cons (kq_str (by decide +kernel)) (kq_cons (kq_str h3) kq_nil))
  | _, _, .lit _ _ h3, n, hn => by
    obtain ⟨k, rfl, _⟩ := ge2 (m := 0) (by simpa [Tr.ht, htAll] using hn)
    exact kq_tup (kq_cons (kq_str (by decide +kernel)) (kq_cons (kq_str h3) kq_nil))
  | _, _, .num _ _ _, n, hn => by
    obtain ⟨k, rfl, _⟩ := ge2 (m := 0) (by simpa [Tr.ht, htAll] using hn)
    exact kq_tup (kq_cons (kq_str (by decide +kernel)) (kq_cons (kq_tup (kq_cons kq_int (kq_cons kq_int kq_nil))) kq_nil))
  | _, _, .call _ _ _ h4 h5, n, hn => by
    obtain ⟨k, rfl, hk⟩ := ge2 (by simpa only [Tr.ht] using hn)
    exact kq_tup (kq_cons (kq_str (by decide +kernel)) (kq_cons (kq_str h4) (kq_cons (kq_tup (TrAll.rowOk h5 k hk)) kq_nil)))
  | _, _, .bin _ _ h3 h4 h5, n, hn => by
    obtain ⟨k, rfl, hk⟩ := ge2 (by simpa only [Tr.ht] using hn)
    simp only [htAll] at hk
    exact kq_tup (kq_cons (kq_str (by decide +kernel)) (kq_cons (kq_str h3) (kq_cons (TrIn.rowOk h4 (k + 1) (by omega)) (kq_cons (TrIn.rowOk h5 (k + 1) (by omega)) kq_nil))))
  | _, _, .neg _ _ h3, n, hn => by
    obtain ⟨k, rfl, hk⟩ := ge2 (by simpa only [Tr.ht] using hn)
    simp only [htAll] at hk
    exact kq_tup (kq_cons (kq_str (by decide +kernel)) (kq_cons (TrIn.rowOk h3 (k + 1) (by omega)) kq_nil))
  | _, _, .filt _ _ _ h4 h5, n, hn => by
    obtain ⟨k, rfl, hk⟩ := ge2 (by simpa only [Tr.ht] using hn)
    simp only [htAll] at hk
    exact kq_tup (kq_cons (kq_str (by decide +kernel)) (kq_cons (TrIn.rowOk h4 (k + 1) (by omega)) (kq_cons (kq_tup (TrAll.rowOk h5 k (by omega))) kq_nil)))
  | _, _, .pathN _ _ _ h5, n, hn => by
    obtain ⟨k, rfl, hk⟩ := ge2 (by simpa only [Tr.ht] using hn)
    exact kq_tup (kq_cons (kq_str (by decide +kernel)) (kq_cons kq_none (kq_cons (kq_tup (TrAll.rowOk h5 k hk)) kq_nil)))
  | _, _, .pathR _ _ _ h5, n, hn => by
    obtain ⟨k, rfl, hk⟩ := ge2 (by simpa only [Tr.ht] using hn)
    exact kq_tup (kq_cons (kq_str (by decide +kernel)) (kq_cons (kq_str (by decide +kernel)) (kq_cons (kq_tup (TrAll.rowOk h5 k hk)) kq_nil)))
  | _, _, .pathT _ _ _ h4 h5, n, hn => by
    obtain ⟨k, rfl, hk⟩ := ge2 (by simpa only [Tr.ht] using hn)
    simp only [htAll] at hk
    exact kq_tup (kq_cons (kq_str (by decide +kernel)) (kq_cons (TrIn.rowOk h4 (k + 1) (by omega)) (kq_cons (kq_tup (TrAll.rowOk h5 k (by omega))) kq_nil)))
  | _, _, .step _ _ _ _ h5, n, hn => by
    obtain ⟨k, rfl, hk⟩ := ge2 (by simpa only [Tr.ht] using hn)
    exact kq_tup (kq_cons (kq_str (by decide +kernel)) (kq_cons (kq_str (by decide +kernel)) (kq_cons (kq_tup (kq_cons (kq_str (by decide +kernel)) kq_nil)) (kq_cons (kq_tup (TrAll.rowOk h5 k hk)) kq_nil))))
theorem TrAll.rowOk {P : Params} {nw : List (Addr × Obj)} : ∀ {vs : List Value} {ts : List Tr}, TrAll P nw vs ts → ∀ n, 2 * htAll ts ≤ n → ∀ d ∈ rowAll ts, kqdOk n d = true
  | _, _, .nil, _, _ => fun _ h => nomatch h
  | _, _, .cons h r, n, hn => by
    simp only [htAll] at hn
    exact kq_cons (TrIn.rowOk h n (by omega)) (TrAll.rowOk r n (by omega))
end
theorem rows_ne {prog : Program} {w : World} {A : Around} {E : Value → Shared → Prop} {s : Shared} {h₀ : Heap} {L a b : Addr} {news n₁ n₂ : List (Addr × Obj)} {xs ys : List Value} {ka kb : Nat} {ds : List Dat} {Q : Value → Shared → Prop}
    (N : News h₀ L s.heap news) (ma : (a, lstObj xs ka) ∈ news) (mb : (b, lstObj ys kb) ∈ news) (Da : DatAll n₁ xs ds) (Db : DatAll n₂ ys ds) (sa : ∀ p ∈ n₁, p ∈ news) (sb : ∀ p ∈ n₂, p ∈ news)
    (ha : ∀ d ∈ ds, kqdOk 60 d = true) (hu : A.units + 64 < cLine) (h : Q (.bool false) s) : wpAny (model prog w) A (compareOp .NotEq (.ref a) (.ref b)) Q E s := by
  obtain ⟨as, ra⟩ := kqd_all N 60 (Da.mono sa) ha
  obtain ⟨bs, rb⟩ := kqd_all N 60 (Db.mono sb) ha
  have hl : kqdOk 61 (.list ds) = true := by simp only [kqdOk, List.all_eq_true]; exact ha
  have la := kqd_lay 61 (.list ds) hl
  have q := (kqd_eqv 61 (.list ds) (.list ds) 61 hl hl).mpr rfl
  rw [kqdP] at la q
  have sh : SeqAt.shaped (.list (kqdPs ds)) = true := by
    unfold SeqAt.shaped; rw [la.1, Bool.true_and]; exact decide_eq_true (Nat.le_trans la.2 (by decide))
  exact ne_dataH (reads_list_at (N.get ma) rfl rfl (by simpa using ra)) (reads_list_at (N.get mb) rfl rfl (by simpa using rb)) sh sh hu (by rw [q]; exact h)

theorem words_joined_0 : True := by
  k_with_none
  k_with "k_all" => exact List.forall_mem_append.mpr ⟨by k_all, by k_all⟩
  k_with "k_all" => exact tbn_neAll (by assumption)
  k_with "k_all" => assumption
  k_with "k_updF" => assumption
  k_with "k_mem" => assumption
  k_with "k_room" => ktr_room
  k_with "call ref" => (k_here; (with_reducible show wpAny _ _ (call (Value.ref 340) _) _ _ _); (k_dflt (refine' Spec.useC (f := 340) (take_spec _ ?u_74 ?ok_74 ?ht_74 ?ht2_74) ?k1_74 ?k2_74 ?k3_74 ?k4_74 ?k5_74 ?k6_74 ?k7_74 ?k8_74 TakePost.cur ?_; (case k4_74 => k_asm); (case u_74 => k_updF); (case ok_74 => assumption); (case ht_74 => first | omega | decide); (case ht2_74 => first | omega | decide); (case k1_74 => k_asm); (case k2_74 => k_asm); (case k3_74 => k_asm); (case k5_74 => k_asm); (case k6_74 => first | exact rfl | assumption); (case k7_74 => first | omega | ktr_room); (case k8_74 => first | omega | ktr_units))); intro k' kt' s0' s1' t0' t1' n' hk0' hk1' ok' h' tk' F' N'; (try dsimp only); (try k_fold))
  k_with "call builtin:len" => (k_here; (with_reducible show wpAny _ _ (call (Value.builtin "len") [Value.ref _]) _ _ _); k_dflt (refine' m_len ?k1_75 ?k2_75 ?k3_75 ?_; (case k1_75 => k_asm); (case k2_75 => k_mem); (case k3_75 => omega); k_whole))
  k_with "subscriptTail" => (k_here; (with_reducible show wpAny _ _ (subscriptTail _ _ (Value.ref _) (Value.int _ _)) _ _ _); k_dflt (refine' m_item ?k1_76 ?k2_76 ?k3_76 ?k4_76 ?k5_76 ?_ ?k6_76; (case k1_76 => k_asm); (case k2_76 => k_mem); (case k3_76 => omega); (case k4_76 => omega); (case k5_76 => omega); (case k6_76 => with_unfolding_all rfl); k_whole); intro v'_76 hv'_76; (try dsimp only); (try k_fold))
  k_with "k_ne" => first | (refine' ne_upd ?knA_77 ?knB_77; (case knA_77 => assumption); (case knB_77 => assumption)) | (refine' ne_upd1 ?knA_77 ?knB_77; (case knA_77 => assumption); (case knB_77 => assumption)) | (refine' ne_upd2 ?knA_77 ?knB_77; (case knA_77 => assumption); (case knB_77 => assumption)) | (refine' ne_upd3 ?knA_77 ?knB_77; (case knA_77 => assumption); (case knB_77 => assumption)) | (refine' ne_upd4 ?knA_77 ?knB_77; (case knA_77 => assumption); (case knB_77 => assumption)) | (refine' ne_upd5 ?knA_77 ?knB_77; (case knA_77 => assumption); (case knB_77 => assumption)) | (refine' ne_upd6 ?knA_77 ?knB_77; (case knA_77 => assumption); (case knB_77 => assumption))
  k_with "call ref" => (k_here; (with_reducible show wpAny _ _ (call (Value.ref 347) _) _ _ _); (k_dflt (refine' Spec.useC (one_spec _ ?u_78 ?ok_78 ?hth_78 ?hne_78 ?h0_78 ?h1_78) ?k1_78 ?k2_78 ?k3_78 ?k4_78 ?k5_78 ?k6_78 ?k7_78 ?k8_78 OnePost.cur ?_; (case k4_78 => k_asm); (case u_78 => k_updF); (case ok_78 => assumption); (case hth_78 => k_mem); (case hne_78 => k_ne); (case h0_78 => exact Nat.succ_pos _); (case h1_78 => (simp only [List.length_cons, List.length_nil]; (try omega))); (case k1_78 => k_asm); (case k2_78 => k_asm); (case k3_78 => k_asm); (case k5_78 => k_asm); (case k6_78 => first | exact rfl | assumption); (case k7_78 => first | omega | ktr_room); (case k8_78 => first | omega | ktr_units))); intro rP kP s0P s1P t0P t1P nP hvP okP hP tkP FP NP; (try dsimp only); (try k_fold))
  k_with "eval ListComp" => (k_here; k_dflt (refine ListComp_PW (by k_asm) (by rfl) (by decide) (by rfl) (by decide) (by rfl) (by rfl) (by decide) ?_))
  k_with "call builtin:max" => (k_here; (with_reducible show wpAny _ _ (call (Value.builtin _) [Value.ref _]) _ _ _); k_dflt (first | (refine' m_max0 (by rfl) ?F_80 ?N_80 ?hl_80 ?hi_80 ?_; (case F_80 => k_asm); (case N_80 => k_asm); (case hl_80 => k_mem); (case hi_80 => assumption)) | (refine' m_max (by rfl) ?F_80 ?N_80 ?hl_80 ?hi_80 ?hne_80 ?_; (case F_80 => k_asm); (case N_80 => k_asm); (case hl_80 => k_mem); (case hi_80 => assumption); (case hne_80 => omega))); intro hM_80 tM_80 kM_80 FM_80 NM_80; (try dsimp only))
  k_with "call type:tuple" => (k_here; (with_reducible show wpAny _ _ (call (Value.type _) [Value.ref _]) _ _ _); k_dflt (refine' kde_tupleOf ?k1_81 ?k2_81 ?k3_81 ?k4_81 ?k5_81 ?_; (case k1_81 => k_asm); (case k2_81 => k_asm); (case k3_81 => exact m_isList (by k_asm) (by k_mem)); (case k4_81 => (simp only [List.size_toArray, List.length_drop, List.length_cons]; omega)); (case k5_81 => exact rfl); k_whole); intro D'_81 h'_81 F'_81 N'_81 l1_81; (try k_lt l1_81); (try k_sweep))
  k_with "binaryOp Add ref ref" => (k_here; (with_reducible show wpAny _ _ (binaryOp Operator.Add (Value.ref _) (Value.ref _)) _ _ _); k_dflt (refine' m_addl ?k1_82 ?k2_82 ?k3_82 ?k4_82 ?k5_82 ?_; (case k1_82 => k_asm); (case k2_82 => k_asm); (case k3_82 => k_mem); (case k4_82 => k_mem); (case k5_82 => (simp only [List.length_cons, List.length_nil]; omega))); intro DA hA FA NA lA; (try dsimp only); (try k_fold))
  k_with "ltAll" => first | assumption | exact tb_ltOf (by assumption) | exact tb_ltOf (And.right (by assumption)) | exact tb_ltOf (And.right (And.right (by assumption))) | exact tb_ltOf (And.right (And.right (And.right (by assumption)))) | exact tb_ltOf (And.right (And.right (And.right (And.right (by assumption))))) | exact tb_ltOf (And.right (And.right (And.right (And.right (And.right (by assumption)))))) | exact tb_ltOf (And.right (And.right (And.right (And.right (And.right (And.right (by assumption))))))) | exact tb_ltOf (And.right (And.right (And.right (And.right (And.right (And.right (And.right (by assumption)))))))) | exact tb_ltOf (And.right (And.right (And.right (And.right (And.right (And.right (And.right (And.right (by assumption))))))))) | exact tb_ltOf (And.right (And.right (And.right (And.right (And.right (And.right (And.right (And.right (And.right (by assumption)))))))))) | exact tb_ltOf (And.right (And.right (And.right (And.right (And.right (And.right (And.right (And.right (And.right (And.right (by assumption))))))))))) | exact tb_ltOf (And.right (And.right (And.right (And.right (And.right (And.right (And.right (And.right (And.right (And.right (And.right (by assumption)))))))))))) | exact tb_ltOf (And.right (And.right (And.right (And.right (And.right (And.right (And.right (And.right (And.right (And.right (And.right (And.right (by assumption))))))))))))) | (refine lt_up (by assumption) ?_; walk_at "ltAll")
  trivial
theorem off1_in' {D : Addr} : ∀ {l : List (Addr × Obj)}, LCg.Off1 D l → ∀ p ∈ l, p.1 ≠ D
  | [], _, _, h => nomatch h
  | _ :: _, h, p, hp => by
    rcases List.mem_cons.mp hp with rfl | hp
    · exact h.1
    · exact off1_in' h.2 p hp
def InL (d : Addr) (news : List (Addr × Obj)) : Prop := ∃ o, (d, o) ∈ news
theorem ne_in {d l : Addr} {news : List (Addr × Obj)} (h : InL d news) (k : AllLt l news) : l ≠ d := by
  obtain ⟨o, ho⟩ := h
  exact Nat.ne_of_gt (tb_ltOf k _ ho)
theorem ne_inA {d l : Addr} {news : List (Addr × Obj)} (h : InL d news) (k : ∀ p ∈ news, p.1 < l) : l ≠ d := by
  obtain ⟨o, ho⟩ := h
  exact Nat.ne_of_gt (k _ ho)
theorem updF_app {d : Addr} {o : Obj} {news tl : List (Addr × Obj)} {g : Obj → List (Addr × Obj)} (h : ∀ p ∈ tl, p.1 ≠ d) (U : UpdF d o news g) : UpdF d o (tl ++ news) (fun o' => tl ++ g o') := by
  induction tl with
  | nil => exact U
  | cons p tl ih => exact .tail (h p (.head _)) (ih fun q hq => h q (.tail _ hq))
theorem ne_nil' {d : Addr} : ∀ p ∈ ([] : List (Addr × Obj)), p.1 ≠ d := fun _ h => nomatch h
theorem ne_cons {d : Addr} {x : Addr × Obj} {tl : List (Addr × Obj)} (h : x.1 ≠ d) (k : ∀ p ∈ tl, p.1 ≠ d) : ∀ p ∈ x :: tl, p.1 ≠ d := fun p hp => (List.mem_cons.mp hp).elim (fun e => e ▸ h) (k p)
theorem ne_app {d : Addr} {tl tl' : List (Addr × Obj)} (h : ∀ p ∈ tl, p.1 ≠ d) (k : ∀ p ∈ tl', p.1 ≠ d) : ∀ p ∈ tl ++ tl', p.1 ≠ d := fun p hp => (List.mem_append.mp hp).elim (h p) (k p)
theorem m_titem {prog : Program} {w : World} {A : Around} {E : Value → Shared → Prop} {s : Shared} {h₀ : Heap} {L l : Addr} {news : List (Addr × Obj)} {value slice : PySem.Expr} {vs : List Value} {n : Nat} {k : Int} {u : Tok} {j : Nat} {x : Value} {Q : Value → Shared → Prop} (N : News h₀ L s.heap news) (hm : (l, tupObj vs n) ∈ news)
    (hlo : -(2 ^ 63) ≤ k) (hhi : k < 2 ^ 63) (hj : seqIndex? k vs.length = some j) (hx : vs[j]? = some x) (h : Q x s)
    (hs : subscripted slice false (.ref l) (.int k u) = operate [.ref l, .int k u] (getItem (.ref l) (.int k u)) := by with_unfolding_all rfl) :
    wpAny (model prog w) A (subscriptTail value slice (.ref l) (.int k u)) Q E s :=
  item_tupleT ⟨_, (N _ hm).1, rfl, n, rfl⟩ hlo hhi hj hx h hs
theorem ne_in1 {P1 : Prop} {d l : Addr} {news : List (Addr × Obj)} (h : InL d news) (k : P1 ∧ AllLt l news) : l ≠ d := ne_in h k.2
theorem ne_in2 {P1 P2 : Prop} {d l : Addr} {news : List (Addr × Obj)} (h : InL d news) (k : P1 ∧ P2 ∧ AllLt l news) : l ≠ d := ne_in h k.2.2
theorem ne_in3 {P1 P2 P3 : Prop} {d l : Addr} {news : List (Addr × Obj)} (h : InL d news) (k : P1 ∧ P2 ∧ P3 ∧ AllLt l news) : l ≠ d := ne_in h k.2.2.2
theorem ne_in4 {P1 P2 P3 P4 : Prop} {d l : Addr} {news : List (Addr × Obj)} (h : InL d news) (k : P1 ∧ P2 ∧ P3 ∧ P4 ∧ AllLt l news) : l ≠ d := ne_in h k.2.2.2.2
theorem ne_in5 {P1 P2 P3 P4 P5 : Prop} {d l : Addr} {news : List (Addr × Obj)} (h : InL d news) (k : P1 ∧ P2 ∧ P3 ∧ P4 ∧ P5 ∧ AllLt l news) : l ≠ d := ne_in h k.2.2.2.2.2
theorem ne_in6 {P1 P2 P3 P4 P5 P6 : Prop} {d l : Addr} {news : List (Addr × Obj)} (h : InL d news) (k : P1 ∧ P2 ∧ P3 ∧ P4 ∧ P5 ∧ P6 ∧ AllLt l news) : l ≠ d := ne_in h k.2.2.2.2.2.2
theorem ne_in7 {P1 P2 P3 P4 P5 P6 P7 : Prop} {d l : Addr} {news : List (Addr × Obj)} (h : InL d news) (k : P1 ∧ P2 ∧ P3 ∧ P4 ∧ P5 ∧ P6 ∧ P7 ∧ AllLt l news) : l ≠ d := ne_in h k.2.2.2.2.2.2.2
theorem ne_in8 {P1 P2 P3 P4 P5 P6 P7 P8 : Prop} {d l : Addr} {news : List (Addr × Obj)} (h : InL d news) (k : P1 ∧ P2 ∧ P3 ∧ P4 ∧ P5 ∧ P6 ∧ P7 ∧ P8 ∧ AllLt l news) : l ≠ d := ne_in h k.2.2.2.2.2.2.2.2
theorem ne_in9 {P1 P2 P3 P4 P5 P6 P7 P8 P9 : Prop} {d l : Addr} {news : List (Addr × Obj)} (h : InL d news) (k : P1 ∧ P2 ∧ P3 ∧ P4 ∧ P5 ∧ P6 ∧ P7 ∧ P8 ∧ P9 ∧ AllLt l news) : l ≠ d := ne_in h k.2.2.2.2.2.2.2.2.2
theorem ne_in10 {P1 P2 P3 P4 P5 P6 P7 P8 P9 P10 : Prop} {d l : Addr} {news : List (Addr × Obj)} (h : InL d news) (k : P1 ∧ P2 ∧ P3 ∧ P4 ∧ P5 ∧ P6 ∧ P7 ∧ P8 ∧ P9 ∧ P10 ∧ AllLt l news) : l ≠ d := ne_in h k.2.2.2.2.2.2.2.2.2.2
theorem ne_in11 {P1 P2 P3 P4 P5 P6 P7 P8 P9 P10 P11 : Prop} {d l : Addr} {news : List (Addr × Obj)} (h : InL d news) (k : P1 ∧ P2 ∧ P3 ∧ P4 ∧ P5 ∧ P6 ∧ P7 ∧ P8 ∧ P9 ∧ P10 ∧ P11 ∧ AllLt l news) : l ≠ d := ne_in h k.2.2.2.2.2.2.2.2.2.2.2
theorem ne_in12 {P1 P2 P3 P4 P5 P6 P7 P8 P9 P10 P11 P12 : Prop} {d l : Addr} {news : List (Addr × Obj)} (h : InL d news) (k : P1 ∧ P2 ∧ P3 ∧ P4 ∧ P5 ∧ P6 ∧ P7 ∧ P8 ∧ P9 ∧ P10 ∧ P11 ∧ P12 ∧ AllLt l news) : l ≠ d := ne_in h k.2.2.2.2.2.2.2.2.2.2.2.2
theorem ne_in13 {P1 P2 P3 P4 P5 P6 P7 P8 P9 P10 P11 P12 P13 : Prop} {d l : Addr} {news : List (Addr × Obj)} (h : InL d news) (k : P1 ∧ P2 ∧ P3 ∧ P4 ∧ P5 ∧ P6 ∧ P7 ∧ P8 ∧ P9 ∧ P10 ∧ P11 ∧ P12 ∧ P13 ∧ AllLt l news) : l ≠ d := ne_in h k.2.2.2.2.2.2.2.2.2.2.2.2.2
theorem inL_of {h₀ h : Heap} {L d : Addr} {o : Obj} {tl news : List (Addr × Obj)} (_N : News h₀ L h (tl ++ news)) (hm : (d, o) ∈ news) : InL d (tl ++ news) := ⟨o, List.mem_append.mpr (.inr hm)⟩
theorem ne_ofP {d : Addr} {o : Obj} {tl news : List (Addr × Obj)} (orP : ∀ q ∈ news, ∀ p ∈ tl, q.1 ≠ p.1) (hm : (d, o) ∈ news) : ∀ p ∈ tl, p.1 ≠ d := fun p hp => Ne.symm (orP _ hm p hp)
theorem AllUpd.inL {d : Addr} {g : Obj → List (Addr × Obj)} (h : AllUpd d g) (o : Obj) : InL d (g o) := ⟨o, h.mem o⟩
def AllSub (small : List (Addr × Obj)) (g : Obj → List (Addr × Obj)) : Prop := ∀ o, ∀ p ∈ small, p ∈ g o
theorem AllSub.get {small : List (Addr × Obj)} {g : Obj → List (Addr × Obj)} (h : AllSub small g) (o : Obj) {p : Addr × Obj} (hp : p ∈ small) : p ∈ g o := h o p hp
theorem words_joined_1 : True := by
  k_with "k_ne" => first | (refine' ne_in ?knA_84 ?knB_84; (case knB_84 => assumption); (case knA_84 => first | assumption | exact AllUpd.inL (by assumption) _ | (refine' Exists.intro ?kw_84 ?kh_84; (case kh_84 => ((repeat (first | exact AllUpd.mem (by assumption) _ | refine List.mem_append.mpr (.inr ?_) | apply List.Mem.tail)); done))))) | (refine' ne_inA ?knA_84 ?knB_84; (case knB_84 => assumption); (case knA_84 => first | assumption | exact AllUpd.inL (by assumption) _ | (refine' Exists.intro ?kw_84 ?kh_84; (case kh_84 => ((repeat (first | exact AllUpd.mem (by assumption) _ | refine List.mem_append.mpr (.inr ?_) | apply List.Mem.tail)); done))))) | (refine' ne_in1 ?knA_84 ?knB_84; (case knB_84 => assumption); (case knA_84 => first | assumption | exact AllUpd.inL (by assumption) _ | (refine' Exists.intro ?kw_84 ?kh_84; (case kh_84 => ((repeat (first | exact AllUpd.mem (by assumption) _ | refine List.mem_append.mpr (.inr ?_) | apply List.Mem.tail)); done))))) | (refine' ne_in2 ?knA_84 ?knB_84; (case knB_84 => assumption); (case knA_84 => first | assumption | exact AllUpd.inL (by assumption) _ | (refine' Exists.intro ?kw_84 ?kh_84; (case kh_84 => ((repeat (first | exact AllUpd.mem (by assumption) _ | refine List.mem_append.mpr (.inr ?_) | apply List.Mem.tail)); done))))) | (refine' ne_in3 ?knA_84 ?knB_84; (case knB_84 => assumption); (case knA_84 => first | assumption | exact AllUpd.inL (by assumption) _ | (refine' Exists.intro ?kw_84 ?kh_84; (case kh_84 => ((repeat (first | exact AllUpd.mem (by assumption) _ | refine List.mem_append.mpr (.inr ?_) | apply List.Mem.tail)); done))))) | (refine' ne_in4 ?knA_84 ?knB_84; (case knB_84 => assumption); (case knA_84 => first | assumption | exact AllUpd.inL (by assumption) _ | (refine' Exists.intro ?kw_84 ?kh_84; (case kh_84 => ((repeat (first | exact AllUpd.mem (by assumption) _ | refine List.mem_append.mpr (.inr ?_) | apply List.Mem.tail)); done))))) | (refine' ne_in5 ?knA_84 ?knB_84; (case knB_84 => assumption); (case knA_84 => first | assumption | exact AllUpd.inL (by assumption) _ | (refine' Exists.intro ?kw_84 ?kh_84; (case kh_84 => ((repeat (first | exact AllUpd.mem (by assumption) _ | refine List.mem_append.mpr (.inr ?_) | apply List.Mem.tail)); done))))) | (refine' ne_in6 ?knA_84 ?knB_84; (case knB_84 => assumption); (case knA_84 => first | assumption | exact AllUpd.inL (by assumption) _ | (refine' Exists.intro ?kw_84 ?kh_84; (case kh_84 => ((repeat (first | exact AllUpd.mem (by assumption) _ | refine List.mem_append.mpr (.inr ?_) | apply List.Mem.tail)); done))))) | (refine' ne_in7 ?knA_84 ?knB_84; (case knB_84 => assumption); (case knA_84 => first | assumption | exact AllUpd.inL (by assumption) _ | (refine' Exists.intro ?kw_84 ?kh_84; (case kh_84 => ((repeat (first | exact AllUpd.mem (by assumption) _ | refine List.mem_append.mpr (.inr ?_) | apply List.Mem.tail)); done))))) | (refine' ne_in8 ?knA_84 ?knB_84; (case knB_84 => assumption); (case knA_84 => first | assumption | exact AllUpd.inL (by assumption) _ | (refine' Exists.intro ?kw_84 ?kh_84; (case kh_84 => ((repeat (first | exact AllUpd.mem (by assumption) _ | refine List.mem_append.mpr (.inr ?_) | apply List.Mem.tail)); done))))) | (refine' ne_in9 ?knA_84 ?knB_84; (case knB_84 => assumption); (case knA_84 => first | assumption | exact AllUpd.inL (by assumption) _ | (refine' Exists.intro ?kw_84 ?kh_84; (case kh_84 => ((repeat (first | exact AllUpd.mem (by assumption) _ | refine List.mem_append.mpr (.inr ?_) | apply List.Mem.tail)); done))))) | (refine' ne_in10 ?knA_84 ?knB_84; (case knB_84 => assumption); (case knA_84 => first | assumption | exact AllUpd.inL (by assumption) _ | (refine' Exists.intro ?kw_84 ?kh_84; (case kh_84 => ((repeat (first | exact AllUpd.mem (by assumption) _ | refine List.mem_append.mpr (.inr ?_) | apply List.Mem.tail)); done))))) | (refine' ne_in11 ?knA_84 ?knB_84; (case knB_84 => assumption); (case knA_84 => first | assumption | exact AllUpd.inL (by assumption) _ | (refine' Exists.intro ?kw_84 ?kh_84; (case kh_84 => ((repeat (first | exact AllUpd.mem (by assumption) _ | refine List.mem_append.mpr (.inr ?_) | apply List.Mem.tail)); done))))) | (refine' ne_in12 ?knA_84 ?knB_84; (case knB_84 => assumption); (case knA_84 => first | assumption | exact AllUpd.inL (by assumption) _ | (refine' Exists.intro ?kw_84 ?kh_84; (case kh_84 => ((repeat (first | exact AllUpd.mem (by assumption) _ | refine List.mem_append.mpr (.inr ?_) | apply List.Mem.tail)); done))))) | (refine' ne_in13 ?knA_84 ?knB_84; (case knB_84 => assumption); (case knA_84 => first | assumption | exact AllUpd.inL (by assumption) _ | (refine' Exists.intro ?kw_84 ?kh_84; (case kh_84 => ((repeat (first | exact AllUpd.mem (by assumption) _ | refine List.mem_append.mpr (.inr ?_) | apply List.Mem.tail)); done))))) | (exact (by assumption : ∀ p ∈ _, p.1 ≠ _) _ (by assumption)) | assumption
  k_with "k_updF" => (refine' updF_app ?ha_85 ?hb_85; (case ha_85 => assumption); (case hb_85 => k_updF))
  k_with "k_updF" => exact AllUpd.get (by assumption) _
  k_with "k_mem" => ((repeat (first | assumption | exact List.Mem.head _ | exact AllSub.get (by assumption) _ (by assumption) | (refine List.mem_append.mpr (.inl ?_); assumption) | refine List.mem_append.mpr (.inr ?_) | apply List.Mem.tail)); done)
  k_with "call ref" => (k_here; (with_reducible show wpAny _ _ (call (Value.ref 376) _) _ _ _); (k_dflt (refine' Spec.useC (step_spec _ (small := small) ?ks_88 ?ka_88 ?kb_88 ?kc_88) ?k1_88 ?k2_88 ?k3_88 ?k4_88 ?k5_88 ?k6_88 ?k7_88 ?k8_88 StepPost.cur ?_; (case k4_88 => k_asm); (case ks_88 => (intro p hp; (repeat (first | exact AllSub.get (by assumption) _ hp | refine List.mem_append.mpr (.inr ?_) | apply List.Mem.tail)); done)); (case ka_88 => k_mem); (case kb_88 => first | exact PrT.take hp _ | exact PrT.drop hp _); (case kc_88 => (simp only [List.length_take, List.length_drop]; omega)); (case k1_88 => k_asm); (case k2_88 => k_asm); (case k3_88 => k_asm); (case k5_88 => k_asm); (case k6_88 => first | exact rfl | assumption); (case k7_88 => first | omega | ktr_room); (case k8_88 => first | omega | ktr_units))); intro tlP RP SP tgP cP orP niP mRP iSP hP tkP FP NP; (k_dflt have neP := ne_ofP (d := src) orP (by repeat (first | exact AllUpd.mem (by assumption) _ | refine List.mem_append.mpr (.inr ?_) | apply List.Mem.tail))); (k_dflt have inP := inL_of (d := src) NP (by repeat (first | exact AllUpd.mem (by assumption) _ | refine List.mem_append.mpr (.inr ?_) | apply List.Mem.tail))); clear orP; (try dsimp only); (try k_fold))
  k_with "subscriptTail Name Constant ref int" => (k_here; k_dflt (first
      | (refine' m_titem ?k1_89 ?k2_89 ?k3_89 ?k4_89 ?k5_89 ?k6_89 ?_ ?k7_89; (case k1_89 => k_asm); (case k2_89 => k_mem); (case k3_89 => decide); (case k4_89 => decide); (case k5_89 => rfl); (case k6_89 => rfl); (case k7_89 => with_unfolding_all rfl); k_whole)
      | (refine' m_item ?k1_89 ?k2_89 ?k3_89 ?k4_89 ?k5_89 ?_ ?k6_89; (case k1_89 => k_asm); (case k2_89 => k_mem); (case k3_89 => omega); (case k4_89 => omega); (case k5_89 => omega); (case k6_89 => with_unfolding_all rfl); k_whole; intro v'_89 hv'_89; (try dsimp only); (try k_fold))))
  k_with "subscriptTail Subscript Constant ref int" => walk_at "subscriptTail Name Constant ref int"
  k_with "subscriptTail Name Slice ref ref" => (k_here; (with_reducible show wpAny _ _ (subscriptTail _ (PySem.Expr.Slice _ _ none _) (Value.ref _) (Value.ref _)) _ _ _); k_dflt (refine' m_slice ?F_91 ?N_91 ?l_91 ?p_91 ?q_91 ?e_91 ?z_91 ?_ ?s_91 ?t_91; (case F_91 => k_asm); (case N_91 => k_asm); (case l_91 => k_mem); (case p_91 => kmk_part); (case q_91 => kmk_part); (case e_91 => first | exact pick_from (by omega) | exact pick_upto (by omega)); (case z_91 => omega); (case s_91 => with_unfolding_all rfl); (case t_91 => kmk_pure)); intro D'_91 h'_91 F'_91 N'_91 l1_91; (try k_lt l1_91); (try k_sweep))
  trivial
theorem m_item_at {prog : Program} {w : World} {A : Around} {E : Value → Shared → Prop} {s : Shared} {h₀ : Heap} {L l : Addr} {news : List (Addr × Obj)} {value slice : PySem.Expr} {vs : List Value} {n : Nat} {k : Int} {u : Tok} {v : Value} {Q : Value → Shared → Prop} (N : News h₀ L s.heap news) (hm : (l, lstObj vs n) ∈ news) (h0 : 0 ≤ k) (hfit : k < 1099511627776)
    (hx : vs[k.toNat]? = some v) (h : Q v s)
    (hs : subscripted slice false (.ref l) (.int k u) = operate [.ref l, .int k u] (getItem (.ref l) (.int k u)) := by with_unfolding_all rfl) :
    wpAny (model prog w) A (subscriptTail value slice (.ref l) (.int k u)) Q E s :=
  tail_any (m_isList N hm).typeIs slot_list_getitem.lookup (wpAny_getItem_list (m_isList N hm) h0 (by omega) (by simpa using hx) h) hs
theorem words_joined_2 : True := by
  k_with "subscriptTail Name Constant ref int" => (k_here; k_dflt (refine' m_item_at ?k1_92 ?k2_92 ?k3_92 ?k4_92 ?k5_92 ?_ ?k6_92; (case k1_92 => k_asm); (case k2_92 => k_mem); (case k3_92 => decide); (case k4_92 => decide); (case k5_92 => exact rfl); (case k6_92 => with_unfolding_all rfl); k_whole))
  trivial
def Stop (P : Prop) : Prop := P
theorem Stop.mk {P : Prop} (h : P) : Stop P := h
theorem Stop.on {P : Prop} (h : Stop P) : P := h
theorem words_joined_3 : True := by
  k_with "execs cons" => (k_here; (with_reducible show wpAny _ _ (execs (Stmt.If _ _ _ _ :: _) _) _ _ _); refine Stop.on ?_)
  trivial
/-- a test's end: what it came to -/
def Came (h₀ : Heap) (L : Addr) (m : Str → Option Value) (news : List (Addr × Obj)) (s : Shared) (bv b : Bool) (s' : Shared) : Prop := b = bv ∧ ∃ h tk, s' = { s with heap := h, toks := tk } ∧ Fr h₀ L h m ∧ News h₀ L h news
section
variable {prog : Program} {w : World} {A : Around} {E : Value → Shared → Prop} {s : Shared} {h₀ : Heap} {L : Addr} {m : Str → Option Value} {env : Env} {news : List (Addr × Obj)} {c : PySem.Expr} {pos : Pos} {b e rest : List Stmt} {Q : Flow → Shared → Prop}
theorem if_yes (F : Fr h₀ L s.heap m) (N : News h₀ L s.heap news) (hc : wpAny (model prog w) A (isTrue c env (eval c env)) (Came h₀ L m news s true) E s)
    (hb : ∀ h tk, Fr h₀ L h m → News h₀ L h news → wpAny (model prog w) A (execs b env) (fun f s' => match f with | .next => wpAny (model prog w) A (execs rest env) Q E s' | f => Q f s') E { s with heap := h, toks := tk }) :
    wpAny (model prog w) A (execs (.If c b e pos :: rest) env) Q E s := by
  refine wpAny_execs_cons (wpAny_If (wpAny_mono hc (fun x s' q => ?_) fun _ _ q => q))
  obtain ⟨rfl, h, tk, rfl, F', N'⟩ := q
  exact hb h tk F' N'
theorem if_no (F : Fr h₀ L s.heap m) (N : News h₀ L s.heap news) (hc : wpAny (model prog w) A (isTrue c env (eval c env)) (Came h₀ L m news s false) E s)
    (hr : ∀ h tk, Fr h₀ L h m → News h₀ L h news → wpAny (model prog w) A (execs rest env) Q E { s with heap := h, toks := tk }) :
    wpAny (model prog w) A (execs (.If c b [] pos :: rest) env) Q E s := by
  refine wpAny_execs_cons (wpAny_If (wpAny_mono hc (fun x s' q => ?_) fun _ _ q => q))
  obtain ⟨rfl, h, tk, rfl, F', N'⟩ := q
  exact wpAny_execs_nil (hr h tk F' N')
end
theorem words_joined_4 : True := by
  k_with "Came" => first | exact ⟨rfl, _, _, rfl, by k_asm, by k_asm⟩ | (exfalso; omega) | exact ⟨by (simp only [decide_eq_true_eq, decide_eq_false_iff_not, beq_iff_eq, beq_eq_false_iff_ne, ne_eq]); omega, _, _, rfl, by k_asm, by k_asm⟩
  trivial
theorem sub_nil {big : List (Addr × Obj)} : ∀ p ∈ ([] : List (Addr × Obj)), p ∈ big := fun _ h => nomatch h
theorem sub_cons {x : Addr × Obj} {tl big : List (Addr × Obj)} (h : x ∈ big) (k : ∀ p ∈ tl, p ∈ big) : ∀ p ∈ x :: tl, p ∈ big := fun p hp => (List.mem_cons.mp hp).elim (fun e => e ▸ h) (k p)
theorem sub_app2 {tl tl' big : List (Addr × Obj)} (h : ∀ p ∈ tl, p ∈ big) (k : ∀ p ∈ tl', p ∈ big) : ∀ p ∈ tl ++ tl', p ∈ big := fun p hp => (List.mem_append.mp hp).elim (h p) (k p)
theorem join_fin {h₀ h : Heap} {L : Addr} {big tl tl' : List (Addr × Obj)} (N : News h₀ L h big) (h1 : ∀ p ∈ tl, p ∈ big) (h2 : ∀ p ∈ tl', p ∈ big) : News h₀ L h (tl ++ tl') := fun p hp => N p (sub_app2 h1 h2 p hp)
theorem ht_mk {k : Kd} {ts : List Tr} : (1 : Int) + (htAll ts : Int) = ((Tr.mk k ts).ht : Int) := by simp only [Tr.ht]; omega
theorem size_mk {k : Kd} {ts : List Tr} : (Tr.mk k ts).size ≤ sizeAll ts + 3 := by simp only [Tr.size]; omega
theorem sizeAll_split (k : Nat) : ∀ ts : List Tr, sizeAll (ts.take k) + sizeAll (ts.drop k) = sizeAll ts := by
  induction k with
  | zero => intro ts; simp [sizeAll]
  | succ k ih =>
    intro ts
    cases ts with
    | nil => simp [sizeAll]
    | cons t ts => have := ih ts; simp only [List.take_succ_cons, List.drop_succ_cons, sizeAll]; omega
theorem up_in {P : Params} {tl small : List (Addr × Obj)} {v : Value} {t : Tr} (h : TrIn P small v t) : TrIn P (tl ++ small) v t := h.mono fun _ hp => List.mem_append.mpr (.inr hp)
theorem up_all {P : Params} {tl small : List (Addr × Obj)} {vs : List Value} {ts : List Tr} (h : TrAll P small vs ts) : TrAll P (tl ++ small) vs ts := h.mono fun _ hp => List.mem_append.mpr (.inr hp)
theorem ne_inst {h₀ h : Heap} {L x C d src : Addr} {s0 s1 : Int} {t0 t1 : Tok} {n : Nat} {big : List (Addr × Obj)} (N : News h₀ L h big) (h1 : (x, instObj C d) ∈ big) (h2 : (src, srcObj s0 s1 t0 t1 n) ∈ big) : (x, instObj C d).1 ≠ src := by
  intro e
  have a := (N _ h1).1
  have b := (N _ h2).1
  dsimp only at a b e
  rw [e, b] at a
  injection a with a
  injection a with a
  cases a
theorem up5L {a b c d e : Addr × Obj} {t1 t2 small : List (Addr × Obj)} : ∀ p ∈ t1 ++ small, p ∈ (a :: b :: c :: d :: e :: (t1 ++ t2)) ++ small := by
  intro p hp
  simp only [List.cons_append, List.append_assoc, List.mem_cons, List.mem_append] at *
  rcases hp with h | h <;> simp only [h, true_or, or_true]
theorem up5R {a b c d e : Addr × Obj} {t1 t2 small : List (Addr × Obj)} : ∀ p ∈ t2 ++ small, p ∈ (a :: b :: c :: d :: e :: (t1 ++ t2)) ++ small := by
  intro p hp
  simp only [List.cons_append, List.append_assoc, List.mem_cons, List.mem_append] at *
  rcases hp with h | h <;> simp only [h, true_or, or_true]
theorem up5 {a b c d e : Addr × Obj} {t1 small : List (Addr × Obj)} : ∀ p ∈ t1 ++ small, p ∈ (a :: b :: c :: d :: e :: t1) ++ small := by
  intro p hp
  simp only [List.cons_append, List.mem_cons, List.mem_append] at *
  rcases hp with h | h <;> simp only [h, true_or, or_true]
theorem str3 {x y z : Str} {a b c : Tok} {k : Nat} {r : Value} (hx : PyData.strOk x = true) (hy : PyData.strOk y = true) (hz : PyData.strOk z = true) (h : [Value.str x a, .str y b, .str z c][k]? = some r) : ∃ n u, r = .str n u ∧ PyData.strOk n = true := by
  match k, h with
  | 0, h => cases h; exact ⟨_, _, rfl, hx⟩
  | 1, h => cases h; exact ⟨_, _, rfl, hy⟩
  | 2, h => cases h; exact ⟨_, _, rfl, hz⟩
theorem none2 {x : Str} {a : Tok} {k : Nat} {r : Value} (h : [Value.none, .str x a][k]? = some r) : r = .none ∨ ∃ u, r = .str x u := by
  match k, h with
  | 0, h => cases h; exact .inl rfl
  | 1, h => cases h; exact .inr ⟨_, rfl⟩
theorem len1 {ts : List Tr} (h : ts.length = 1) : ∃ t, ts = [t] := by
  match ts, h with
  | [t], _ => exact ⟨t, rfl⟩
theorem len2 {ts : List Tr} (h : ts.length = 2) : ∃ t u, ts = [t, u] := by
  match ts, h with
  | [t, u], _ => exact ⟨t, u, rfl⟩
def JoinPost (P : Params) (src : Addr) (small : List (Addr × Obj)) (g : Obj → List (Addr × Obj)) (ts : List Tr) (r : Value) (news' : List (Addr × Obj)) : Prop :=
  ∃ (tl : List (Addr × Obj)) (T node PL : Addr) (hh : Int) (tk : Tok) (c k : Nat) (t : Tr) (pvs : List Value) (s0 s1 : Int) (t0 t1 : Tok) (n : Nat), r = .ref T ∧ news' = tl ++ g (srcObj s0 s1 t0 t1 n) ∧ SrcOk s0 s1 ∧ (∀ p ∈ tl, p.1 ≠ src) ∧ (∀ p ∈ tl, NotIt p) ∧
    (T, tupObj [.ref node, .ref PL, .int hh tk] c) ∈ tl ∧ hh = (t.ht : Int) ∧ TrIn P (tl ++ small) (.ref node) t ∧ (PL, lstObj pvs k) ∈ tl ∧ TrAll P (tl ++ small) pvs t.kids ∧ t.size ≤ sizeAll ts + 3
theorem JoinPost.cur {P : Params} {src : Addr} {small : List (Addr × Obj)} {g : Obj → List (Addr × Obj)} {ts : List Tr} (C : Value → List (Addr × Obj) → Prop)
    (h : ∀ tl T node PL tk c k (t : Tr) pvs s0 s1 t0 t1 n, SrcOk s0 s1 → (∀ p ∈ tl, p.1 ≠ src) → (∀ p ∈ tl, NotIt p) → (T, tupObj [.ref node, .ref PL, .int (t.ht : Int) tk] c) ∈ tl → TrIn P (tl ++ small) (.ref node) t → (PL, lstObj pvs k) ∈ tl → TrAll P (tl ++ small) pvs t.kids → t.size ≤ sizeAll ts + 3 → C (.ref T) (tl ++ g (srcObj s0 s1 t0 t1 n))) : ∀ r n, JoinPost P src small g ts r n → C r n := by
  rintro _ _ ⟨tl, T, node, PL, hh, tk, c, k, t, pvs, s0, s1, t0, t1, n, rfl, rfl, ok, a, b, d, rfl, e, f, g, i⟩
  exact h _ _ _ _ _ _ _ _ _ _ _ _ _ _ ok a b d e f g i
theorem JoinPost.mk {P : Params} {src : Addr} {small : List (Addr × Obj)} {g : Obj → List (Addr × Obj)} {ts : List Tr} (t : Tr) {tl : List (Addr × Obj)} {T node PL : Addr} {hh : Int} {tk : Tok} {c k : Nat} {pvs : List Value} {s0 s1 : Int} {t0 t1 : Tok} {n : Nat}
    (ok : SrcOk s0 s1) (a : ∀ p ∈ tl, p.1 ≠ src) (b : ∀ p ∈ tl, NotIt p) (d : (T, tupObj [.ref node, .ref PL, .int hh tk] c) ∈ tl) (eh : hh = (t.ht : Int)) (e : TrIn P (tl ++ small) (.ref node) t) (f : (PL, lstObj pvs k) ∈ tl) (i : TrAll P (tl ++ small) pvs t.kids) (j : t.size ≤ sizeAll ts + 3) :
    JoinPost P src small g ts (.ref T) (tl ++ g (srcObj s0 s1 t0 t1 n)) := ⟨tl, T, node, PL, hh, tk, c, k, t, pvs, s0, s1, t0, t1, n, rfl, rfl, ok, a, b, d, eh, e, f, i, j⟩
theorem joined_spec (w : World) {src l : Addr} {vs : List Value} {nl : Nat} {ts : List Tr} {s0 s1 : Int} {t0 t1 : Tok} {n : Nat} {small news : List (Addr × Obj)} {g : Obj → List (Addr × Obj)} (U : UpdF src (srcObj s0 s1 t0 t1 n) news g) (ok : SrcOk s0 s1) (hsm : AllSub small g)
    (hl : (l, lstObj vs nl) ∈ small) (hp : PrT w.params small vs ts) (hl0 : 0 < ts.length) (hl3 : ts.length ≤ 3) :
    Spec w 200 2000 381 [.ref src, .ref l] news (JoinPost w.params src small g ts) := by
  intro mean mg mb dp un gd cn cs a ccd cl outer A₀ base h₀ L m s Q E B F X N T hk hdp hun hret
  have hvl := hp.length
  have e := updF_self U
  have hU := updF_all U
  subst e
  clear U
  refine wpAny_call ?_
  k_dflt ktr_enter
  k_steps
  refine compPair (fun i ys => TrAll w.params small ys (ts.take i)) (by rfl) (by k_asm) (by k_asm) (by k_mem) (by omega) hp (fun p hp => by first | exact hsm _ p hp | exact .tail _ (hsm _ p hp)) .nil ?_ ?_
  · intro i ys v t tkk I oI C oC D m₂ h tk E' R9 hR9 j ht hv hC hx hx2 F9 N9 off9 ne9
    k_steps
    exact hR9 _ _ (LCg.CompEnd.intro (by k_asm) (by k_asm) _ (fun p hp => hp) off9 (.inr ⟨_, by k_mem, rfl, _, rfl⟩) ⟨rfl, j.snoc' ht hv⟩)
  · intro g9 ys j
    rw [List.take_length] at j
    have hyl := j.length
    intro D1 h9 tk9 F9 N9' off9
    have hD1 : D1 ≠ src := Ne.symm (off1_in' off9 (src, _) (hU.mem _))
    have N9 := N9'
    dsimp only [LCg.lst] at N9
    clear N9'
    k_steps
    refine compPair (fun i ys => IntsAre ys ((ts.take i).map fun t => (t.ht : Int))) (by rfl) (by k_asm) (by k_asm) (by k_mem) (by omega) hp (fun p hp => by repeat (first | exact hsm _ p hp | apply List.Mem.tail)) .nil ?_ ?_
    · intro i ys v t tkk I oI C oC D m₂ h tk E' R9 hR9 j ht hv hC hx hx2 F9 N9 off9 ne9
      k_steps
      exact hR9 _ _ (LCg.CompEnd.intro (by k_asm) (by k_asm) _ (fun p hp => hp) off9 (.inr ⟨_, by k_mem, rfl, _, rfl⟩) ⟨rfl, hts_snoc j ht⟩)
    · intro g8 ys2 j2
      rw [List.take_length] at j2
      intro D2 h9 tk9 F9 N9' off9b
      have hD2 : D2 ≠ src := Ne.symm (off1_in' off9b (src, _) (.tail _ (.tail _ (hU.mem _))))
      have N9 := N9'
      dsimp only [LCg.lst] at N9
      clear N9'
      k_steps
      refine Stop.mk ?_
      try dsimp only
      by_cases c1 : k' < 2 ∧ (vs.length : Int) = 2
      · refine if_yes (by k_asm) (by k_asm) ?_ ?_
        · k_steps
        · intro h8 tk8 F8 N8
          obtain ⟨t1, t2, rfl⟩ := len2 (ts := ts) (by omega)
          cases j with
          | cons a j =>
          cases j with
          | cons b j =>
          cases j
          k_steps
          obtain ⟨nB, uB, rfl, okB⟩ := str3 (by decide +kernel) (by decide +kernel) (by decide +kernel) hvP
          rename News h₀ _ _ _ => N10
          exact hret _ (((_, tupObj [.ref _, .ref _, .int _ _] _) :: (_, instObj 184 _) :: (_, dictOf [(ent w.params (Str.ofString "op") _ _), (ent w.params (Str.ofString "left") _ _), (ent w.params (Str.ofString "right") _ _)] _) :: (_, lstObj [_, _] _) :: []) ++ g (srcObj _ _ _ _ _)) _ _ (by k_asm)
            (join_fin N10 (sub_cons (by k_mem) (sub_cons (by k_mem) (sub_cons (by k_mem) (sub_cons (by k_mem) (sub_nil))))) (fun p hp => by repeat (first | exact hp | refine List.mem_append.mpr (.inr ?_) | apply List.Mem.tail)))
            (.mk (.mk (.bin nB) [t1, t2]) (by assumption) (ne_cons (by k_ne) (ne_cons (ne_inst N10 (by k_mem) (by repeat (first | exact AllUpd.mem hU _ | refine List.mem_append.mpr (.inr ?_) | apply List.Mem.tail))) (ne_cons (by k_ne) (ne_cons (by k_ne) (ne_nil'))))) (not_cons not_tup (not_cons not_inst (not_cons not_dict (not_cons not_lst (not_nil))))) (.head _) (ht_mk) (.bin (.tail _ (.head _)) (.tail _ (.tail _ (.head _))) okB (up_in a) (up_in b)) (.tail _ (.tail _ (.tail _ (.head _)))) (.cons (up_in a) (.cons (up_in b) .nil)) (size_mk))
      · refine if_no (by k_asm) (by k_asm) ?_ ?_
        · k_steps
        · intro h8 tk8 F8 N8
          by_cases c2 : k' < 2 ∧ (vs.length : Int) = 1
          · refine if_yes (by k_asm) (by k_asm) ?_ ?_
            · k_steps
            · intro h7 tk7 F7 N7
              obtain ⟨t1, rfl⟩ := len1 (ts := ts) (by omega)
              cases j with
              | cons a j =>
              cases j
              k_steps
              rename News h₀ _ _ _ => N10
              exact hret _ (((_, tupObj [.ref _, .ref _, .int _ _] _) :: (_, instObj 212 _) :: (_, dictOf [(ent w.params (Str.ofString "value") _ _)] _) :: (_, lstObj [_] _) :: []) ++ g (srcObj _ _ _ _ _)) _ _ (by k_asm)
                (join_fin N10 (sub_cons (by k_mem) (sub_cons (by k_mem) (sub_cons (by k_mem) (sub_cons (by k_mem) (sub_nil))))) (fun p hp => by repeat (first | exact hp | refine List.mem_append.mpr (.inr ?_) | apply List.Mem.tail)))
                (.mk (.mk .neg [t1]) (by assumption) (ne_cons (by k_ne) (ne_cons (ne_inst N10 (by k_mem) (by repeat (first | exact AllUpd.mem hU _ | refine List.mem_append.mpr (.inr ?_) | apply List.Mem.tail))) (ne_cons (by k_ne) (ne_cons (by k_ne) (ne_nil'))))) (not_cons not_tup (not_cons not_inst (not_cons not_dict (not_cons not_lst (not_nil))))) (.head _) (ht_mk) (.neg (.tail _ (.head _)) (.tail _ (.tail _ (.head _))) (up_in a)) (.tail _ (.tail _ (.tail _ (.head _)))) (.cons (up_in a) .nil) (size_mk))
          · refine if_no (by k_asm) (by k_asm) ?_ ?_
            · k_steps
            · intro h7 tk7 F7 N7
              by_cases c3 : k' = 2 ∧ (vs.length : Int) > 1
              · refine if_yes (by k_asm) (by k_asm) ?_ ?_
                · k_steps
                · intro h6 tk6 F6 N6
                  cases j with
                  | nil => cases hl0
                  | cons a j =>
                  have hyl2 := hyl
                  have hl32 := hl3
                  simp only [List.length_cons] at hyl2 hl32
                  k_steps
                  rename News h₀ _ _ _ => N10
                  exact hret _ (((_, tupObj [.ref _, .ref _, .int _ _] _) :: (_, instObj 240 _) :: (_, dictOf [(ent w.params (Str.ofString "base") _ _), (ent w.params (Str.ofString "predicates") _ _)] _) :: (_, tupObj _ _) :: (_, lstObj _ _) :: []) ++ g (srcObj _ _ _ _ _)) _ _ (by k_asm)
                    (join_fin N10 (sub_cons (by k_mem) (sub_cons (by k_mem) (sub_cons (by k_mem) (sub_cons (by k_mem) (sub_cons (by k_mem) (sub_nil)))))) (fun p hp => by repeat (first | exact hp | refine List.mem_append.mpr (.inr ?_) | apply List.Mem.tail)))
                    (.mk (.mk .filt (_ :: _)) (by assumption) (ne_cons (by k_ne) (ne_cons (ne_inst N10 (by k_mem) (by repeat (first | exact AllUpd.mem hU _ | refine List.mem_append.mpr (.inr ?_) | apply List.Mem.tail))) (ne_cons (by k_ne) (ne_cons (by k_ne) (ne_cons (by k_ne) (ne_nil')))))) (not_cons not_tup (not_cons not_inst (not_cons not_dict (not_cons not_tup (not_cons not_lst (not_nil)))))) (.head _) (ht_mk) (.filt (.tail _ (.head _)) (.tail _ (.tail _ (.head _))) (.tail _ (.tail _ (.tail _ (.head _)))) (up_in a) (up_all j)) (.tail _ (.tail _ (.tail _ (.tail _ (.head _))))) (.cons (up_in a) (up_all j)) (size_mk))
              · refine if_no (by k_asm) (by k_asm) ?_ ?_
                · k_steps
                · intro h6 tk6 F6 N6
                  by_cases c4 : k' = 3 ∨ k' = 4
                  · refine if_yes (by k_asm) (by k_asm) ?_ ?_
                    · k_steps
                    · intro h5 tk5 F5 N5
                      k_steps
                      rename News h₀ _ _ _ => N10
                      rename TrIn w.params (_ ++ small) _ (.mk .step (List.take _ _)) => i1
                      rcases none2 hvP with rfl | ⟨uR, rfl⟩
                      · exact hret _ (((_, tupObj [.ref _, .ref _, .int _ _] _) :: (_, instObj 268 _) :: (_, dictOf [(ent w.params (Str.ofString "start") _ _), (ent w.params (Str.ofString "steps") _ _)] _) :: (_, tupObj _ _) :: (_, lstObj [_, _] _) :: (tlP ++ _)) ++ g (srcObj _ _ _ _ _)) _ _ (by k_asm)
                          (join_fin N10 (sub_cons (by k_mem) (sub_cons (by k_mem) (sub_cons (by k_mem) (sub_cons (by k_mem) (sub_cons (by k_mem) (sub_app2 (fun p hp => by repeat (first | exact List.mem_append.mpr (.inl hp) | apply List.Mem.tail)) (fun p hp => by repeat (first | exact List.mem_append.mpr (.inl hp) | (refine List.mem_append.mpr (.inr (List.Mem.tail _ (List.mem_append.mpr (.inl ?_)))); exact hp) | apply List.Mem.tail)))))))) (fun p hp => by repeat (first | exact hp | refine List.mem_append.mpr (.inr ?_) | apply List.Mem.tail)))
                          (.mk (.mk .pathN [.mk .step (List.take (Int.toNat 1) ts), .mk .step (List.drop (Int.toNat 1) ts)]) (by assumption) (ne_cons (by k_ne) (ne_cons (ne_inst N10 (by k_mem) (by repeat (first | exact AllUpd.mem hU _ | refine List.mem_append.mpr (.inr ?_) | apply List.Mem.tail))) (ne_cons (by k_ne) (ne_cons (by k_ne) (ne_cons (by k_ne) (ne_app neP (by assumption))))))) (not_cons not_tup (not_cons not_inst (not_cons not_dict (not_cons not_tup (not_cons not_lst (not_app niP (by assumption))))))) (.head _) (by (simp only [Tr.ht, htAll]); split <;> omega) (.pathN (.tail _ (.head _)) (.tail _ (.tail _ (.head _))) (.tail _ (.tail _ (.tail _ (.head _)))) (.cons (i1.mono up5R) (.cons (iSP.mono up5L) .nil))) (.tail _ (.tail _ (.tail _ (.tail _ (.head _))))) (.cons (i1.mono up5R) (.cons (iSP.mono up5L) .nil)) (by (have z := sizeAll_split (Int.toNat 1) ts); (simp only [Tr.size, sizeAll]); omega))
                      · exact hret _ (((_, tupObj [.ref _, .ref _, .int _ _] _) :: (_, instObj 268 _) :: (_, dictOf [(ent w.params (Str.ofString "start") _ _), (ent w.params (Str.ofString "steps") _ _)] _) :: (_, tupObj _ _) :: (_, lstObj [_, _] _) :: (tlP ++ _)) ++ g (srcObj _ _ _ _ _)) _ _ (by k_asm)
                          (join_fin N10 (sub_cons (by k_mem) (sub_cons (by k_mem) (sub_cons (by k_mem) (sub_cons (by k_mem) (sub_cons (by k_mem) (sub_app2 (fun p hp => by repeat (first | exact List.mem_append.mpr (.inl hp) | apply List.Mem.tail)) (fun p hp => by repeat (first | exact List.mem_append.mpr (.inl hp) | (refine List.mem_append.mpr (.inr (List.Mem.tail _ (List.mem_append.mpr (.inl ?_)))); exact hp) | apply List.Mem.tail)))))))) (fun p hp => by repeat (first | exact hp | refine List.mem_append.mpr (.inr ?_) | apply List.Mem.tail)))
                          (.mk (.mk .pathR [.mk .step (List.take (Int.toNat 1) ts), .mk .step (List.drop (Int.toNat 1) ts)]) (by assumption) (ne_cons (by k_ne) (ne_cons (ne_inst N10 (by k_mem) (by repeat (first | exact AllUpd.mem hU _ | refine List.mem_append.mpr (.inr ?_) | apply List.Mem.tail))) (ne_cons (by k_ne) (ne_cons (by k_ne) (ne_cons (by k_ne) (ne_app neP (by assumption))))))) (not_cons not_tup (not_cons not_inst (not_cons not_dict (not_cons not_tup (not_cons not_lst (not_app niP (by assumption))))))) (.head _) (by (simp only [Tr.ht, htAll]); split <;> omega) (.pathR (.tail _ (.head _)) (.tail _ (.tail _ (.head _))) (.tail _ (.tail _ (.tail _ (.head _)))) (.cons (i1.mono up5R) (.cons (iSP.mono up5L) .nil))) (.tail _ (.tail _ (.tail _ (.tail _ (.head _))))) (.cons (i1.mono up5R) (.cons (iSP.mono up5L) .nil)) (by (have z := sizeAll_split (Int.toNat 1) ts); (simp only [Tr.size, sizeAll]); omega))
                  · refine if_no (by k_asm) (by k_asm) ?_ ?_
                    · k_steps
                    · intro h5 tk5 F5 N5
                      by_cases c5 : k' = 5
                      · refine if_yes (by k_asm) (by k_asm) ?_ ?_
                        · k_steps
                        · intro h4 tk4 F4 N4
                          cases j with
                          | nil => cases hl0
                          | cons a j =>
                          have hp0 := hp
                          cases hp0 with
                          | cons hq0 hT0 hp1 =>
                          obtain ⟨b0, rfl⟩ := a.ref
                          k_steps
                          rename News h₀ _ _ _ => N10
                          exact hret _ (((_, tupObj [.ref _, .ref _, .int _ _] _) :: (_, instObj 268 _) :: (_, dictOf [(ent w.params (Str.ofString "start") _ _), (ent w.params (Str.ofString "steps") _ _)] _) :: (_, tupObj _ _) :: (_, lstObj [_, _] _) :: tlP) ++ g (srcObj _ _ _ _ _)) _ _ (by k_asm)
                            (join_fin N10 (sub_cons (by k_mem) (sub_cons (by k_mem) (sub_cons (by k_mem) (sub_cons (by k_mem) (sub_cons (by k_mem) ((fun p hp => by repeat (first | exact List.mem_append.mpr (.inl hp) | apply List.Mem.tail)))))))) (fun p hp => by repeat (first | exact hp | refine List.mem_append.mpr (.inr ?_) | apply List.Mem.tail)))
                            (.mk (.mk .pathT [_, .mk .step (List.drop (Int.toNat 1) (_ :: _))]) (by assumption) (ne_cons (by k_ne) (ne_cons (ne_inst N10 (by k_mem) (by repeat (first | exact AllUpd.mem hU _ | refine List.mem_append.mpr (.inr ?_) | apply List.Mem.tail))) (ne_cons (by k_ne) (ne_cons (by k_ne) (ne_cons (by k_ne) (neP)))))) (not_cons not_tup (not_cons not_inst (not_cons not_dict (not_cons not_tup (not_cons not_lst (niP)))))) (.head _) (by (simp only [Tr.ht, htAll]); split <;> omega) (.pathT (.tail _ (.head _)) (.tail _ (.tail _ (.head _))) (.tail _ (.tail _ (.tail _ (.head _)))) (up_in a) (.cons (iSP.mono (up5)) .nil)) (.tail _ (.tail _ (.tail _ (.tail _ (.head _))))) (.cons (up_in a) (.cons (iSP.mono (up5)) .nil)) (by (simp only [Tr.size, sizeAll, show Int.toNat 1 = 1 from rfl, List.drop_succ_cons, List.drop_zero]); omega))
                      · refine if_no (by k_asm) (by k_asm) ?_ ?_
                        · k_steps
                        · intro h4 tk4 F4 N4
                          k_steps
                          rename News h₀ _ _ _ => N10
                          exact hret _ (((_, tupObj [.ref _, .ref _, .int _ _] _) :: (_, instObj 156 _) :: (_, dictOf [(ent w.params (Str.ofString "name") _ _), (ent w.params (Str.ofString "arguments") _ _)] _) :: (_, tupObj _ _) :: (_, lstObj _ _) :: []) ++ g (srcObj _ _ _ _ _)) _ _ (by k_asm)
                            (join_fin N10 (sub_cons (by k_mem) (sub_cons (by k_mem) (sub_cons (by k_mem) (sub_cons (by k_mem) (sub_cons (by k_mem) (sub_nil)))))) (fun p hp => by repeat (first | exact hp | refine List.mem_append.mpr (.inr ?_) | apply List.Mem.tail)))
                            (.mk (.mk (.call (Str.ofString "f")) ts) (by assumption) (ne_cons (by k_ne) (ne_cons (ne_inst N10 (by k_mem) (by repeat (first | exact AllUpd.mem hU _ | refine List.mem_append.mpr (.inr ?_) | apply List.Mem.tail))) (ne_cons (by k_ne) (ne_cons (by k_ne) (ne_cons (by k_ne) (ne_nil')))))) (not_cons not_tup (not_cons not_inst (not_cons not_dict (not_cons not_tup (not_cons not_lst (not_nil)))))) (.head _) (ht_mk) (.call (.tail _ (.head _)) (.tail _ (.tail _ (.head _))) (.tail _ (.tail _ (.tail _ (.head _)))) (by decide +kernel) (up_all j)) (.tail _ (.tail _ (.tail _ (.tail _ (.head _))))) (up_all j) (size_mk))

theorem words_rng_0 : True := by
  k_with_none
  k_with "k_all" => exact List.forall_mem_append.mpr ⟨by k_all, by k_all⟩
  k_with "k_all" => exact tbn_neAll (by assumption)
  k_with "k_all" => assumption
  k_with "k_updF" => assumption
  k_with "k_mem" => assumption
  k_with "k_room" => ktr_room
  trivial
section
variable {prog : Program} {w : World} {A : Around} {E : Value → Shared → Prop} {s : Shared} {env : Env} {h₀ : Heap} {x : Str} {body : List Stmt} {Q : Flow → Shared → Prop}
def WRng (prog : Program) (w : World) (A : Around) (E : Value → Shared → Prop) (h₀ : Heap) (env : Env) (x : Str) (body : List Stmt) (Q : Flow → Shared → Prop) (s : Shared) (I : Addr) (a : Int) (n : Nat) (m : Str → Option Value) (news : List (Addr × Obj)) : Prop := RangeRest prog w A E h₀ env x body Q s I a n n 0 m news
theorem iter_rangeW {r : Addr} {a₀ b₀ : Int} {t₀ u₀ v₀ : Tok} {m₀ : Str → Option Value} {news : List (Addr × Obj)}
    (hh : A.handled = none) (hr : IsRange s.heap r a₀ b₀ 1 t₀ u₀ v₀) (hsmall : Builtin.Range.small a₀ b₀ 1 = true) (F : Fr h₀ env.locals s.heap m₀) (N : News h₀ env.locals s.heap news)
    (rest₀ : ∀ I : Addr, WRng prog w A E h₀ env x body Q s I a₀ (b₀ - a₀).toNat m₀ news) :
    wpAny (model prog w) A (pyIter (.ref r)) (fun it s₂ => LoopAtV prog w A h₀ env x body Q E it s₂) E s := iter_rangeUnr hh hr hsmall (rangeSize_nat _ _) F N fun I _ => rest₀ I
theorem wrng_ind {I : Addr} {a : Int} {n : Nat} (J : Nat → (Str → Option Value) → List (Addr × Obj) → Prop)
    (step : ∀ i it t h tk (R : Flow → Shared → Prop), (∀ s', UnrEnd h₀ env.locals { s with heap := h, toks := tk } I it (fun m' news' => J (i + 1) m' news') s' → R .next s') → i < n → it.cls = .type "range_iterator" → ∀ m news, J i m news → Fr h₀ env.locals h (fun y => if y = x then some (.int (a + (i : Int)) t) else m y) → News h₀ env.locals h ((I, it) :: news) →
      wpAny (model prog w) A (execs body env) R E { s with heap := h, toks := tk })
    (fin : ∀ h tk m news, J n m news → Fr h₀ env.locals h m → News h₀ env.locals h news → Q .next { s with heap := h, toks := tk }) {m : Str → Option Value} {news : List (Addr × Obj)} (j : J 0 m news) : WRng prog w A E h₀ env x body Q s I a n m news := by
  have go : ∀ k i m news, i + k = n → J i m news → RangeRest prog w A E h₀ env x body Q s I a n k i m news := by
    intro k
    induction k with
    | zero => intro i m news e j; exact RangeRest.zero fun h tk F N => fin h tk m news (by rw [← e, Nat.add_zero]; exact j) F N
    | succ k ih =>
      intro i m news e j
      refine RangeRest.succ fun t h tk F N => wpAny_mono (step i _ t h tk (UnrPost h₀ env.locals { s with heap := h, toks := tk } I _ (fun m' news' => J (i + 1) m' news') Q) (fun _ q => q) (by omega) rfl m news j F N) (fun f s₂ q => ?_) fun _ _ q => q
      cases f with
      | next => obtain ⟨h', tk', m', nw, e', F', N', ho, j'⟩ := q; exact ⟨h', tk', m', nw, e', F', N', ho, ih (i + 1) m' nw (by omega) j'⟩
      | cont => obtain ⟨h', tk', m', nw, e', F', N', ho, j'⟩ := q; exact ⟨h', tk', m', nw, e', F', N', ho, ih (i + 1) m' nw (by omega) j'⟩
      | brk => exact q
      | ret v => exact q
  exact go n 0 m news (by omega) j
end
/-- what is no iterator lies apart from the iterator -/
theorem off_it {h₀ h : Heap} {L I : Addr} {it : Obj} {big l : List (Addr × Obj)} (N : News h₀ L h big) (hI : (I, it) ∈ big) (hc : it.cls = .type "range_iterator") (hs : ∀ p ∈ l, p ∈ big) (hn : ∀ p ∈ l, NotIt p) : ∀ p ∈ l, p.1 ≠ I := by
  intro p hp e
  have a := (N _ (hs p hp)).1
  have b := (N _ hI).1
  dsimp only at b
  rw [e, b] at a
  injection a with a
  exact hn p hp (by rw [← a]; exact hc)

theorem words_law_0 : True := by
  k_with_none
  k_with "k_all" => exact List.forall_mem_append.mpr ⟨by k_all, by k_all⟩
  k_with "k_all" => exact tbn_neAll (by assumption)
  k_with "k_all" => assumption
  k_with "k_updF" => assumption
  k_with "k_mem" => assumption
  k_with "k_room" => ktr_room
  k_with "call ref" => (k_here; (with_reducible show wpAny _ _ (call (Value.ref 340) _) _ _ _); (k_dflt (refine' Spec.useC (f := 340) (take_spec _ ?u_95 ?ok_95 ?ht_95 ?ht2_95) ?k1_95 ?k2_95 ?k3_95 ?k4_95 ?k5_95 ?k6_95 ?k7_95 ?k8_95 TakePost.cur ?_; (case k4_95 => k_asm); (case u_95 => k_updF); (case ok_95 => assumption); (case ht_95 => first | omega | decide); (case ht2_95 => first | omega | decide); (case k1_95 => k_asm); (case k2_95 => k_asm); (case k3_95 => k_asm); (case k5_95 => k_asm); (case k6_95 => first | exact rfl | assumption); (case k7_95 => first | omega | ktr_room); (case k8_95 => first | omega | ktr_units))); intro k' kt' s0' s1' t0' t1' n' hk0' hk1' ok' h' tk' F' N'; (try dsimp only); (try k_fold))
  k_with "ltAll" => first | assumption | exact tb_ltOf (by assumption) | exact tb_ltOf (And.right (by assumption)) | exact tb_ltOf (And.right (And.right (by assumption))) | exact tb_ltOf (And.right (And.right (And.right (by assumption)))) | exact tb_ltOf (And.right (And.right (And.right (And.right (by assumption))))) | exact tb_ltOf (And.right (And.right (And.right (And.right (And.right (by assumption)))))) | exact tb_ltOf (And.right (And.right (And.right (And.right (And.right (And.right (by assumption))))))) | exact tb_ltOf (And.right (And.right (And.right (And.right (And.right (And.right (And.right (by assumption)))))))) | exact tb_ltOf (And.right (And.right (And.right (And.right (And.right (And.right (And.right (And.right (by assumption))))))))) | exact tb_ltOf (And.right (And.right (And.right (And.right (And.right (And.right (And.right (And.right (And.right (by assumption)))))))))) | exact tb_ltOf (And.right (And.right (And.right (And.right (And.right (And.right (And.right (And.right (And.right (And.right (by assumption))))))))))) | exact tb_ltOf (And.right (And.right (And.right (And.right (And.right (And.right (And.right (And.right (And.right (And.right (And.right (by assumption)))))))))))) | exact tb_ltOf (And.right (And.right (And.right (And.right (And.right (And.right (And.right (And.right (And.right (And.right (And.right (And.right (by assumption))))))))))))) | (refine lt_up (by assumption) ?_; walk_at "ltAll")
  k_with "memx" => ((iterate 24 (first | done | assumption | exact List.Mem.head _ | exact AllSub.get (by assumption) _ (by assumption) | (refine List.mem_append.mpr (.inl ?_); assumption) | refine List.mem_append.mpr (.inr ?_) | apply List.Mem.tail | skip)); done)
  trivial
theorem Spec.up {w : World} {D U D' U' : Nat} {f : Addr} {args : List Value} {news : List (Addr × Obj)} {Post : Value → List (Addr × Obj) → Prop} (C : Spec w D U f args news Post) (hD : D ≤ D') (hU : U ≤ U') : Spec w D' U' f args news Post := by
  intro mean mg mb dp un gd cn cs a ccd cl outer A₀ base h₀ L m s Q E B F X N T hk hdp hun hret
  exact C.use B F X N T hk (by omega) (by omega) hret
theorem news_swap {h₀ h : Heap} {L : Addr} {a b : List (Addr × Obj)} (N : News h₀ L h (a ++ b)) : News h₀ L h (b ++ a) := fun p hp => N p (by
  rcases List.mem_append.mp hp with hp | hp
  · exact List.mem_append.mpr (.inr hp)
  · exact List.mem_append.mpr (.inl hp))
theorem mem_swap {p : Addr × Obj} {a b : List (Addr × Obj)} (h : p ∈ a ++ b) : p ∈ b ++ a := (List.mem_append.mp h).elim (fun h => List.mem_append.mpr (.inr h)) fun h => List.mem_append.mpr (.inl h)
theorem rows_okA {w : World} {ts : List Tr} (h : sizeAll ts ≤ 60) : ∀ t ∈ ts, RowOk w t := fun t ht => row_spec w 1000 t (by
  obtain ⟨i, hi⟩ := List.mem_iff_getElem?.mp ht
  have := size_get hi
  omega) (Nat.le_refl _)
mutual
theorem ht_size : ∀ t : Tr, t.ht ≤ t.size
  | .mk _ ts => by have := htAll_size ts; simp only [Tr.ht, Tr.size]; omega
theorem htAll_size : ∀ ts : List Tr, htAll ts ≤ sizeAll ts
  | [] => Nat.le_refl _
  | t :: ts => by have := ht_size t; have := htAll_size ts; simp only [htAll, sizeAll]; omega
end
theorem rowsT (w : World) {p : Addr} {vs : List Value} {c : Nat} {ts : List Tr} {small big : List (Addr × Obj)} (R : TrAll w.params small vs ts) (hsub : ∀ p ∈ small, p ∈ big) (hp : (p, tupObj vs c) ∈ big) (hsz : sizeAll ts ≤ 60) :
    Spec w 300 3000 371 [.ref p] big (RowsPost small big (rowAll ts)) := by
  have h1 := htAll_size ts
  have h2 := len_ht ts
  exact (lawrowsT_spec w hsub hp R (by omega) (rows_okA hsz)).up (by omega) (by omega)
theorem rowsL (w : World) {p : Addr} {vs : List Value} {c : Nat} {ts : List Tr} {small big : List (Addr × Obj)} (R : TrAll w.params small vs ts) (hsub : ∀ p ∈ small, p ∈ big) (hp : (p, lstObj vs c) ∈ big) (hsz : sizeAll ts ≤ 60) :
    Spec w 300 3000 371 [.ref p] big (RowsPost small big (rowAll ts)) := by
  have h1 := htAll_size ts
  have h2 := len_ht ts
  exact (lawrowsL_spec w hsub hp R (by omega) (rows_okA hsz)).up (by omega) (by omega)
theorem sub_app3 {a b c : List (Addr × Obj)} (h : ∀ p ∈ a, p ∈ c) : ∀ p ∈ a, p ∈ b ++ c := fun p hp => List.mem_append.mpr (.inr (h p hp))
theorem lawJoin {prog : Program} {w : World} {A : Around} {E : Value → Shared → Prop} {h h₀ : Heap} {gs : Array GenState} {dr : Drawn} {tk : Nat} {os : OsState} {L : Addr} {m : Str → Option Value} {body : List Stmt} {env : Env} {Q : Flow → Shared → Prop} {news : List (Addr × Obj)} (_F : Fr h₀ L h m) (_N : News h₀ L h news)
    (tail : ∀ h' tk' m', Fr h₀ L h' m' → Q (.ret (.bool true)) ⟨h', gs, dr, tk', os⟩)
    (hE : PassesOwn (model prog w) A env E)
    (front : ∀ (gs : Array GenState) (dr : Drawn) (os : OsState) (tk : Nat) (Q : Flow → Shared → Prop) (E : Value → Shared → Prop), PassesOwn (model prog w) A env E → (∀ h' tk' m', Fr h₀ L h' m' → Q (.ret (.bool true)) ⟨h', gs, dr, tk', os⟩) → wpAny (model prog w) A (execs body env) Q E ⟨h, gs, dr, tk, os⟩) : wpAny (model prog w) A (execs body env) Q E ⟨h, gs, dr, tk, os⟩ := front gs dr os tk Q E hE tail
open PySem.SeqAt in
theorem m_ne_tup0 {prog : Program} {w : World} {A : Around} {E : Value → Shared → Prop} {s : Shared} {h₀ : Heap} {L l e : Addr} {news : List (Addr × Obj)} {n : Nat} {Q : Value → Shared → Prop} (N : News h₀ L s.heap news) (hl : (l, tupObj [] n) ∈ news) (he : s.heap.IsTuple e #[]) (hu : A.units < cLine) (h : Q (.bool false) s) :
    wpAny (model prog w) A (compareOp .NotEq (.ref l) (.ref e)) Q E s :=
  RcNeAt.tuples (items := #[]) (items2 := #[]) (e := fun _ => true) ⟨_, (N _ hl).1, rfl, n, rfl⟩ he hu (fun j h1 => absurd h1 (Nat.not_lt_zero _)) prog w E Q h
theorem news_skip {h₀ h : Heap} {L : Addr} {x : Addr × Obj} {l r : List (Addr × Obj)} (N : News h₀ L h (l ++ x :: r)) : News h₀ L h (x :: (l ++ r)) := fun p hp => N p (by
  rcases List.mem_cons.mp hp with rfl | hp
  · exact List.mem_append.mpr (.inr (.head _))
  · exact (List.mem_append.mp hp).elim (fun h => List.mem_append.mpr (.inl h)) fun h => List.mem_append.mpr (.inr (.tail _ h)))
def lv5 : List Tr := [.mk (.var (Str.ofString "a")) [], .mk (.var (Str.ofString "b")) [], .mk (.lit (Str.ofString "c")) [], .mk .num [], .mk (.var (Str.ofString "e")) []]
def lv7 : List Tr := lv5 ++ [.mk (.call (Str.ofString "last")) [], .mk .pathR []]
theorem lv7_ht : ∀ t ∈ lv7, t.ht = 1 := by
  intro t h
  simp only [lv7, lv5, List.cons_append, List.nil_append, List.mem_cons, List.not_mem_nil, or_false] at h
  rcases h with rfl | rfl | rfl | rfl | rfl | rfl | rfl <;> rfl
theorem lv7_size : sizeAll lv7 = 7 := rfl
theorem start7 {P : Params} {h₀ h : Heap} {L l S : Addr} {o : Obj} {front small : List (Addr × Obj)} {vs : List Value} {n : Nat} {ts : List Tr} (N : News h₀ L h (front ++ (S, o) :: small)) (hl : (l, lstObj vs n) ∈ front ++ small) (hR : TrAll P (front ++ small) vs ts) (hn : ∀ p ∈ front ++ small, NotIt p) (hne : ∀ p ∈ front ++ small, p.1 ≠ S) :
    ∃ sm, News h₀ L h ((S, o) :: sm) ∧ (l, lstObj vs n) ∈ sm ∧ TrAll P sm vs ts ∧ (∀ p ∈ sm, NotIt p) ∧ ∀ p ∈ sm, p.1 ≠ S := ⟨front ++ small, news_skip N, hl, hR, hn, hne⟩
theorem prt_snoc {P : Params} {nw nw' : List (Addr × Obj)} {ys : List Value} {ts : List Tr} {i : Nat} {t : Tr} {q : Addr} {c : Nat} {v : Value} {tk : Tok} (h : PrT P nw ys (ts.take i)) (hs : ∀ p ∈ nw, p ∈ nw') (ht : ts[i]? = some t) (hq : (q, tupObj [v, .int (t.ht : Int) tk] c) ∈ nw') (hv : TrIn P nw' v t) : PrT P nw' (ys ++ [.ref q]) (ts.take (i + 1)) := by
  rw [List.take_add_one, ht]
  exact (h.mono hs).append (.cons hq hv .nil)
def PJ (P : Params) (S : Addr) (o : Obj) (sm : List (Addr × Obj)) (ts : List Tr) (i : Nat) (ys : List Value) (nw : List (Addr × Obj)) : Prop := ∃ tl, nw = (S, o) :: (tl ++ sm) ∧ (∀ p ∈ tl, NotIt p) ∧ (∀ p ∈ tl, p.1 ≠ S) ∧ PrT P (tl ++ sm) ys (ts.take i)
theorem PJ.cur {P : Params} {S : Addr} {o : Obj} {sm : List (Addr × Obj)} {ts : List Tr} {i : Nat} {ys : List Value} {C : List (Addr × Obj) → Prop} (h : ∀ tl, (∀ p ∈ tl, NotIt p) → (∀ p ∈ tl, p.1 ≠ S) → PrT P (tl ++ sm) ys (ts.take i) → C ((S, o) :: (tl ++ sm))) : ∀ nw, PJ P S o sm ts i ys nw → C nw := by
  rintro _ ⟨tl, rfl, a, b, d⟩
  exact h tl a b d
theorem pair_turn {h₀ h : Heap} {L q I C D S l : Addr} {m : Str → Option Value} {s₁ : Shared} {tk : Nat} {P : Params} {oI oC o : Obj} {ys vs : List Value} {tl sm : List (Addr × Obj)} {ts : List Tr} {i c n : Nat} {t : Tr} {v : Value} {tkv : Tok} (F : Fr h₀ L h m) (N : News h₀ L h ((q, tupObj [v, .int 1 tkv] c) :: (I, oI) :: (C, oC) :: (D, LCg.lst ys) :: (S, o) :: (tl ++ sm))) (off : LCg.Off3 I C D ((S, o) :: (tl ++ sm)))
    (hq : I < q ∧ C < q ∧ D < q ∧ S < q ∧ AllLt q (tl ++ sm)) (hl : (l, lstObj vs n) ∈ sm) (nt : ∀ p ∈ tl, NotIt p) (ne : ∀ p ∈ tl, p.1 ≠ S) (hys : PrT P (tl ++ sm) ys (ts.take i)) (ht : ts[i]? = some t) (ht1 : t.ht = 1) (hR : TrIn P sm v t) :
    LCg.CompEnd h₀ L m s₁ I oI C oC D (LCg.lst ys) (LCg.SrcAt h₀ l vs.toArray) (fun y nw => PJ P S o sm ts (i + 1) (ys ++ [y]) nw) (.ref q) { s₁ with heap := h, toks := tk } := by
  refine LCg.CompEnd.intro F N ((S, o) :: ((q, tupObj [v, .int 1 tkv] c) :: (tl ++ sm))) (fun p hp => ?_) ?_ (.inr ⟨_, .tail _ (.tail _ (List.mem_append.mpr (.inr hl))), rfl, _, rfl⟩) ⟨(q, tupObj [v, .int 1 tkv] c) :: tl, rfl, not_cons not_tup nt, ne_cons (Nat.ne_of_gt hq.2.2.2.1) ne, ?_⟩
  · simp only [List.mem_cons] at hp ⊢
    rcases hp with h | h | h | h | h | h <;> simp only [h, true_or, or_true]
  · refine LCg.Off3.of fun p hp => ?_
    rcases List.mem_cons.mp hp with rfl | hp
    · exact off.mem _ (.head _)
    · rcases List.mem_cons.mp hp with rfl | hp
      · exact ⟨Nat.ne_of_gt hq.1, Nat.ne_of_gt hq.2.1, Nat.ne_of_gt hq.2.2.1⟩
      · exact off.mem _ (.tail _ hp)
  · have e : ((t.ht : Nat) : Int) = 1 := by rw [ht1]; rfl
    exact prt_snoc hys (fun p hp => .tail _ hp) ht (by rw [e]; exact .head _) (hR.mono fun p hp => .tail _ (List.mem_append.mpr (.inr hp)))
/-- what holds between the law's turns -/
def LJ (P : Params) (S : Addr) (i : Nat) (m : Str → Option Value) (nw : List (Addr × Obj)) : Prop :=
  ∃ (s0 s1 : Int) (t0 t1 : Tok) (n : Nat) (sm : List (Addr × Obj)) (Lf : Addr) (vs : List Value) (nl : Nat) (ts : List Tr) (u : Str → Option Value), m = (fun y => if y = Str.ofString "left" then some (.ref Lf) else if y = Str.ofString "source" then some (.ref S) else u y) ∧ nw = (S, srcObj s0 s1 t0 t1 n) :: sm ∧ SrcOk s0 s1 ∧
    (∀ p ∈ sm, p.1 ≠ S) ∧ (∀ p ∈ sm, NotIt p) ∧ (Lf, lstObj vs nl) ∈ sm ∧ PrT P sm vs ts ∧ 0 < ts.length ∧ ts.length ≤ 7 ∧ sizeAll ts ≤ 7 + 3 * i
theorem LJ.mk {P : Params} {S : Addr} {i : Nat} {s0 s1 : Int} {t0 t1 : Tok} {n : Nat} {sm : List (Addr × Obj)} {Lf : Addr} {vs : List Value} {nl : Nat} {ts : List Tr} {u : Str → Option Value} (a : SrcOk s0 s1) (b : ∀ p ∈ sm, p.1 ≠ S) (c : ∀ p ∈ sm, NotIt p) (d : (Lf, lstObj vs nl) ∈ sm) (e : PrT P sm vs ts) (f : 0 < ts.length) (g : ts.length ≤ 7) (h : sizeAll ts ≤ 7 + 3 * i) :
    LJ P S i (fun y => if y = Str.ofString "left" then some (.ref Lf) else if y = Str.ofString "source" then some (.ref S) else u y) ((S, srcObj s0 s1 t0 t1 n) :: sm) := ⟨s0, s1, t0, t1, n, sm, Lf, vs, nl, ts, u, rfl, rfl, a, b, c, d, e, f, g, h⟩
theorem LJ.cur {P : Params} {S : Addr} {i : Nat} {C : (Str → Option Value) → List (Addr × Obj) → Prop} (k : ∀ s0 s1 t0 t1 n sm Lf vs nl (ts : List Tr) (u : Str → Option Value), SrcOk s0 s1 → (∀ p ∈ sm, p.1 ≠ S) → (∀ p ∈ sm, NotIt p) → (Lf, lstObj vs nl) ∈ sm → PrT P sm vs ts → 0 < ts.length → ts.length ≤ 7 → sizeAll ts ≤ 7 + 3 * i →
    C (fun y => if y = Str.ofString "left" then some (.ref Lf) else if y = Str.ofString "source" then some (.ref S) else u y) ((S, srcObj s0 s1 t0 t1 n) :: sm)) : ∀ m nw, LJ P S i m nw → C m nw := by
  rintro _ _ ⟨s0, s1, t0, t1, n, sm, Lf, vs, nl, ts, u, rfl, rfl, a, b, c, d, e, f, g, h⟩
  exact k _ _ _ _ _ _ _ _ _ _ _ a b c d e f g h
/-- what holds between the last four turns -/
def LN (S Lf : Addr) (sm : List (Addr × Obj)) (_i : Nat) (m : Str → Option Value) (nw : List (Addr × Obj)) : Prop :=
  ∃ (s0 s1 : Int) (t0 t1 : Tok) (n : Nat) (u : Str → Option Value), m = (fun y => if y = Str.ofString "left" then some (.ref Lf) else if y = Str.ofString "source" then some (.ref S) else u y) ∧ nw = (S, srcObj s0 s1 t0 t1 n) :: sm ∧ SrcOk s0 s1
theorem LN.cur {S Lf : Addr} {sm : List (Addr × Obj)} {i : Nat} {C : (Str → Option Value) → List (Addr × Obj) → Prop} (k : ∀ s0 s1 t0 t1 n (u : Str → Option Value), SrcOk s0 s1 → C (fun y => if y = Str.ofString "left" then some (.ref Lf) else if y = Str.ofString "source" then some (.ref S) else u y) ((S, srcObj s0 s1 t0 t1 n) :: sm)) : ∀ m nw, LN S Lf sm i m nw → C m nw := by
  rintro _ _ ⟨s0, s1, t0, t1, n, u, rfl, rfl, ok⟩
  exact k _ _ _ _ _ _ ok
theorem start_loop {P : Params} {h₀ h : Heap} {L l S : Addr} {o : Obj} {sm : List (Addr × Obj)} {vs : List Value} {n : Nat} {ts : List Tr} (N : News h₀ L h ((l, lstObj vs n) :: (S, o) :: sm)) (hp : PrT P sm vs ts) (hn : ∀ p ∈ sm, NotIt p) (hne : ∀ p ∈ sm, p.1 ≠ S) (h1 : l ≠ S) :
    ∃ sm', News h₀ L h ((S, o) :: sm') ∧ (l, lstObj vs n) ∈ sm' ∧ PrT P sm' vs ts ∧ (∀ p ∈ sm', NotIt p) ∧ ∀ p ∈ sm', p.1 ≠ S := ⟨(l, lstObj vs n) :: sm, news_skip (l := [_]) N, .head _, hp.mono fun _ h => .tail _ h, not_cons not_lst hn, ne_cons h1 hne⟩
theorem m_min2 {prog : Program} {w : World} {A : Around} {E : Value → Shared → Prop} {s : Shared} {h₀ : Heap} {L : Addr} {m : Str → Option Value} {news : List (Addr × Obj)} {a b : Int} {t u : Tok} {Q : Value → Shared → Prop} (hh : A.handled = none) (F : Fr h₀ L s.heap m) (N : News h₀ L s.heap news)
    (ha : 0 < a) (hb : 0 < b) (h : ∀ r tr h' tk, (0 < r ∧ r ≤ a ∧ r ≤ b) → Fr h₀ L h' m → News h₀ L h' news → Q (.int r tr) { s with heap := h', toks := tk }) : wpAny (model prog w) A (call (.builtin "min") [.int a t, .int b u]) Q E s :=
  min_two_N hh F N fun h' tk F' N' => h _ _ h' tk (by split <;> omega) F' N'
theorem rot_len {α : Type} (k : Nat) (l : List α) (h : k ≤ l.length) : (l.drop k ++ l.take k).length = l.length := by
  rw [List.length_append, List.length_drop, List.length_take, Nat.min_eq_left h]; omega
theorem rot_le {a k : Nat} (h : a ≤ 50000) : a - k + min k a ≤ 100000 := by
  have := Nat.sub_le a k
  have := Nat.min_le_right k a
  omega
theorem rot_le2 {a k r : Nat} (h : a ≤ 40000) : a - k + min k a - r + (0 + 1) ≤ 100000 := by
  have := Nat.sub_le a k
  have := Nat.min_le_right k a
  omega
theorem sizeAll_app (a b : List Tr) : sizeAll (a ++ b) = sizeAll a + sizeAll b := by
  induction a with
  | nil => simp [sizeAll]
  | cons t a ih => simp only [List.cons_append, sizeAll, ih]; omega
theorem size_kids (t : Tr) : sizeAll t.kids < t.size := by
  obtain ⟨k, ts⟩ := t
  simp only [Tr.kids, Tr.size]; omega
theorem news_cons {h₀ h : Heap} {L : Addr} {x : Addr × Obj} {news : List (Addr × Obj)} (N : News h₀ L h news) (hx : x ∈ news) : News h₀ L h (x :: news) := fun p hp => (List.mem_cons.mp hp).elim (fun e => N p (e ▸ hx)) (N p)
theorem sub_turn {h₀ h : Heap} {L : Addr} {a b d : Addr × Obj} {tl rest small : List (Addr × Obj)} (_N : News h₀ L h (a :: b :: (tl ++ d :: rest))) (hs : ∀ p ∈ small, p ∈ rest) : ∀ p ∈ tl ++ d :: small, p ∈ a :: b :: (tl ++ d :: rest) := fun p hp => .tail _ (.tail _ (by
  rcases List.mem_append.mp hp with h | h
  · exact List.mem_append.mpr (.inl h)
  · rcases List.mem_cons.mp h with rfl | h
    · exact List.mem_append.mpr (.inr (.head _))
    · exact List.mem_append.mpr (.inr (.tail _ (hs p h)))))
theorem chain2 {k1 k2 : Str} {a b : Option Value} {u : Str → Option Value} (h1 : u k1 = a) (h2 : u k2 = b) : u = fun y => if y = k1 then a else if y = k2 then b else u y := by
  funext y
  by_cases e1 : y = k1
  · subst e1; rw [if_pos rfl, h1]
  · rw [if_neg e1]
    by_cases e2 : y = k2
    · subst e2; rw [if_pos rfl, h2]
    · rw [if_neg e2]
theorem ne_tupS {h₀ h : Heap} {L x S : Addr} {vs : List Value} {c : Nat} {s0 s1 : Int} {t0 t1 : Tok} {n : Nat} {big : List (Addr × Obj)} (N : News h₀ L h big) (h1 : (x, tupObj vs c) ∈ big) (h2 : (S, srcObj s0 s1 t0 t1 n) ∈ big) : x ≠ S := by
  intro e
  have a := (N _ h1).1
  have b := (N _ h2).1
  dsimp only at a b
  rw [e, b] at a
  injection a with a
  injection a with a
  injection a with a
  exact absurd a (by decide)
theorem end_turn {P : Params} {h₀ h : Heap} {L I S DA q d4 nd : Addr} {it : Obj} {m : Str → Option Value} {s₁ : Shared} {tk9 : Nat} {x1 x2 x3 x4 : Addr × Obj} {tl rest sm : List (Addr × Obj)} {ws us : List Value} {ts : List Tr} {tr : Tr} {tk : Tok} {c i n k9 : Nat} {s0 s1 : Int} {t0 t1 : Tok}
    (F : Fr h₀ L h m) (N : News h₀ L h ((DA, lstObj (ws ++ [.ref q]) k9) :: x1 :: (q, tupObj [.ref nd, .int (tr.ht : Int) tk] c) :: x2 :: x3 :: x4 :: (tl ++ (d4, lstObj us 0) :: rest))) (hI : (I, it) ∈ rest) (hS : (S, srcObj s0 s1 t0 t1 n) ∈ rest) (hsm : ∀ p ∈ sm, p ∈ rest) (hcls : it.cls = .type "range_iterator")
    (ok : SrcOk s0 s1) (neDA : DA ≠ S) (ne4 : d4 ≠ S) (neT : ∀ p ∈ tl, p.1 ≠ S) (niT : ∀ p ∈ tl, NotIt p) (hne : ∀ p ∈ sm, p.1 ≠ S) (hni : ∀ p ∈ sm, NotIt p) (hIn : TrIn P (tl ++ (d4, lstObj us 0) :: sm) (.ref nd) tr) (hw : PrT P sm ws ts)
    (hm : m (Str.ofString "left") = some (.ref DA)) (hm2 : m (Str.ofString "source") = some (.ref S)) (hlen : ts.length + 1 ≤ 7) (hsz : sizeAll ts + tr.size ≤ 7 + 3 * (i + 1)) :
    UnrEnd h₀ L s₁ I it (fun m' nw => LJ P S (i + 1) m' nw) { s₁ with heap := h, toks := tk9 } := by
  have up : ∀ p ∈ tl ++ (d4, lstObj us 0) :: rest, p ∈ ((DA, lstObj (ws ++ [.ref q]) k9) :: x1 :: (q, tupObj [.ref nd, .int (tr.ht : Int) tk] c) :: x2 :: x3 :: x4 :: (tl ++ (d4, lstObj us 0) :: rest)) := fun p hp => .tail _ (.tail _ (.tail _ (.tail _ (.tail _ (.tail _ hp)))))
  have upr : ∀ p ∈ rest, p ∈ tl ++ (d4, lstObj us 0) :: rest := fun p hp => List.mem_append.mpr (.inr (.tail _ hp))
  have sub : ∀ p ∈ (S, srcObj s0 s1 t0 t1 n) :: (DA, lstObj (ws ++ [.ref q]) k9) :: (q, tupObj [.ref nd, .int (tr.ht : Int) tk] c) :: (tl ++ (d4, lstObj us 0) :: sm), p ∈ ((DA, lstObj (ws ++ [.ref q]) k9) :: x1 :: (q, tupObj [.ref nd, .int (tr.ht : Int) tk] c) :: x2 :: x3 :: x4 :: (tl ++ (d4, lstObj us 0) :: rest)) := by
    intro p hp
    rcases List.mem_cons.mp hp with rfl | hp
    · exact up _ (upr _ hS)
    rcases List.mem_cons.mp hp with rfl | hp
    · exact .head _
    rcases List.mem_cons.mp hp with rfl | hp
    · exact .tail _ (.tail _ (.head _))
    rcases List.mem_append.mp hp with hp | hp
    · exact up _ (List.mem_append.mpr (.inl hp))
    rcases List.mem_cons.mp hp with rfl | hp
    · exact up _ (List.mem_append.mpr (.inr (.head _)))
    · exact up _ (upr _ (hsm _ hp))
  have ni9 : ∀ p ∈ (DA, lstObj (ws ++ [.ref q]) k9) :: (q, tupObj [.ref nd, .int (tr.ht : Int) tk] c) :: (tl ++ (d4, lstObj us 0) :: sm), NotIt p := not_cons not_lst (not_cons not_tup (not_app niT (not_cons not_lst hni)))
  have neq : q ≠ S := ne_tupS N (.tail _ (.tail _ (.head _))) (up _ (upr _ hS))
  refine UnrEnd.intro F N ((S, srcObj s0 s1 t0 t1 n) :: (DA, lstObj (ws ++ [.ref q]) k9) :: (q, tupObj [.ref nd, .int (tr.ht : Int) tk] c) :: (tl ++ (d4, lstObj us 0) :: sm)) (fun p hp => ?_) (off_it N (up _ (upr _ hI)) hcls sub (not_cons not_lst ni9)) ?_
  · rcases List.mem_cons.mp hp with rfl | hp
    · exact up _ (upr _ hI)
    · exact sub p hp
  · refine ⟨s0, s1, t0, t1, n, _, DA, ws ++ [.ref q], k9, ts ++ [tr], m, chain2 hm hm2, rfl, ok, ne_cons neDA (ne_cons neq (ne_app neT (ne_cons ne4 hne))), ni9, .head _, ?_, by simp, by simpa using hlen, ?_⟩
    · exact (hw.mono fun p hp => .tail _ (.tail _ (List.mem_append.mpr (.inr (.tail _ hp))))).append (.cons (.tail _ (.head _)) (hIn.mono fun p hp => .tail _ (.tail _ hp)) .nil)
    · rw [sizeAll_app]; simp only [sizeAll]; omega
theorem lt_ne {x S : Addr} {o : Obj} {l : List (Addr × Obj)} (h : AllLt x l) (hm : (S, o) ∈ l) : x ≠ S := Nat.ne_of_gt (tb_ltOf h _ hm)
theorem start5 {P : Params} {h₀ h : Heap} {L l : Addr} {news : List (Addr × Obj)} {vs : List Value} {n : Nat} {ts : List Tr} (N : News h₀ L h news) (hl : (l, lstObj vs n) ∈ news) (hR : TrAll P news vs ts) (hn : ∀ p ∈ news, NotIt p) : ∃ small, News h₀ L h small ∧ (l, lstObj vs n) ∈ small ∧ TrAll P small vs ts ∧ ∀ p ∈ small, NotIt p := ⟨news, N, hl, hR, hn⟩
theorem words_law_1 : True := by
  k_with "call ref" => (k_here; (with_reducible show wpAny _ _ (call (Value.ref 321) _) _ _ _); refine Stop.on ?_)
  k_with "call ref" => (k_here; (with_reducible show wpAny _ _ (call (Value.ref 371) _) _ _ _); refine Stop.on ?_)
  k_with "call ref" => (k_here; (with_reducible show wpAny _ _ (call (Value.ref 381) _) _ _ _); refine Stop.on ?_)
  k_with "call ref" => (k_here; (with_reducible show wpAny _ _ (call (Value.ref 326) _) _ _ _); refine Stop.on ?_)
  k_with "call ref" => (k_here; (with_reducible show wpAny _ _ (call (Value.ref 333) _) _ _ _); refine Stop.on ?_)
  k_with "compareOp NotEq ref ref" => (k_here; (with_reducible show wpAny _ _ (compareOp CmpOp.NotEq (Value.ref _) (Value.ref _)) _ _ _); refine Stop.on ?_)
  k_with "eval ListComp" => (k_here; k_dflt (refine ListComp_PW (by k_asm) (by rfl) (by decide) (by rfl) (by decide) (by rfl) (by rfl) (by decide) ?_))
  k_with "exec Assign cons ListComp" => (k_here; k_dflt (refine Assign_ListComp_W (by k_asm) (by rfl) (by with_unfolding_all rfl) (by with_unfolding_all rfl) (by decide) (by rfl) (by decide) (by rfl) (by rfl) (by rfl) ?_))
  k_with "exec For Name Call cons nil" => (k_here; (with_reducible show wpAny _ _ (exec (Stmt.For _ _ _ [] _) _) _ _ _); (rename Fr _ _ _ _ => lF'_106); (with_unfolding_all refine' For_invVF (hE := ?kE_106) lF'_106 ?k1_106 ?k2_106 ?_; (case kE_106 => assumption); (case k1_106 => exact rfl); (case k2_106 => exact rfl); k_whole))
  k_with "pyIter ref" => (k_here; (rename Fr _ _ _ _ => lF'_107); (rename News _ _ _ _ => lN'_107); (k_dflt (refine' iter_rangeW ?k1_107 ?k3_107 ?k4_107 lF'_107 lN'_107 ?_; (case k1_107 => rfl); (case k3_107 => assumption); (case k4_107 => exact small_one (by l_bnd) (by l_bnd) (by l_bnd) (by l_bnd)))); clear lF'_107 lN'_107; intro i'_107)
  k_with "subscriptTail Name Slice ref ref" => (k_here; (with_reducible show wpAny _ _ (subscriptTail _ (PySem.Expr.Slice _ _ none _) (Value.ref _) (Value.ref _)) _ _ _); k_dflt (refine' m_slice ?F_108 ?N_108 ?l_108 ?p_108 ?q_108 ?e_108 ?z_108 ?_ ?s_108 ?t_108; (case F_108 => k_asm); (case N_108 => k_asm); (case l_108 => walk_at "memx"); (case p_108 => kmk_part); (case q_108 => kmk_part); (case e_108 => first | exact pick_from (by omega) | exact pick_upto (by omega)); (case z_108 => first | (simp only [List.length_append, List.length_drop, List.length_take]; exact rot_le (by omega)) | omega | (simp only [List.length_append, List.length_drop, List.length_take, List.length_cons, List.length_nil]; omega)); (case s_108 => with_unfolding_all rfl); (case t_108 => kmk_pure)); intro D'_108 h'_108 F'_108 N'_108 l1_108; (try k_lt l1_108); (try k_sweep))
  k_with "call builtin:len" => (k_here; (with_reducible show wpAny _ _ (call (Value.builtin "len") [Value.ref _]) _ _ _); k_dflt (refine' m_len ?k1_109 ?k2_109 ?k3_109 ?_; (case k1_109 => k_asm); (case k2_109 => walk_at "memx"); (case k3_109 => omega); k_whole))
  k_with "call builtin:min" => (k_here; (with_reducible show wpAny _ _ (call (Value.builtin _) [Value.int _ _, Value.int _ _]) _ _ _); k_dflt (refine' m_min2 ?k1_110 ?k2_110 ?k3_110 ?k4_110 ?k5_110 ?_; (case k1_110 => rfl); (case k2_110 => k_asm); (case k3_110 => k_asm); (case k4_110 => omega); (case k5_110 => omega)); intro rM tM hM kM hMin FM NM; (try dsimp only))
  k_with "binaryOp Add ref ref" => (k_here; (with_reducible show wpAny _ _ (binaryOp Operator.Add (Value.ref _) (Value.ref _)) _ _ _); k_dflt (refine' m_addl ?k1_111 ?k2_111 ?k3_111 ?k4_111 ?k5_111 ?_; (case k1_111 => k_asm); (case k2_111 => k_asm); (case k3_111 => walk_at "memx"); (case k4_111 => walk_at "memx"); (case k5_111 => (simp only [List.length_append, List.length_drop, List.length_take, List.length_cons, List.length_nil]; first | exact rot_le (by omega) | exact rot_le2 (by omega) | (try omega)))); intro DA hA FA NA lA; (try dsimp only); (try k_lt lA); (try k_fold))
  k_with "call ref" => (k_here; (with_reducible show wpAny _ _ (call (Value.ref 361) _) _ _ _); (k_dflt (refine' Spec.useC (namesright_spec _ ?u_112 ?ok_112) ?k1_112 ?k2_112 ?k3_112 ?k4_112 ?k5_112 ?k6_112 ?k7_112 ?k8_112 RightPost.cur ?_; (case k4_112 => k_asm); (case u_112 => k_updF); (case ok_112 => assumption); (case k1_112 => k_asm); (case k2_112 => k_asm); (case k3_112 => k_asm); (case k5_112 => k_asm); (case k6_112 => first | exact rfl | assumption); (case k7_112 => first | omega | ktr_room); (case k8_112 => first | omega | ktr_units))); intro s0P s1P t0P t1P nP okP hP tkP FP NP; (try dsimp only); (try k_fold))
  k_with "call ref" => (k_here; (with_reducible show wpAny _ _ (call (Value.ref 366) _) _ _ _); (k_dflt (refine' Spec.useC (numright_spec _ ?u_113 ?ok_113) ?k1_113 ?k2_113 ?k3_113 ?k4_113 ?k5_113 ?k6_113 ?k7_113 ?k8_113 RightPost.cur ?_; (case k4_113 => k_asm); (case u_113 => k_updF); (case ok_113 => assumption); (case k1_113 => k_asm); (case k2_113 => k_asm); (case k3_113 => k_asm); (case k5_113 => k_asm); (case k6_113 => first | exact rfl | assumption); (case k7_113 => first | omega | ktr_room); (case k8_113 => first | omega | ktr_units))); intro s0P s1P t0P t1P nP okP hP tkP FP NP; (try dsimp only); (try k_fold))
  trivial
theorem lawX : PySem.Challenge.rw_xm0660_01.Holds := hd (by
  k_go0
  (all_goals try k_fold)
  refine' lawJoin (by k_asm) (by k_asm) ?tail (by with_unfolding_all passes_own) ?front
  case tail =>
    intro h9 tk9 m9 F9
    k_steps
  case front =>
    intro gs dr os tk0 Q9 E9 hPE hret
    rename (Ground ..) => hM; clear hM
    rename (BMod ..) => hM; clear hM
    rename (TopW ..) => hM; clear hM
    rename (TopE ..) => hM; clear hM
    rename (Tables ..) => hM; clear hM
    rename (Glob ..) => hM; clear hM
    rename (LooseAre ..) => hM; clear hM
    rename (Flt.MathXP ..) => hM; clear hM
    rename (Dflts ..) => hM; clear hM
    rename (ReadsAllW ..) => hM; clear hM
    rename (ReadsAll ..) => hM; clear hM
    rename (Reads ..) => hM; clear hM
    rename (Well ..) => hM; clear hM
    rename (Heap.CodeRec ..) => hM; clear hM
    rename (hd.heap_39 _).In _ => hX
    rename World => w
    rename Heap.IsList _ _ _ => hScr
    rename IntsAre _ _ => hInts
    rename ¬ (63 : Int) < _ => hLen
    rename Below _ _ _ _ => hB
    rename Top _ _ _ _ _ _ => hT
    k_steps
    refine Stop.mk ?_
    have oa : PyData.strOk (Str.ofString "a") = true := by decide +kernel
    have ob : PyData.strOk (Str.ofString "b") = true := by decide +kernel
    refine' Spec.useC (parts_spec w (t := .mk .filt [.mk (.var (Str.ofString "a")) [], .mk (.var (Str.ofString "b")) []]) (fun _ h => h) ?R (by decide)) hB ?k2 hX ?k4 hT ?k6 ?k7 ?k8 PartsPost.cur ?_
    case k2 => k_asm
    case k4 => k_asm
    case R => exact .filt (by k_mem) (by k_mem) (by k_mem) (.var (by k_mem) (by k_mem) oa) (.cons (.var (by k_mem) (by k_mem) ob) .nil)
    case k6 => exact rfl
    case k7 => ktr_room
    case k8 => ktr_units
    intro pA vsA cA tlA ordA hpA hkA hP tkP FP NP'
    have NP := news_swap NP'
    clear NP'
    replace hpA := mem_swap hpA
    k_steps
    refine Stop.mk ?_
    refine' Spec.useC (rowsT w hkA ?ks hpA (by decide)) hB ?k2 hX ?k4 hT ?k6 ?k7 ?k8 RowsPost.cur ?_
    case k2 => k_asm
    case k4 => k_asm
    case ks => exact fun p hp => List.mem_append.mpr (.inr hp)
    case k6 => exact rfl
    case k7 => ktr_room
    case k8 => ktr_units
    intro D1 ys1 c1 tl1 ord1 hD1 hy1 hP tkP FP NP'
    have NP := news_swap NP'
    clear NP'
    k_steps
    refine Stop.mk ?_
    refine' Spec.useC (rowsL w (ts := [.mk (.var (Str.ofString "a")) [], .mk (.var (Str.ofString "b")) []]) (small := _) ?R (fun _ h => h) ?kp (by decide)) hB ?k2 hX ?k4 hT ?k6 ?k7 ?k8 RowsPost.cur ?_
    case k2 => k_asm
    case k4 => k_asm
    case kp => walk_at "memx"
    case R => exact .cons (.var (by walk_at "memx") (by walk_at "memx") oa) (.cons (.var (by walk_at "memx") (by walk_at "memx") ob) .nil)
    case k6 => exact rfl
    case k7 => ktr_room
    case k8 => ktr_units
    intro D2 ys2 c2 tl2 ord2 hD2 hy2 hP tkP FP NP'
    have NP := news_swap NP'
    clear NP'
    k_steps
    refine Stop.mk ?_
    refine rows_ne NP (by walk_at "memx") (List.mem_append.mpr (.inl hD2)) hy1 hy2 (fun p hp => ?_) (fun p hp => mem_swap hp) (kq_cons (kq_tup (kq_cons (kq_str (by decide +kernel)) (kq_cons (kq_str oa) kq_nil))) (kq_cons (kq_tup (kq_cons (kq_str (by decide +kernel)) (kq_cons (kq_str ob) kq_nil))) kq_nil)) (by ktr_units) ?_
    · rcases List.mem_append.mp hp with hp | hp
      · exact List.mem_append.mpr (.inr (.tail _ (List.mem_append.mpr (.inr (List.mem_append.mpr (.inr hp))))))
      · exact List.mem_append.mpr (.inr (.tail _ (List.mem_append.mpr (.inl hp))))
    have NQ := news_sub NP (fun p hp => List.mem_append.mpr (.inr (.tail _ (List.mem_append.mpr (.inr (List.mem_append.mpr (.inr hp)))))))
    clear NP
    k_steps
    refine Stop.mk ?_
    refine' Spec.useC (parts_spec w (t := .mk .num []) (fun _ h => h) ?R (by decide)) hB ?k2 hX ?k4 hT ?k6 ?k7 ?k8 PartsPost.cur ?_
    case k2 => k_asm
    case k4 => k_asm
    case R => exact .num (by k_mem) (by k_mem) (by k_mem)
    case k6 => exact rfl
    case k7 => ktr_room
    case k8 => ktr_units
    intro pB vsB cB tlB ordB hpB hkB hP tkP FP NP'
    have NP := news_swap NP'
    clear NP'
    replace hpB := mem_swap hpB
    cases hkB
    k_steps
    refine Stop.mk ?_
    rename News _ _ _ _ => NE
    refine m_ne_tup0 NE (.tail _ hpB) ⟨_, (NE _ (.head _)).1, rfl, _, rfl⟩ (by ktr_units) ?_
    have NR := news_sub NE (fun p hp => .tail _ (List.mem_append.mpr (.inr hp)))
    clear NE
    have oc : PyData.strOk (Str.ofString "c") = true := by decide +kernel
    have oe : PyData.strOk (Str.ofString "e") = true := by decide +kernel
    obtain ⟨small, NS, hl5, hR5, hni⟩ := start5 (P := w.params) (ts := lv5) NR (.tail _ (.tail _ (.tail _ (.head _))))
      (.cons (.var (by k_mem) (by k_mem) oa) (.cons (.var (by k_mem) (by k_mem) ob) (.cons (.lit (by k_mem) (by k_mem) oc) (.cons (.num (by k_mem) (by k_mem) (by k_mem)) (.cons (.var (by k_mem) (by k_mem) oe) .nil)))))
      (by repeat (first | exact not_nil | refine not_cons (by first | exact not_tup | exact not_inst | exact not_dict | exact not_lst) ?_))
    clear NR
    k_steps
    refine Stop.mk ?_
    refine' SpecS.useC (pool_spec w hInts (by omega)) hB ?k2 hX ?k4 hT ?k6 ?k7 ?k8 hScr PoolPost.cur ?_
    case k2 => k_asm
    case k4 => k_asm
    case k6 => exact rfl
    case k7 => ktr_room
    case k8 => ktr_units
    intro S s0 s1 t0 t1 n0 ok hS hP tkP FP NP
    k_steps
    rename News _ _ _ _ => NL
    have ol : PyData.strOk (Str.ofString "last") = true := by decide +kernel
    obtain ⟨sm, NS2, hl7, hR7, hni7, hne7⟩ := start7 (P := w.params) (ts := lv7) (front := [_, _, _, _, _, _, _, _]) NL (.head _)
      (TrAll.append (hR5.mono fun p hp => List.mem_append.mpr (.inr hp)) (.cons (.call (by k_mem) (by k_mem) (by k_mem) ol .nil) (.cons (.pathR (by k_mem) (by k_mem) (by k_mem) .nil) .nil)))
      (by repeat (first | exact hni | refine not_cons (by first | exact not_tup | exact not_inst | exact not_dict | exact not_lst) ?_))
      (by repeat (first | exact fun p hp => Nat.ne_of_lt (hS p hp) | refine ne_cons (Nat.ne_of_gt (by dsimp only; omega)) ?_))
    clear NL
    clear hpA ordA ord1 ordB hpB hl5 hR5 hni hS hy1 hy2 hD1 hD2 ord2
    refine LCg.CompSrc.ledger (its := _) (by rfl) (by k_asm) NS2 (.tail _ hl7) (by rw [PySem.sizeLine_eq]; show 7 ≤ _; decide) fun g9 => ?_
    refine compRest_inv (n := 7) (PJ w.params S (srcObj s0 s1 t0 t1 n0) sm lv7) ?_ ?_ _ 0 [] _ (Nat.zero_add _) ⟨[], rfl, not_nil, (fun _ h => nomatch h), .nil⟩
    · intro i ys nw v I oI C oC D m₂ h tk E' R9 hR9 hi
      revert nw
      refine PJ.cur ?_
      intro tl nt ne hys hv hC hx F1 N1 off nes
      obtain ⟨t, ht, hR⟩ := hR7.get (by simpa using hv)
      have ht1 := lv7_ht t (List.mem_of_getElem? ht)
      k_steps
      rename Fr _ _ _ _ => F2
      rename News _ _ _ _ => N2
      rename _ ∧ _ ∧ _ ∧ _ ∧ _ => hq
      exact hR9 _ _ (pair_turn F2 N2 off hq hl7 nt ne hys ht ht1 hR)
    · intro ys
      refine PJ.cur ?_
      intro tl nt ne hys
      intro D h9 tk9 F9 N9 off9
      have hlen := hys.length
      have hlen7 : ys.length = 7 := hlen
      obtain ⟨sm2, NS3, hLf, hPr, hni3, hne3⟩ := start_loop N9 hys (not_app nt hni7) (ne_app ne hne7) (Ne.symm (off1_in' off9 (S, _) (.head _)))
      clear N9 off9 hys nt ne NS2 hl7 hR7 hni7 hne7
      k_steps
      refine wrng_ind (LJ w.params S) ?_ ?_ (.mk (ts := lv7) (by assumption) hne3 hni3 hLf hPr (by decide) (by decide) (by rw [lv7_size]; exact Nat.le_refl _))
      · intro i it t h tk R9 hR9 hi hcls
        refine LJ.cur ?_
        intro s0 s1 t0 t1 n sm Lf vs nl ts u ok hne hni hLf hPr hts0 hts7 hsz F1 N1
        try dsimp only at F1
        have hvl := hPr.length
        have hIS : @Ne Nat _ S := Ne.symm (off_it (l := (S, srcObj s0 s1 t0 t1 n) :: sm) N1 (.head _) hcls (fun p hp => .tail _ hp) (not_cons not_lst hni) _ (.head _))
        k_steps
        refine Stop.mk ?_
        refine' Spec.useC (joined_spec w (vs := List.take rM.toNat (List.drop k'.toNat vs ++ List.take k'.toNat vs)) (nl := 0) (ts := List.take rM.toNat (List.drop k'.toNat ts ++ List.take k'.toNat ts)) (small := (_, lstObj (List.take rM.toNat (List.drop k'.toNat vs ++ List.take k'.toNat vs)) 0) :: sm) ?U ?ok ?hsm (.head _) ((((hPr.drop _).append (hPr.take _)).take _).mono fun _ h => .tail _ h) ?hl0 ?hl3) hB ?k2 hX ?k4 hT ?k6 ?k7 ?k8 JoinPost.cur ?_
        case k2 => k_asm
        case k4 => k_asm
        case k6 => exact rfl
        case k7 => ktr_room
        case k8 => ktr_units
        case ok => assumption
        case U => k_updF
        case hl0 => exact (by rw [List.length_take, rot_len _ _ (by omega)]; exact Nat.lt_min.mpr ⟨by omega, hts0⟩)
        case hl3 => exact (by rw [List.length_take]; exact Nat.le_trans (Nat.min_le_left _ _) (by omega))
        case hsm =>
          intro o p hp
          rcases List.mem_cons.mp hp with rfl | hp
          · exact .head _
          · repeat (first | exact hp | apply List.Mem.tail)
        intro tl T nd PL tkh cT kT tr pvs s0' s1' t0' t1' n' ok' neT niT hTm hIn hPLm hAll hszt hP tkP FP NP
        have NP2 := news_cons (news_cons NP (List.mem_append.mpr (.inl hPLm))) (.tail _ (List.mem_append.mpr (.inl hTm)))
        clear NP
        try dsimp only at NP2
        have hsz40 : tr.size ≤ 7 + 3 * i + 3 := by
          have a := sizeAll_split rM.toNat (List.drop k'.toNat ts ++ List.take k'.toNat ts)
          have b := sizeAll_app (List.drop k'.toNat ts) (List.take k'.toNat ts)
          have c := sizeAll_split k'.toNat ts
          omega
        have hsz41 : 7 + 3 * i + 3 ≤ 30 := by omega
        have hkid := size_kids tr
        have hkih := htAll_size tr.kids
        have hsub1 := sub_turn (small := sm) NP2 (fun p hp => by repeat (first | exact hp | apply List.Mem.tail))
        k_steps
        refine Stop.mk ?_
        refine' Spec.useC (height_spec w hsub1 hIn (by omega)) hB ?k2 hX ?k4 hT rfl ?k7 ?k8 HeightPost.cur ?_
        case k2 => k_asm
        case k4 => k_asm
        case k7 => ktr_room
        case k8 => ktr_units
        intro tkq hP tkP FP NP
        try clear NP2
        k_steps
        exact absurd rfl (by assumption : (tr.ht : Int) ≠ (tr.ht : Int))
        refine Stop.mk ?_
        refine' Spec.useC (parts_spec w hsub1 hIn (by omega)) hB ?k2 hX ?k4 hT rfl ?k7 ?k8 PartsPost.cur ?_
        case k2 => k_asm
        case k4 => k_asm
        case k7 => ktr_room
        case k8 => ktr_units
        intro pA vsA cA tlA ordA hpA hkA hP tkP FP NPa
        have NPb := news_swap NPa
        clear NPa
        try clear NP
        replace hpA := mem_swap hpA
        k_steps
        refine Stop.mk ?_
        refine' Spec.useC (rowsT w hkA (sub_app3 hsub1) hpA (by omega)) hB ?k2 hX ?k4 hT rfl ?k7 ?k8 RowsPost.cur ?_
        case k2 => k_asm
        case k4 => k_asm
        case k7 => ktr_room
        case k8 => ktr_units
        intro D1 ys1 c1 tl1 ord1 hD1 hy1 hP tkP FP NPa
        have NPc := news_swap NPa
        clear NPa
        try clear NPb
        k_steps
        refine Stop.mk ?_
        refine' Spec.useC (rowsL w hAll (sub_app3 (sub_app3 hsub1)) (List.mem_append.mpr (.inr (List.mem_append.mpr (.inr (.tail _ (.head _)))))) (by omega)) hB ?k2 hX ?k4 hT rfl ?k7 ?k8 RowsPost.cur ?_
        case k2 => k_asm
        case k4 => k_asm
        case k7 => ktr_room
        case k8 => ktr_units
        intro D2 ys2 c2 tl2 ord2 hD2 hy2 hP tkP FP NPa
        have NPd := news_swap NPa
        clear NPa
        try clear NPc
        k_steps
        refine Stop.mk ?_
        refine rows_ne NPd (List.mem_append.mpr (.inr (List.mem_append.mpr (.inl hD1)))) (List.mem_append.mpr (.inl hD2)) hy1 hy2 ?_ ?_ (TrAll.rowOk hkA 60 (by omega)) (by ktr_units) ?_
        · intro p hp
          rcases List.mem_append.mp hp with h | h
          · exact List.mem_append.mpr (.inr (List.mem_append.mpr (.inr (List.mem_append.mpr (.inr (hsub1 p h))))))
          · exact List.mem_append.mpr (.inr (List.mem_append.mpr (.inl h)))
        · intro p hp
          rcases List.mem_append.mp hp with h | h
          · exact List.mem_append.mpr (.inr (List.mem_append.mpr (.inr (List.mem_append.mpr (.inr (hsub1 p h))))))
          · exact List.mem_append.mpr (.inl h)
        have NQ := news_sub NPd (fun p hp => List.mem_append.mpr (.inr (List.mem_append.mpr (.inr (List.mem_append.mpr (.inr hp))))))
        clear NPd ordA ord1 ord2 hD1 hD2 hy1 hy2 hkA hpA
        k_steps
        rename Fr _ _ _ _ => F9
        rename News _ _ _ _ => N9
        refine hR9 _ ?_
        refine end_turn F9 N9 (by walk_at "memx") (by walk_at "memx") (fun p hp => by repeat (first | exact hp | apply List.Mem.tail)) hcls ok' (lt_ne lA.2.2.2.2.2 (by walk_at "memx")) (Nat.ne_of_gt (by omega)) neT niT hne hni hIn (((hPr.drop _).append (hPr.take _)).drop _) rfl rfl ?_ ?_
        · rw [List.length_drop, rot_len _ _ (by omega)]; omega
        · have a := sizeAll_split rM.toNat (List.drop k'.toNat ts ++ List.take k'.toNat ts)
          have b := sizeAll_app (List.drop k'.toNat ts) (List.take k'.toNat ts)
          have c := sizeAll_split k'.toNat ts
          omega
      · intro h tk
        refine LJ.cur ?_
        intro s0 s1 t0 t1 n sm Lf vs nl ts u ok hne hni hLf hPr hts0 hts7 hsz F1 N1
        have hvl := hPr.length
        k_steps
        refine wrng_ind (LN S Lf sm) ?_ ?_ ⟨_, _, _, _, _, _, rfl, rfl, by assumption⟩
        · intro i it t h tk R9 hR9 hi hcls
          refine LN.cur ?_
          intro s0 s1 t0 t1 n u ok F1 N1
          try dsimp only at F1
          have hIS : @Ne Nat _ S := Ne.symm (off_it (l := (S, srcObj s0 s1 t0 t1 n) :: sm) N1 (.head _) hcls (fun p hp => .tail _ hp) (not_cons not_lst hni) _ (.head _))
          k_steps
          rename Fr _ _ _ _ => F9
          rename News _ _ _ _ => N9
          exact hR9 _ <| UnrEnd.intro F9 N9 ((S, srcObj _ _ _ _ _) :: sm) (fun p hp => hp) (off_it N9 (.head _) hcls (fun p hp => .tail _ hp) (not_cons not_lst hni)) ⟨_, _, _, _, _, _, chain2 rfl rfl, rfl, by assumption⟩
        · intro h tk
          refine LN.cur ?_
          intro s0 s1 t0 t1 n u ok F1 N1
          k_steps
          refine compPair (fun i ys => IntsAre ys ((ts.take i).map fun t => (t.ht : Int))) (by rfl) (by k_asm) (by k_asm) (.tail _ hLf) (by omega) hPr (fun p hp => .tail _ hp) .nil ?_ ?_
          · intro i ys v t tkk I oI C oC D m₂ h tk E' R9 hR9 j ht hv hC hx hx2 F9 N9 off9 ne9
            k_steps
            exact hR9 _ _ (LCg.CompEnd.intro (by k_asm) (by k_asm) _ (fun p hp => hp) off9 (.inr ⟨_, .tail _ hLf, rfl, _, rfl⟩) ⟨rfl, hts_snoc j ht⟩)
          · intro g ys j
            rw [List.take_length] at j
            have hyl := j.length
            rw [List.length_map] at hyl
            intro D1 h9 tk9 F9 N9' off9
            have N9 : News _ _ h9 ((D1, lstObj ys ys.length) :: (S, srcObj s0 s1 t0 t1 n) :: sm) := N9'
            clear N9'
            k_steps
            refine compPair (fun i ys => IntsAre ys ((ts.take i).map fun t => (t.ht : Int))) (by rfl) (by k_asm) N9 (.tail _ (.tail _ hLf)) (by omega) hPr (fun p hp => .tail _ (.tail _ hp)) .nil ?_ ?_
            · intro i ys v t tkk I oI C oC D m₂ h tk E' R9 hR9 j ht hv hC hx hx2 F9 N9 off9 ne9
              have hts := size_get ht
              k_steps
              refine Stop.mk ?_
              refine' Spec.useC (height_spec w (small := sm) ?hs hv (by omega)) hB ?k2 hX ?k4 hT rfl ?k7 ?k8 HeightPost.cur ?_
              case k2 => k_asm
              case k4 => k_asm
              case hs => exact fun p hp => by repeat (first | exact hp | apply List.Mem.tail)
              case k7 => ktr_room
              case k8 => ktr_units
              intro tkq hP tkP FP NP
              k_steps
              exact hR9 _ _ (LCg.CompEnd.intro (by k_asm) (by k_asm) _ (fun p hp => hp) off9 (.inr ⟨_, .tail _ (.tail _ hLf), rfl, _, rfl⟩) ⟨rfl, hts_snoc j ht⟩)
            · intro g ys2 j2
              rw [List.take_length] at j2
              have hyl2 := j2.length
              rw [List.length_map] at hyl2
              intro D2 h9 tk9 F9 N9' off9
              have N9 : News _ _ h9 ((D2, lstObj ys2 ys2.length) :: (D1, lstObj ys ys.length) :: (S, srcObj s0 s1 t0 t1 n) :: sm) := N9'
              clear N9'
              k_steps
              exact hret _ _ _ (by k_asm))

end Mine
theorem PySem.Challenge.cw_xm0660_01_holds : PySem.Challenge.rw_xm0660_01.Holds := by
  exact Mine.lawX
