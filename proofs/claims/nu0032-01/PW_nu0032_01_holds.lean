import PyProof.Rows.All
import Wide.All
import OpenK.AllK
import Wide.FinOn
import PySem.Challenge.RW_nu0032_01
set_option Elab.async false
set_option linter.unusedVariables false
set_option linter.unusedSimpArgs false
section
open PySem PySem.W PyProof.Rows
namespace Mine
def c0 : Str := Str.ofString "a"
theorem e0 : c0 = c0 := rfl
name_quick tw2711585505577850959 for c0 by e0
name_quick tw7232422423428716515 for c0 by e0
name_quick tw12835720964997663042 for c0 by e0
name_quick tw17517737089405305841 for c0 by e0
name_quick tw7009043117176579089 for c0 by e0
name_quick tw219737044198020058 for c0 by e0
name_quick tw9011979029575296479 for c0 by e0
name_quick tw7250012664060256230 for c0 by e0
name_quick tw43969757491396457 for c0 by e0
name_quick tw1258717718454355964 for c0 by e0
name_quick tw15560500314895047343 for c0 by e0
name_quick tw16145008321745377990 for c0 by e0
name_quick tw4636218855388986860 for c0 by e0
name_quick tw282004115355043989 for c0 by e0
name_quick tw10454494479268063676 for c0 by e0
name_quick tw17804436615005485693 for c0 by e0
name_quick tw15079194523842364033 for c0 by e0
name_quick tw3093977132361051618 for c0 by e0
name_quick tw7275051467321613617 for c0 by e0
name_quick tw17846936440860909165 for c0 by e0
name_quick tw10528696920762540405 for c0 by e0
name_quick tw12233582284571471492 for c0 by e0
name_quick tw17730448691065144110 for c0 by e0
name_quick tw6135381517318000843 for c0 by e0
name_quick tw3619232141914619222 for c0 by e0
name_quick tw1829445100760108279 for c0 by e0
name_quick tw1184552218554016812 for c0 by e0
name_quick tw9376109419431680627 for c0 by e0
name_quick tw3766158894648301139 for c0 by e0
name_quick tw1355338860687761863 for c0 by e0
name_quick tw1340868782516533803 for c0 by e0
name_quick tw682011567655089306 for c0 by e0
name_quick tw16413264400604254196 for c0 by e0
name_quick tw11306939235166856333 for c0 by e0
name_quick tw4011157648589011858 for c0 by e0
name_quick tw13180171748994924942 for c0 by e0
name_quick tw12268644228514654432 for c0 by e0
name_quick tw460243522976405022 for c0 by e0
name_quick tw4407734736301137906 for c0 by e0
name_quick tw4434333111790514575 for c0 by e0
name_quick tw5978237884098788730 for c0 by e0
name_quick tw9787463984185863102 for c0 by e0
name_quick tw10010936943081839664 for c0 by e0
name_quick tw151948405760981731 for c0 by e0
name_quick tw9759809726879904816 for c0 by e0
name_quick tw7035115661146626270 for c0 by e0
name_quick tw14311459727803291754 for c0 by e0
name_quick tw13607416678640721797 for c0 by e0
name_quick tw13215998728584607739 for c0 by e0
name_quick tw9285146279643344392 for c0 by e0
name_quick tw11130039905162102590 for c0 by e0
name_quick tw18101931140130867144 for c0 by e0
name_quick tw2193789692954389824 for c0 by e0
name_quick tw10073347824450446311 for c0 by e0
name_quick tw15007238320947547705 for c0 by e0
name_quick tw15168306246750427876 for c0 by e0
name_quick tw1617757218408452269 for c0 by e0
name_quick tw951843321253372498 for c0 by e0
name_quick tw3891137856419664920 for c0 by e0
name_quick tw13789449189825218787 for c0 by e0
name_quick tw16643379632663270332 for c0 by e0
name_quick tw16966814322356759819 for c0 by e0
name_quick tw4658958612460137192 for c0 by e0
name_quick tw8708707556590381134 for c0 by e0
name_quick tw17964007177503468958 for c0 by e0
name_quick tw1678274191532866277 for c0 by e0
name_quick tw7299951869573292228 for c0 by e0
name_quick tw17888162413812561239 for c0 by e0
name_quick tw14537914154153760125 for c0 by e0
name_quick tw5882768191206486792 for c0 by e0
name_quick tw4275521005467322725 for c0 by e0
name_quick tw14108194823987119177 for c0 by e0
name_quick tw912392155897948271 for c0 by e0
name_quick tw17164873540382356111 for c0 by e0
name_quick tw18260038339965228139 for c0 by e0
name_quick tw16180582048198870337 for c0 by e0
name_quick tw9979284746773624096 for c0 by e0
name_quick tw6589095468515690095 for c0 by e0
name_quick tw11270796479367742343 for c0 by e0
name_quick tw3820604794100220378 for c0 by e0
name_quick tw10948738476641704880 for c0 by e0
name_quick tw17975652961387846372 for c0 by e0
name_quick tw8032284361305108907 for c0 by e0
name_quick tw15278061642289888581 for c0 by e0
name_quick tw3698559305507148144 for c0 by e0
name_quick tw4527066259768149269 for c0 by e0
name_quick tw17274371674624000324 for c0 by e0
name_quick tw8224813933742928703 for c0 by e0
name_quick tw14333388528381170442 for c0 by e0
name_quick tw11853533878840232495 for c0 by e0
name_quick tw12825359941727978080 for c0 by e0
name_quick tw8579058602437062094 for c0 by e0
name_quick tw12393455550290869266 for c0 by e0
name_quick tw17111948838632640456 for c0 by e0
name_quick tw4319705520415482375 for c0 by e0
name_quick tw16817318245366136608 for c0 by e0
name_quick tw16548257151911338427 for c0 by e0
name_quick tw17552769576498331613 for c0 by e0
name_quick tw1735497430108182060 for c0 by e0
name_quick tw16947794391021106201 for c0 by e0
name_quick tw6711915476519705758 for c0 by e0
name_quick tw4978915544186085027 for c0 by e0
name_quick tw15900120412870309639 for c0 by e0
name_quick tw10007627690174824804 for c0 by e0
name_quick tw4292500188555128830 for c0 by e0
name_quick tw1749818173716722547 for c0 by e0
name_quick tw5823794197072137003 for c0 by e0
name_quick tw2315820567201803617 for c0 by e0
name_quick tw14884601019740666482 for c0 by e0
name_quick tw7496433998918960881 for c0 by e0
name_quick tw17069979004554194336 for c0 by e0
name_quick tw13016732220969518872 for c0 by e0
name_quick tw5076957145309523181 for c0 by e0
name_quick tw15263041282635125899 for c0 by e0
name_quick tw12659028871203227004 for c0 by e0
name_quick tw2905824091091238844 for c0 by e0
name_quick tw136631920214876835 for c0 by e0
name_quick tw5721027456603625697 for c0 by e0
name_quick tw13317431791736044220 for c0 by e0
name_quick tw12290603225136948437 for c0 by e0
name_quick tw6122645084068987007 for c0 by e0
name_quick tw1537898542681612871 for c0 by e0
name_quick tw14714103240675001986 for c0 by e0
name_quick tw1041845030581493396 for c0 by e0
name_quick tw5515242420486718171 for c0 by e0
name_quick tw2422670821966735624 for c0 by e0
name_quick tw8860024209350480642 for c0 by e0
name_quick tw8719427161674164953 for c0 by e0
name_quick tw7581816359482902497 for c0 by e0
name_quick tw9594665118957945026 for c0 by e0
name_quick tw3778451253796500701 for c0 by e0
name_quick tw9676229304581654039 for c0 by e0
name_quick tw7397068168572129948 for c0 by e0
name_quick tw17476080006546285661 for c0 by e0
name_quick tw11333186260410459676 for c0 by e0
name_quick tw16869277618539721502 for c0 by e0
name_quick tw15423634916342008072 for c0 by e0
name_quick tw3282434896037501709 for c0 by e0
name_quick tw2627984346626558326 for c0 by e0
name_quick tw16752143609539240740 for c0 by e0
name_quick tw6980452841517184909 for c0 by e0
name_quick tw7198390536060210744 for c0 by e0
name_quick tw4075660801711882420 for c0 by e0
name_quick tw15823609455315575823 for c0 by e0
name_quick tw12898947447245864913 for c0 by e0
name_quick tw6426273055680023932 for c0 by e0
name_quick tw2460228577881660442 for c0 by e0
name_quick tw5189142188285759775 for c0 by e0
name_quick tw16350708796919097252 for c0 by e0
name_quick tw724751600484774222 for c0 by e0
name_quick tw16487347958798203451 for c0 by e0
name_quick tw2283851925072248500 for c0 by e0
name_quick tw17954471519018878134 for c0 by e0
name_quick tw4302124980754421698 for c0 by e0
name_quick tw9458956999447867950 for c0 by e0
name_quick tw12734952128020822468 for c0 by e0
name_quick tw667198328695590252 for c0 by e0
name_quick tw7094674258960923220 for c0 by e0
name_quick tw4092842314794415792 for c0 by e0
name_quick tw8796240567053077481 for c0 by e0
name_quick tw10919533547850550483 for c0 by e0
name_quick tw1574873078441994576 for c0 by e0
name_quick tw17000155066101142889 for c0 by e0
name_quick tw16439824349840649037 for c0 by e0
name_quick tw16593013826814733010 for c0 by e0
name_quick tw15490439104401381959 for c0 by e0
name_quick tw16643706677886111943 for c0 by e0
name_quick tw16374537267813192141 for c0 by e0
name_quick tw10887116778572429059 for c0 by e0
name_quick tw1419416864934026935 for c0 by e0
name_quick tw10323183001455561277 for c0 by e0
name_quick tw3424931102881643321 for c0 by e0
name_quick tw5349121933718820234 for c0 by e0
name_quick tw9136488742655976645 for c0 by e0
name_quick tw15919542637913265678 for c0 by e0
name_quick tw15980859228951719591 for c0 by e0
name_quick tw17532440430192770315 for c0 by e0
name_quick tw2670528217467546775 for c0 by e0
name_quick tw2478078296215019888 for c0 by e0
name_quick tw11964429278604863157 for c0 by e0
name_quick tw2611137233208623240 for c0 by e0
name_quick tw856264945809894966 for c0 by e0
name_quick tw8206430501311747189 for c0 by e0
name_quick tw3105397867545767578 for c0 by e0
name_quick tw16296994325663420285 for c0 by e0
name_quick tw3976722010076183465 for c0 by e0
name_quick tw1258299570235058372 for c0 by e0
name_quick tw17988542015724977305 for c0 by e0
name_quick tw5396446701170858492 for c0 by e0
name_quick tw3972328310683599613 for c0 by e0
name_quick tw6679490504615227074 for c0 by e0
name_quick tw9763268239775435451 for c0 by e0
name_quick tw5697894365363955025 for c0 by e0
name_quick tw3442601649717412197 for c0 by e0
name_quick tw17207729816335089435 for c0 by e0
name_quick tw8753696776887207221 for c0 by e0
name_quick tw932993149863042379 for c0 by e0
name_quick tw3264259588550801142 for c0 by e0
name_quick tw6380047634161181297 for c0 by e0
name_quick tw14073706353221006472 for c0 by e0
name_quick tw13678640442995254988 for c0 by e0
name_quick tw11543547407058413889 for c0 by e0
name_quick tw11161088081135249708 for c0 by e0
name_quick tw1702518465993881591 for c0 by e0
name_quick tw6250672158363226905 for c0 by e0
name_quick tw4549333791460862111 for c0 by e0
name_quick tw8253183596043897158 for c0 by e0
name_quick tw8075568018651887793 for c0 by e0
name_quick tw14118861809426703445 for c0 by e0
name_quick tw17001327861769816259 for c0 by e0
name_quick tw14433975572909055671 for c0 by e0
name_quick tw5268983451555188008 for c0 by e0
name_quick tw15066959818950650227 for c0 by e0
name_quick tw4090926877573551719 for c0 by e0
name_quick tw13335737130258781183 for c0 by e0
name_quick tw12813236842856870187 for c0 by e0
name_quick tw1156252341971683116 for c0 by e0
name_quick tw12832477231654346042 for c0 by e0
name_quick tw9151444980202551346 for c0 by e0
name_quick tw313226197891681235 for c0 by e0
name_quick tw16018607276475445134 for c0 by e0
name_quick tw3152983702415266003 for c0 by e0
name_quick tw10942035263794033107 for c0 by e0
name_quick tw11108263761283441063 for c0 by e0
name_quick tw2862820112641550484 for c0 by e0
name_quick tw13254397897704925713 for c0 by e0
name_quick tw7269565832213808900 for c0 by e0
name_quick tw13776390136698705113 for c0 by e0
name_quick tw11625766737575182897 for c0 by e0
name_quick tw6550987210724342151 for c0 by e0
name_quick tw11186114360453789277 for c0 by e0
name_quick tw900395245841561262 for c0 by e0
name_quick tw6434265647005701932 for c0 by e0
name_quick tw11788150170368784547 for c0 by e0
name_quick tw11445135464325071761 for c0 by e0
name_quick tw4921902886906138986 for c0 by e0
name_quick tw3816822339857682293 for c0 by e0
name_quick tw12945451867199242903 for c0 by e0
name_quick tw1137731628767000213 for c0 by e0
name_quick tw8098380416015320538 for c0 by e0
name_quick tw11790162104776037713 for c0 by e0
name_quick tw7401281599722004195 for c0 by e0
name_quick tw11310463157757771331 for c0 by e0
name_quick tw14649835086701579774 for c0 by e0
name_quick tw15195428891847259777 for c0 by e0
name_quick tw16697116713213952808 for c0 by e0
name_quick tw5345256250457102556 for c0 by e0
name_quick tw878741703135273975 for c0 by e0
name_quick tw5770868932273138760 for c0 by e0
name_quick tw15855606640267800709 for c0 by e0
name_quick tw1962928258387122110 for c0 by e0
name_quick tw16241802466949684156 for c0 by e0
name_quick tw10996506086634736982 for c0 by e0
name_quick tw6059929106960060952 for c0 by e0
name_quick tw1333364371103165705 for c0 by e0
name_quick tw12237943961548833269 for c0 by e0
name_quick tw13642483538084851733 for c0 by e0
name_quick tw15663404670287596823 for c0 by e0
name_quick tw8603108125212654177 for c0 by e0
name_quick tw11994158751524154303 for c0 by e0
name_quick tw17300597898927385350 for c0 by e0
name_quick tw13615603153576403970 for c0 by e0
name_quick tw4039474712603431140 for c0 by e0
name_quick tw1218959903707654005 for c0 by e0
name_quick tw11863081143760314161 for c0 by e0
name_quick tw10205541121877940668 for c0 by e0
name_quick tw7299303143086499733 for c0 by e0
name_quick tw16916688483869632129 for c0 by e0
name_quick tw17828083071136270317 for c0 by e0
name_quick tw8017206721242287953 for c0 by e0
name_quick tw6434138532213402376 for c0 by e0
name_quick tw1620339239838986703 for c0 by e0
name_quick tw14553827428707814869 for c0 by e0
name_quick tw3039592710220408265 for c0 by e0
name_quick tw2660918139993853925 for c0 by e0
name_quick tw558745408833754511 for c0 by e0
name_quick tw7581352650102555174 for c0 by e0
name_quick tw17532718790514356516 for c0 by e0
name_quick tw10833955939284561965 for c0 by e0
name_quick tw15323854079317868165 for c0 by e0
name_quick tw13141144453892091621 for c0 by e0
name_quick tw9948023125614773506 for c0 by e0
name_quick tw4933834842325187142 for c0 by e0
name_quick tw10938465397075749097 for c0 by e0
name_quick tw721709456127091705 for c0 by e0
name_quick tw3118938333895590913 for c0 by e0
name_quick tw11682084944484805031 for c0 by e0
name_quick tw1414301608579184545 for c0 by e0
name_quick tw14223099787259518943 for c0 by e0
name_quick tw17018628822417861297 for c0 by e0
name_quick tw15475462885187679331 for c0 by e0
name_quick tw3636048126100218174 for c0 by e0
name_quick tw17428874351420789250 for c0 by e0
name_quick tw5706481520468235054 for c0 by e0
name_quick tw8595292554425487202 for c0 by e0
name_quick tw11985326045990495214 for c0 by e0
name_quick tw12177639751122801600 for c0 by e0
name_quick tw5925582254088234700 for c0 by e0
name_quick tw6929956602132211858 for c0 by e0
name_quick tw16979880578912567463 for c0 by e0
name_quick tw13236226663087606529 for c0 by e0
name_quick tw17057272898397164401 for c0 by e0
name_quick tw7783732958741208154 for c0 by e0
name_quick tw12392613427281201732 for c0 by e0
name_quick tw8555734327229750603 for c0 by e0
name_quick tw392140993173905013 for c0 by e0
name_quick tw10029231156530900338 for c0 by e0
name_quick tw8119918657739134586 for c0 by e0
name_quick tw18416463498863911781 for c0 by e0
name_quick tw11636919720809706868 for c0 by e0
name_quick tw8537084889766193716 for c0 by e0
name_quick tw17497748084772794779 for c0 by e0
name_quick tw4071324889030633612 for c0 by e0
name_quick tw12172078356533094185 for c0 by e0
name_quick tw3131671291697673992 for c0 by e0
name_quick tw15112985482279097393 for c0 by e0
name_quick tw12635297910168745909 for c0 by e0
name_quick tw18340240734955500558 for c0 by e0
name_quick tw11102312005483567511 for c0 by e0
name_quick tw12850107946570832962 for c0 by e0
name_quick tw4558998842232669794 for c0 by e0
name_quick tw7892128664451923741 for c0 by e0
name_quick tw2664551874359636763 for c0 by e0
name_quick tw1638017585896720355 for c0 by e0
name_quick tw8400853705098224536 for c0 by e0
name_quick tw18220123701641295943 for c0 by e0
name_quick tw9951705424602377420 for c0 by e0
name_quick tw11453259415203709369 for c0 by e0
name_quick tw4552823106982906706 for c0 by e0
name_quick tw13759679279233594173 for c0 by e0
name_quick tw2039238271031011813 for c0 by e0
name_quick tw10706342367453228570 for c0 by e0
name_quick tw6448080314894763839 for c0 by e0
name_quick tw2447775223705975068 for c0 by e0
name_quick tw15542503528162795033 for c0 by e0
name_quick tw4679858250743294509 for c0 by e0
name_quick tw12329403913580668285 for c0 by e0
name_quick tw13145125596335152023 for c0 by e0
name_quick tw9908251947323293946 for c0 by e0
name_quick tw5032809538720368765 for c0 by e0
name_quick tw18345786424863182364 for c0 by e0
name_quick tw505943868828395459 for c0 by e0
name_quick tw9407582987413476825 for c0 by e0
name_quick tw6792406925840432001 for c0 by e0
name_quick tw1092655722715705105 for c0 by e0
name_quick tw15766043655864335149 for c0 by e0
name_quick tw14224011070414065920 for c0 by e0
name_quick tw14210447440969649564 for c0 by e0
name_quick tw5701610774189311196 for c0 by e0
name_quick tw11317593695737139937 for c0 by e0
name_quick tw6817277305950994716 for c0 by e0
name_quick tw16349216596472256690 for c0 by e0
name_quick tw11420187438672877268 for c0 by e0
name_quick tw5111356299099525756 for c0 by e0
name_quick tw14112274594779413971 for c0 by e0
name_quick tw11939915149646268982 for c0 by e0
name_quick tw8642067239939848140 for c0 by e0
name_quick tw11013792430000457035 for c0 by e0
name_quick tw5518745428033880147 for c0 by e0
name_quick tw4748654258956052638 for c0 by e0
name_quick tw7745614565497352828 for c0 by e0
name_quick tw17968166531049318184 for c0 by e0
name_quick tw17537794083376710389 for c0 by e0
name_quick tw6683783046931543321 for c0 by e0
name_quick tw8727135674562949291 for c0 by e0
name_quick tw4797165386629745026 for c0 by e0
name_quick tw12022618010286034681 for c0 by e0
name_quick tw17434858337260393937 for c0 by e0
name_quick tw14979626087600564940 for c0 by e0
name_quick tw470574548607681690 for c0 by e0
name_quick tw2408619945344806742 for c0 by e0
name_quick tw11452132507678324671 for c0 by e0
name_quick tw8424611434330503625 for c0 by e0
name_quick tw13900631225919944168 for c0 by e0
name_quick tw14023627001141898710 for c0 by e0
name_quick tw8376441433122354887 for c0 by e0
name_quick tw4980102563643897964 for c0 by e0
name_quick tw15894407043143930727 for c0 by e0
name_quick tw12635813782599140982 for c0 by e0
name_quick tw4224760802259116069 for c0 by e0
name_quick tw11729385059970357855 for c0 by e0
name_quick tw13981391230805400906 for c0 by e0
name_quick tw10227693086864044499 for c0 by e0
name_quick tw14326252917377295143 for c0 by e0
name_quick tw6654550962395885724 for c0 by e0
name_quick tw6245536207120538393 for c0 by e0
name_quick tw16414604833108395602 for c0 by e0
name_quick tw16349804527192203551 for c0 by e0
name_quick tw15450981722951097364 for c0 by e0
name_quick tw7788680626742099145 for c0 by e0
name_quick tw5200128776193632040 for c0 by e0
name_quick tw12450158673883907302 for c0 by e0
name_quick tw7323676302269181137 for c0 by e0
name_quick tw9305782018832362445 for c0 by e0
name_quick tw387338674003428930 for c0 by e0
name_quick tw17000458434675057986 for c0 by e0
name_quick tw5135500740108067664 for c0 by e0
name_quick tw2719445374943340272 for c0 by e0
name_quick tw3880421473898291048 for c0 by e0
name_quick tw15480198773659482676 for c0 by e0
name_quick tw16049961110935095269 for c0 by e0
name_quick tw7650934615059315214 for c0 by e0
name_quick tw1772237422875290029 for c0 by e0
name_quick tw9529234661008812162 for c0 by e0
name_quick tw18211773271919218964 for c0 by e0
name_quick tw9467589175468403638 for c0 by e0
name_quick tw10470071008263537045 for c0 by e0
name_quick tw15742981410569661332 for c0 by e0
name_quick tw4775785305629353868 for c0 by e0
name_quick tw10317580896714288900 for c0 by e0
name_quick tw14530364306720264245 for c0 by e0
name_quick tw5902227825499142635 for c0 by e0
name_quick tw8989982439271903415 for c0 by e0
name_quick tw3764465048917985505 for c0 by e0
name_quick tw17279654841073493023 for c0 by e0
name_quick tw9800571698397750058 for c0 by e0
name_quick tw11566699232636054958 for c0 by e0
name_quick tw10424941004445345732 for c0 by e0
name_quick tw16176465441171805009 for c0 by e0
name_quick tw13512673800721320934 for c0 by e0
set_option maxRecDepth 100000 in
set_option maxHeartbeats 8000000 in
open_top hd for PySem.Challenge.rw_nu0032_01
end Mine
end
section
open PySem PySem.W PySem.Spec PySem.Calls PyProof.Rows
set_option maxRecDepth 100000
namespace Mine
noncomputable abbrev robj (n : Int) (t u v : Tok) : Obj := { cls := .type "range", dict := none, data := .fields #[.int 0 t, .int n u, .int 1 v], slots := #[] }
noncomputable abbrev lobj (vals : List Value) (n : Nat) : Obj := { cls := .type "list", data := .seq vals.toArray n }
noncomputable def S (l : List Nat) : Str := ⟨l.toArray⟩
inductive V where
  | none
  | bool (b : Bool)
  | int (i : Int)
  | str (l : List Nat)
  | tup (vs : List V)
  | lst (vs : List V)
  | obj (a : Nat)
  | rng (n : Int)
inductive Cell where
  | list (vs : List V)
  | inst (C d : Nat) (fs : List (Str × V))
  | exc (C d T : Nat) (fs : List (Str × V))
noncomputable def Cell.more : Cell → List Nat
  | .list _ => []
  | .inst _ d _ => [d]
  | .exc _ d T _ => [d, T]
noncomputable abbrev Store := Nat → Option Cell
noncomputable def upd (σ : Store) (a : Nat) (c : Cell) : Store := fun b => if b = a then some c else σ b
theorem upd_self (σ : Store) (a : Nat) (c : Cell) : upd σ a c a = some c := by simp [upd]
theorem upd_ne (σ : Store) {a b : Nat} (c : Cell) (h : b ≠ a) : upd σ a c b = σ b := by simp [upd, h]
theorem upd_upd (σ : Store) (a : Nat) (c c' : Cell) : upd (upd σ a c) a c' = upd σ a c' := by
  funext b; by_cases h : b = a <;> simp [upd, h]
theorem upd_same (σ : Store) {a : Nat} {c : Cell} (h : σ a = some c) : upd σ a c = σ := by
  funext b; by_cases e : b = a <;> simp [upd, e, h]
noncomputable def Mut (σ : Store) (a : Nat) : Prop := (∃ c, σ a = some c) ∨ ∃ x c, σ x = some c ∧ a ∈ c.more
mutual
inductive VR (h : Heap) (σ : Store) : V → Value → Prop
  | none : VR h σ .none .none
  | bool (b : Bool) : VR h σ (.bool b) (.bool b)
  | int (i : Int) (t : Tok) : VR h σ (.int i) (.int i t)
  | str (l : List Nat) (t : Tok) : VR h σ (.str l) (.str (S l) t)
  | tup {vs : List V} {vals : List Value} {a : Nat} : IsTup h a vals.toArray → ¬ Mut σ a → VRs h σ vs vals → VR h σ (.tup vs) (.ref a)
  | lst {vs : List V} {vals : List Value} {a n : Nat} : h.get? a = some (lobj vals n) → ¬ Mut σ a → VRs h σ vs vals → VR h σ (.lst vs) (.ref a)
  | obj (a : Nat) : VR h σ (.obj a) (.ref a)
  | rng {n : Int} {t u v : Tok} {a : Nat} : h.get? a = some (robj n t u v) → ¬ Mut σ a → VR h σ (.rng n) (.ref a)
inductive VRs (h : Heap) (σ : Store) : List V → List Value → Prop
  | nil : VRs h σ [] []
  | cons {v : V} {val : Value} {vs : List V} {vals : List Value} : VR h σ v val → VRs h σ vs vals → VRs h σ (v :: vs) (val :: vals)
end
noncomputable def Ents (h : Heap) (σ : Store) : List (Str × V) → List DictEntry → Prop
  | [], [] => True
  | (x, v) :: fs, e :: es => (∃ t, e.key = .str x t) ∧ VR h σ v e.val ∧ Ents h σ fs es
  | _, _ => False
noncomputable def CellAt (h : Heap) (σ : Store) (a : Nat) : Cell → Prop
  | .list vs => ∃ vals n, h.get? a = some (lobj vals n) ∧ VRs h σ vs vals
  | .inst C d fs => h.get? a = some (instObj C d) ∧ ∃ es n, h.get? d = some (dictOf es n) ∧ Ents h σ fs es
  | .exc C d T fs => (∃ oe vs, h.get? a = some oe ∧ oe.cls = .ref C ∧ oe.dict = some d ∧ oe.data = .fields vs ∧ vs[1]? = some (.ref T)) ∧
      (∃ oT ts, h.get? T = some oT ∧ oT.cls = .type "traceback" ∧ oT.data = .fields ts ∧ 3 < ts.size) ∧ ∃ es n, h.get? d = some (dictOf es n) ∧ Ents h σ fs es
noncomputable abbrev Loc := List (Str × V)
noncomputable def getV : Loc → Str → Option V
  | [], _ => none
  | (y, v) :: r, x => if y = x then some v else getV r x
noncomputable def setV : Loc → Str → V → Loc
  | [], x, v => [(x, v)]
  | (y, u) :: r, x, v => if y = x then (y, v) :: r else (y, u) :: setV r x v
theorem getV_setV (m : Loc) (x : Str) (v : V) (y : Str) : getV (setV m x v) y = if y = x then some v else getV m y := by
  induction m with
  | nil => simp only [setV, getV]; by_cases h : x = y <;> simp [h, eq_comm]
  | cons p r ih =>
    obtain ⟨z, u⟩ := p
    simp only [setV]
    by_cases h : z = x
    · subst h; simp only [if_true, getV]; by_cases q : z = y <;> simp [q, eq_comm]
      intro e; exact absurd e.symm q
    · simp only [h, if_false, getV, ih]
      by_cases q : z = y
      · subst q; simp [h]
      · simp [q]
noncomputable def LocR (h : Heap) (σ : Store) (m : Loc) (mm : Str → Option Value) : Prop := ∀ x v, getV m x = some v → ∃ val, mm x = some val ∧ VR h σ v val
structure Wd (Kf : Params → Frag) where
  prog : Program
  w : World
  p : Program
  loose : List Str
  mean : ExcName → Option Value
  mg : Str → Option Value
  mb : Str → Option Value
  b : Heap
  X : (Kf w.params).In b
  T : Top p loose mean mg mb b
structure Cx where
  outer : List Env
  dp : Nat
  un : Nat
  gd : Option (List Code)
  hd : Option Value
  L : Nat
  a : Nat
  cn : Str
  cs : Scope
  ccd : Value
noncomputable def Cx.env (c : Cx) : Env := envOf c.cn c.cs c.L c.a c.ccd
noncomputable def Cx.A (c : Cx) : Around := { handled := c.hd, depth := c.dp, frames := some (c.env :: c.outer), guards := c.gd, units := c.un }
structure Cx.Ok (c : Cx) (k : Nat) : Prop where
  dp : c.dp + k < recursionLimit
  un : c.un + 8 * k + 8 < cLine
  fn : c.cs.kind = .function
variable {Kf : Params → Frag}
structure St (W : Wd Kf) (c : Cx) (σ : Store) (m : Loc) (h : Heap) : Prop where
  fr : ∃ mm, Fr W.b c.L h mm ∧ LocR h σ m mm
  ff : h.FunFrames W.b c.outer
  cells : ∀ a cl, σ a = some cl → CellAt h σ a cl
  fresh : ∀ a, Mut σ a → W.b.get? a = none ∧ a ≠ c.L ∧ a ∉ c.outer.filterMap (·.frame)
  lnew : c.L ∉ c.outer.filterMap (·.frame)
  fd : ∀ b ∈ c.outer.filterMap (·.frame), ∀ o, h.get? b = some o → ∃ es n, o.data = .dict es n
  sep : ∀ x c d, σ x = some c → d ∈ c.more → σ d = none ∧ ∀ y c', σ y = some c' → d ∈ c'.more → y = x
structure Ext (L : Nat) (σ : Store) (h : Heap) (σ' : Store) (h' : Heap) : Prop where
  keep : ∀ a o, h.get? a = some o → ¬ Mut σ a → a ≠ L → ∃ sl, h'.get? a = some { o with slots := sl } ∧ ((∀ es n, o.data ≠ .dict es n) → sl = o.slots)
  grow : ∀ a, Mut σ' a → Mut σ a ∨ (h.get? a = none ∧ a ≠ L)
theorem Ext.refl {L : Nat} {σ : Store} {h : Heap} : Ext L σ h σ h := ⟨fun _ o e _ _ => ⟨o.slots, e, fun _ => rfl⟩, fun _ x => .inl x⟩
theorem Ext.trans {L : Nat} {σ₁ σ₂ σ₃ : Store} {h₁ h₂ h₃ : Heap} (x : Ext L σ₁ h₁ σ₂ h₂) (y : Ext L σ₂ h₂ σ₃ h₃) : Ext L σ₁ h₁ σ₃ h₃ := by
  refine ⟨fun a o e n l => ?_, fun a q => ?_⟩
  · obtain ⟨s1, e1, d1⟩ := x.keep a o e n l
    have n2 : ¬ Mut σ₂ a := fun q => (x.grow a q).elim n fun z => by rw [e] at z; cases z.1
    obtain ⟨s2, e2, d2⟩ := y.keep a _ e1 n2 l
    exact ⟨s2, e2, fun nd => (d2 nd).trans (d1 nd)⟩
  · rcases y.grow a q with q | ⟨q, l⟩
    · exact x.grow a q
    · by_cases z : Mut σ₁ a
      · exact .inl z
      · cases e : h₁.get? a with
        | none => exact .inr ⟨rfl, l⟩
        | some o =>
          obtain ⟨s1, e1, _⟩ := x.keep a o e z l
          rw [q] at e1; cases e1
theorem Ext.notMut {L a : Nat} {σ σ' : Store} {h h' : Heap} {o : Obj} (x : Ext L σ h σ' h') (e : h.get? a = some o) (n : ¬ Mut σ a) : ¬ Mut σ' a := fun q =>
  (x.grow a q).elim n fun z => by rw [e] at z; cases z.1
theorem ne_of_ns {h : Heap} {L a : Nat} {mm : Str → Option Value} {o : Obj} (hn : h.Ns L mm) (e : h.get? a = some o) (hd : ∀ es n, o.data ≠ .dict es n) : a ≠ L := by
  rintro rfl
  obtain ⟨o', es, ep, ho, hd', _⟩ := hn
  rw [e] at ho
  cases ho
  exact hd es ep hd'
theorem Ext.exact {L a : Nat} {σ σ' : Store} {h h' : Heap} {mm : Str → Option Value} {o : Obj} (x : Ext L σ h σ' h') (hn : h.Ns L mm) (e : h.get? a = some o) (hd : ∀ es n, o.data ≠ .dict es n) (n : ¬ Mut σ a) : h'.get? a = some o ∧ ¬ Mut σ' a := by
  obtain ⟨sl, e', q⟩ := x.keep a o e n (ne_of_ns hn e hd)
  have := q hd
  subst this
  exact ⟨e', x.notMut e n⟩
theorem IsTup.ext {L a : Nat} {σ σ' : Store} {h h' : Heap} {mm : Str → Option Value} {vs : Array Value} (x : Ext L σ h σ' h') (hn : h.Ns L mm) (t : IsTup h a vs) (n : ¬ Mut σ a) : IsTup h' a vs ∧ ¬ Mut σ' a := by
  obtain ⟨o, e, hc, k, hd⟩ := t
  obtain ⟨e', n'⟩ := x.exact hn e (fun es m q => by rw [hd] at q; cases q) n
  exact ⟨⟨_, e', hc, k, hd⟩, n'⟩
section vrmap
variable {σ σ' : Store} {h h' : Heap} (ft : ∀ a vs, IsTup h a vs → ¬ Mut σ a → IsTup h' a vs ∧ ¬ Mut σ' a) (fl : ∀ a vals n, h.get? a = some (lobj vals n) → ¬ Mut σ a → h'.get? a = some (lobj vals n) ∧ ¬ Mut σ' a)
  (fr : ∀ a n t u v, h.get? a = some (robj n t u v) → ¬ Mut σ a → h'.get? a = some (robj n t u v) ∧ ¬ Mut σ' a)
include ft fl fr
mutual
theorem VR.map {v : V} {val : Value} : VR h σ v val → VR h' σ' v val
  | .none => .none
  | .bool b => .bool b
  | .int i t => .int i t
  | .str l t => .str l t
  | .tup t n r => .tup (ft _ _ t n).1 (ft _ _ t n).2 (VRs.map r)
  | .lst t n r => .lst (fl _ _ _ t n).1 (fl _ _ _ t n).2 (VRs.map r)
  | .obj a => .obj a
  | .rng t n => .rng (fr _ _ _ _ _ t n).1 (fr _ _ _ _ _ t n).2
theorem VRs.map {vs : List V} {vals : List Value} : VRs h σ vs vals → VRs h' σ' vs vals
  | .nil => .nil
  | .cons r rs => .cons (VR.map r) (VRs.map rs)
end
end vrmap
theorem VR.ext {L : Nat} {σ σ' : Store} {h h' : Heap} {mm : Str → Option Value} (x : Ext L σ h σ' h') (hn : h.Ns L mm) {v : V} {val : Value} (r : VR h σ v val) : VR h' σ' v val :=
  VR.map (fun _ _ t n => IsTup.ext x hn t n) (fun _ _ _ t n => x.exact hn t (fun _ _ q => Data.noConfusion q) n) (fun _ _ _ _ _ t n => x.exact hn t (fun _ _ q => Data.noConfusion q) n) r
theorem VRs.ext {L : Nat} {σ σ' : Store} {h h' : Heap} {mm : Str → Option Value} (x : Ext L σ h σ' h') (hn : h.Ns L mm) {vs : List V} {vals : List Value} (r : VRs h σ vs vals) : VRs h' σ' vs vals :=
  VRs.map (fun _ _ t n => IsTup.ext x hn t n) (fun _ _ _ t n => x.exact hn t (fun _ _ q => Data.noConfusion q) n) (fun _ _ _ _ _ t n => x.exact hn t (fun _ _ q => Data.noConfusion q) n) r
inductive RetP (W : Wd Kf) (c : Cx) (S₀ : Shared) (σ : Store) (h : Heap) (m : Loc) (Q : V → Store → Prop) (val : Value) (s' : Shared) : Prop
  | mk (h' : Heap) (tk' : Nat) (σ' : Store) (v : V) : s' = { S₀ with heap := h', toks := tk' } → St W c σ' m h' → Ext c.L σ h σ' h' → VR h' σ' v val ∧ Q v σ' → RetP W c S₀ σ h m Q val s'
inductive RetsP (W : Wd Kf) (c : Cx) (S₀ : Shared) (σ : Store) (h : Heap) (m : Loc) (Q : List V → Store → Prop) (vals : List Value) (s' : Shared) : Prop
  | mk (h' : Heap) (tk' : Nat) (σ' : Store) (vs : List V) : s' = { S₀ with heap := h', toks := tk' } → St W c σ' m h' → Ext c.L σ h σ' h' → VRs h' σ' vs vals ∧ Q vs σ' → RetsP W c S₀ σ h m Q vals s'
inductive TestP (W : Wd Kf) (c : Cx) (S₀ : Shared) (σ : Store) (h : Heap) (m : Loc) (Q : Bool → Store → Prop) (b : Bool) (s' : Shared) : Prop
  | mk (h' : Heap) (tk' : Nat) (σ' : Store) : s' = { S₀ with heap := h', toks := tk' } → St W c σ' m h' → Ext c.L σ h σ' h' → Q b σ' → TestP W c S₀ σ h m Q b s'
noncomputable def Fly (L T : Nat) (h : Heap) : Prop := ∃ oT ts, h.get? T = some oT ∧ oT.data = .fields ts ∧ (ts[3]? = some .none ∨ ts[3]? = some (rawInt L))
noncomputable def faultOf (d T : Nat) (msg : V) (p : Int) : Cell := .exc 63 d T [("message", msg), ("place", .int p)]
inductive ExcP (W : Wd Kf) (c : Cx) (S₀ : Shared) (σ : Store) (h : Heap) (m : Loc) (E : Int → Store → Prop) (val : Value) (s' : Shared) : Prop
  | mk (h' : Heap) (tk' : Nat) (σ' : Store) (e d T : Nat) (msg : V) (p : Int) : s' = { S₀ with heap := h', toks := tk' } → St W c (upd σ' e (faultOf d T msg p)) m h' → Ext c.L σ h (upd σ' e (faultOf d T msg p)) h' →
      val = .ref e ∧ Fly c.L T h' ∧ σ' e = none ∧ E p σ' → ExcP W c S₀ σ h m E val s'
noncomputable def TE (W : Wd Kf) (cs : Scope) (k : Nat) (hd : Option Value) (e : Expr) (m : Loc) (σ : Store) (Q : V → Store → Prop) (E : Int → Store → Prop) : Prop :=
  ∀ (c : Cx) (S₀ : Shared) (h : Heap) (tk : Nat), c.cs = cs → c.hd = hd → c.Ok k → St W c σ m h →
    wpAny (model W.prog W.w) c.A (eval e c.env) (RetP W c S₀ σ h m Q) (ExcP W c S₀ σ h m E) { S₀ with heap := h, toks := tk }
noncomputable def TEs (W : Wd Kf) (cs : Scope) (k : Nat) (hd : Option Value) (es : List Expr) (pos : Pos) (m : Loc) (σ : Store) (Q : List V → Store → Prop) (E : Int → Store → Prop) : Prop :=
  ∀ (c : Cx) (S₀ : Shared) (h : Heap) (tk : Nat), c.cs = cs → c.hd = hd → c.Ok k → St W c σ m h →
    wpAny (model W.prog W.w) c.A (spliced (backTo pos (starEach es c.env)))
      (RetsP W c S₀ σ h m Q) (ExcP W c S₀ σ h m E) { S₀ with heap := h, toks := tk }
noncomputable def TB (W : Wd Kf) (cs : Scope) (k : Nat) (hd : Option Value) (e : Expr) (m : Loc) (σ : Store) (Q : Bool → Store → Prop) (E : Int → Store → Prop) : Prop :=
  ∀ (c : Cx) (S₀ : Shared) (h : Heap) (tk : Nat), c.cs = cs → c.hd = hd → c.Ok k → St W c σ m h →
    wpAny (model W.prog W.w) c.A (isTrue e c.env (eval e c.env))
      (TestP W c S₀ σ h m Q) (ExcP W c S₀ σ h m E) { S₀ with heap := h, toks := tk }
noncomputable def TO (W : Wd Kf) (k : Nat) (hd : Option Value) (t : List Value → Sem Value) (vs : List V) (σ : Store) (Q : V → Store → Prop) (E : Int → Store → Prop) : Prop :=
  ∀ (c : Cx) (S₀ : Shared) (h : Heap) (tk : Nat) (m : Loc) (vals : List Value), c.hd = hd → c.Ok k → St W c σ m h → VRs h σ vs vals →
    wpAny (model W.prog W.w) c.A (t vals) (RetP W c S₀ σ h m Q) (ExcP W c S₀ σ h m E) { S₀ with heap := h, toks := tk }
inductive FlowP (W : Wd Kf) (c : Cx) (S₀ : Shared) (σ : Store) (h : Heap) (Qn : Loc → Store → Prop) (Qr : V → Store → Prop) (f : Flow) (s' : Shared) : Prop
  | mk (h' : Heap) (tk' : Nat) (σ' : Store) (m' : Loc) : s' = { S₀ with heap := h', toks := tk' } → St W c σ' m' h' → Ext c.L σ h σ' h' → (match f with
    | .next => Qn m' σ'
    | .ret val => ∃ v, VR h' σ' v val ∧ Qr v σ'
    | _ => False) → FlowP W c S₀ σ h Qn Qr f s'
inductive ExcS (W : Wd Kf) (c : Cx) (S₀ : Shared) (σ : Store) (h : Heap) (E : Int → Loc → Store → Prop) (val : Value) (s' : Shared) : Prop
  | mk (m' : Loc) : ExcP W c S₀ σ h m' (fun p σ' => E p m' σ') val s' → ExcS W c S₀ σ h E val s'
noncomputable def T1 (W : Wd Kf) (cs : Scope) (k : Nat) (hd : Option Value) (st : Stmt) (m : Loc) (σ : Store) (Qn : Loc → Store → Prop) (Qr : V → Store → Prop) (E : Int → Loc → Store → Prop) : Prop :=
  ∀ (c : Cx) (S₀ : Shared) (h : Heap) (tk : Nat), c.cs = cs → c.hd = hd → c.Ok k → St W c σ m h →
    wpAny (model W.prog W.w) c.A (exec st c.env) (FlowP W c S₀ σ h Qn Qr) (ExcS W c S₀ σ h E) { S₀ with heap := h, toks := tk }
noncomputable def TS (W : Wd Kf) (cs : Scope) (k : Nat) (hd : Option Value) (ss : List Stmt) (m : Loc) (σ : Store) (Qn : Loc → Store → Prop) (Qr : V → Store → Prop) (E : Int → Loc → Store → Prop) : Prop :=
  ∀ (c : Cx) (S₀ : Shared) (h : Heap) (tk : Nat), c.cs = cs → c.hd = hd → c.Ok k → St W c σ m h →
    wpAny (model W.prog W.w) c.A (execs ss c.env) (FlowP W c S₀ σ h Qn Qr) (ExcS W c S₀ σ h E) { S₀ with heap := h, toks := tk }
end Mine
end
section
open PySem PySem.W PySem.Spec PySem.Calls PyProof.Rows
set_option maxRecDepth 100000
namespace Mine
variable {Kf : Params → Frag} {W : Wd Kf} {cs : Scope} {k : Nat} {hd : Option Value} {m : Loc} {σ : Store} {E : Int → Store → Prop}
theorem St.ns {c : Cx} {h : Heap} (s : St W c σ m h) : ∃ mm, h.Ns c.L mm := let ⟨mm, F, _⟩ := s.fr; ⟨mm, F.ns⟩
theorem St.X {c : Cx} {h : Heap} (s : St W c σ m h) : (Kf W.w.params).In h := let ⟨_, F, _⟩ := s.fr; W.X.keeps F.keep
theorem St.stays {c : Cx} {h : Heap} (s : St W c σ m h) : ∀ b o, W.b.get? b = some o → h.get? b = some o := let ⟨_, F, _⟩ := s.fr; F.keep
theorem ExcP.lift {c : Cx} {S₀ : Shared} {σ₁ : Store} {h h₁ : Heap} {val : Value} {s : Shared} (x : Ext c.L σ h σ₁ h₁) (e : ExcP W c S₀ σ₁ h₁ m E val s) : ExcP W c S₀ σ h m E val s := by
  obtain ⟨h', tk', σ', e', d, T, msg, p, rfl, a, b, r⟩ := e
  exact ⟨h', tk', σ', e', d, T, msg, p, rfl, a, x.trans b, r⟩
theorem RetP.lift {c : Cx} {S₀ : Shared} {σ₁ : Store} {h h₁ : Heap} {Q : V → Store → Prop} {val : Value} {s : Shared} (x : Ext c.L σ h σ₁ h₁) (e : RetP W c S₀ σ₁ h₁ m Q val s) : RetP W c S₀ σ h m Q val s := by
  obtain ⟨h', tk', σ', e', rfl, a, b, r⟩ := e
  exact ⟨h', tk', σ', e', rfl, a, x.trans b, r⟩
theorem RetP.here {c : Cx} {S₀ : Shared} {h : Heap} {tk' : Nat} {Q : V → Store → Prop} {v : V} {val : Value} (s : St W c σ m h) (r : VR h σ v val) (q : Q v σ) : RetP W c S₀ σ h m Q val { S₀ with heap := h, toks := tk' } :=
  ⟨h, tk', σ, v, rfl, s, .refl, r, q⟩
section atoms
variable {Q : V → Store → Prop} {pos : Pos}
theorem TE.local {x : Str} {v : V} (hv : getV m x = some v) (hx : cs.names.lookup x = some .local) (q : Q v σ) (hdb : (x == ("__debug__" : Str)) = false := by decide) : TE W cs k hd (.Name x pos) m σ Q E := by
  intro c S₀ h tk rfl hc o s
  obtain ⟨mm, F, R⟩ := id s.fr
  obtain ⟨val, e, r⟩ := R x v hv
  exact ld F e (.here s r q) o.fn hx hdb
theorem TE.int {i : Int} {kk : Nat} (q : Q (.int i) σ) : TE W cs k hd (.Constant (.int i) kk pos) m σ Q E :=
  fun _ _ _ _ _ _ _ s => wpAny_Constant_int (.here s (.int _ _) q)
theorem TE.bool {i : Bool} {kk : Nat} (q : Q (.bool i) σ) : TE W cs k hd (.Constant (.bool i) kk pos) m σ Q E :=
  fun _ _ _ tk _ _ _ s => wpAny_Constant_bool (RetP.here (tk' := tk) s (.bool _) q)
theorem TE.none {kk : Nat} (q : Q .none σ) : TE W cs k hd (.Constant .none kk pos) m σ Q E :=
  fun _ _ _ tk _ _ _ s => wpAny_Constant_none (RetP.here (tk' := tk) s .none q)
theorem TE.str {x : Str} {l : List Nat} {kk : Nat} (e : x.cps.toList = l) (q : Q (.str l) σ) : TE W cs k hd (.Constant (.str x) kk pos) m σ Q E :=
  fun _ _ _ _ _ _ _ s => wpAny_Constant_str (.here s ((show x = S l by subst e; rfl) ▸ .str _ _) q)
theorem TE.global {x : Str} {v : V} {val : Value} (e : nsIn (Kf W.w.params) mainGlobals x = some (some val)) (r : ∀ h σ, VR h σ v val) (hx : cs.names.lookup x = some .globalImplicit) (q : Q v σ) (hdb : (x == ("__debug__" : Str)) = false := by decide) :
    TE W cs k hd (.Name x pos) m σ Q E := by
  intro c S₀ h tk rfl hc o s
  obtain ⟨mm, F, R⟩ := id s.fr
  exact nameX_K (cl := []) F W.X (topRead_of W.T) e (RetP.here (tk' := tk) s (r _ _) q) o.fn hx hdb
end atoms
section nodes
variable {Q : V → Store → Prop} {pos : Pos}
noncomputable def o1 (f : Value → Sem Value) : List Value → Sem Value
  | [a] => f a
  | _ => unsupported "o1"
noncomputable def o2 (f : Value → Value → Sem Value) : List Value → Sem Value
  | [a, b] => f a b
  | _ => unsupported "o2"
theorem TE.two {l r : Expr} {f : Value → Value → Sem Value} {e : Expr}
    (rule : ∀ {M : Model} {A : Around} {env : Env} {Q : Value → Shared → Prop} {E : Value → Shared → Prop} {s : Shared}, wpAny M A (eval l env) (fun a s₁ => wpAny M A (eval r env) (fun b s₂ => wpAny M A (f a b) Q E s₂) E s₁) E s → wpAny M A (eval e env) Q E s)
    (h : TE W cs k hd l m σ (fun a σ₁ => TE W cs k hd r m σ₁ (fun b σ₂ => TO W k hd (o2 f) [a, b] σ₂ Q E) E) E) : TE W cs k hd e m σ Q E := by
  intro c S₀ hp tk hc hh ho s
  refine rule (wpAny_mono (h c S₀ hp tk hc hh ho s) (fun a s₁ h₁ => ?_) fun _ _ x => x)
  obtain ⟨h1, tk1, σ1, v1, rfl, st1, x1, r1, q1⟩ := h₁
  refine wpAny_mono (q1 c S₀ h1 tk1 hc hh ho st1) (fun b s₂ h₂ => ?_) fun _ _ e => e.lift x1
  obtain ⟨h2, tk2, σ2, v2, rfl, st2, x2, r2, q2⟩ := h₂
  obtain ⟨mm, hn⟩ := st1.ns
  exact wpAny_mono (q2 c S₀ h2 tk2 m [a, b] hh ho st2 (.cons (r1.ext x2 hn) (.cons r2 .nil))) (fun v s' h' => (h'.lift x2).lift x1) fun v s' h' => (h'.lift x2).lift x1
theorem TE.binop {l r : Expr} {op : Operator} (h : TE W cs k hd l m σ (fun a σ₁ => TE W cs k hd r m σ₁ (fun b σ₂ => TO W k hd (o2 (binaryOp op)) [a, b] σ₂ Q E) E) E) : TE W cs k hd (.BinOp l op r pos) m σ Q E :=
  TE.two (fun x => wpAny_BinOp x) h
theorem TE.compare {l r : Expr} {op : CmpOp} (hm : behindInMarks op r = false) (h : TE W cs k hd l m σ (fun a σ₁ => TE W cs k hd r m σ₁ (fun b σ₂ => TO W k hd (o2 (compareOp op)) [a, b] σ₂ Q E) E) E) : TE W cs k hd (.Compare l [op] [r] pos) m σ Q E :=
  TE.two (fun x => wpAny_Compare1 x hm) h
theorem TE.unary {x : Expr} {op : UnaryOp} (h : TE W cs k hd x m σ (fun a σ₁ => TO W k hd (o1 (unaryOp op)) [a] σ₁ Q E) E) : TE W cs k hd (.UnaryOp op x pos) m σ Q E := by
  intro c S₀ hp tk hc hh ho s
  refine wpAny_UnaryOp (wpAny_mono (h c S₀ hp tk hc hh ho s) (fun a s₁ h₁ => ?_) fun _ _ x => x)
  obtain ⟨h1, tk1, σ1, v1, rfl, st1, x1, r1, q1⟩ := h₁
  exact wpAny_mono (q1 c S₀ h1 tk1 m [a] hh ho st1 (.cons r1 .nil)) (fun v s' h' => h'.lift x1) fun v s' h' => h'.lift x1
theorem TEs.nil {Q : List V → Store → Prop} (q : Q [] σ) : TEs W cs k hd [] pos m σ Q E := fun c S₀ h tk _ _ _ s => wpAny_items_nil ⟨h, tk, σ, [], rfl, s, .refl, .nil, q⟩
theorem TEs.cons {Q : List V → Store → Prop} {e : Expr} {rest : List Expr} (he : ∀ env, starEach (e :: rest) env = (false, eval e env) :: starEach rest env)
    (h : TE W cs k hd e m σ (fun a σ₁ => TEs W cs k hd rest pos m σ₁ (fun as σ₂ => Q (a :: as) σ₂) E) E) : TEs W cs k hd (e :: rest) pos m σ Q E := by
  intro c S₀ hp tk hc hh ho s
  refine wpAny_items_cons (wpAny_mono (h c S₀ hp tk hc hh ho s) (fun a s₁ h₁ => ?_) fun _ _ x => x) (he _)
  obtain ⟨h1, tk1, σ1, v1, rfl, st1, x1, r1, q1⟩ := h₁
  refine wpAny_mono (q1 c S₀ h1 tk1 hc hh ho st1) (fun vs s₂ h₂ => ?_) fun _ _ e => e.lift x1
  obtain ⟨h2, tk2, σ2, v2, rfl, st2, x2, r2, q2⟩ := h₂
  obtain ⟨mm, hn⟩ := st1.ns
  exact ⟨h2, tk2, σ2, _, rfl, st2, x1.trans x2, .cons (r1.ext x2 hn) r2, q2⟩
theorem TE.ifexp {test body orelse : Expr} (h : TB W cs k hd test m σ (fun b σ₁ => (b = true → TE W cs k hd body m σ₁ Q E) ∧ (b = false → TE W cs k hd orelse m σ₁ Q E)) E) : TE W cs k hd (.IfExp test body orelse pos) m σ Q E := by
  intro c S₀ hp tk hc hh ho s
  refine wpAny_IfExp (wpAny_mono (h c S₀ hp tk hc hh ho s) (fun b s₁ h₁ => ?_) fun _ _ x => x)
  obtain ⟨h1, tk1, σ1, rfl, st1, x1, q1⟩ := h₁
  cases b
  · exact wpAny_mono (q1.2 rfl c S₀ h1 tk1 hc hh ho st1) (fun v s' h' => h'.lift x1) fun v s' h' => h'.lift x1
  · exact wpAny_mono (q1.1 rfl c S₀ h1 tk1 hc hh ho st1) (fun v s' h' => h'.lift x1) fun v s' h' => h'.lift x1
end nodes
section tests
variable {Q : Bool → Store → Prop} {pos : Pos}
noncomputable def Tru (W : Wd Kf) (k : Nat) (hd : Option Value) (v : V) (σ : Store) (Q : Bool → Store → Prop) : Prop :=
  ∀ (c : Cx) (S₀ : Shared) (h : Heap) (tk : Nat) (m : Loc) (val : Value) (E : Value → Shared → Prop), c.hd = hd → c.Ok k → St W c σ m h → VR h σ v val →
    wpAny (model W.prog W.w) c.A (truthy val) (fun b s' => ∃ tk', s' = { S₀ with heap := h, toks := tk' } ∧ Q b σ) E { S₀ with heap := h, toks := tk }
theorem TB.value {e : Expr} (he : ∀ env whole, isTrue e env whole = (do let v ← whole; standAt e.pos; holding [v] (truthy v))) (h : TE W cs k hd e m σ (fun v σ₁ => Tru W k hd v σ₁ Q) E) : TB W cs k hd e m σ Q E := by
  intro c S₀ hp tk hc hh ho s
  refine wpAny_isTrue_value (wpAny_mono (h c S₀ hp tk hc hh ho s) (fun a s₁ h₁ => ?_) fun _ _ x => x) (he _ _)
  obtain ⟨h1, tk1, σ1, v1, rfl, st1, x1, r1, q1⟩ := h₁
  refine wpAny_mono (q1 c S₀ h1 tk1 m a _ hh ho st1 r1) (fun b s' h' => ?_) fun _ _ x => x
  obtain ⟨tk', rfl, q⟩ := h'
  exact ⟨h1, tk', σ1, rfl, st1, x1, q⟩
theorem TB.compare {l r : Expr} {op : CmpOp} (hm : behindInMarks op r = false) (h : TE W cs k hd l m σ (fun a σ₁ => TE W cs k hd r m σ₁ (fun b σ₂ => TO W k hd (o2 (compareOp op)) [a, b] σ₂ (fun v σ₃ => ∃ b, v = .bool b ∧ Q b σ₃) E) E) E) : TB W cs k hd (.Compare l [op] [r] pos) m σ Q E := by
  intro c S₀ hp tk hc hh ho s
  refine wpAny_isTrue_Compare1 (wpAny_mono (h c S₀ hp tk hc hh ho s) (fun a s₁ h₁ => ?_) fun _ _ x => x) hm
  obtain ⟨h1, tk1, σ1, v1, rfl, st1, x1, r1, q1⟩ := h₁
  refine wpAny_mono (q1 c S₀ h1 tk1 hc hh ho st1) (fun b s₂ h₂ => ?_) fun _ _ e => e.lift x1
  obtain ⟨h2, tk2, σ2, v2, rfl, st2, x2, r2, q2⟩ := h₂
  obtain ⟨mm, hn⟩ := st1.ns
  refine wpAny_mono (q2 c S₀ h2 tk2 m [a, b] hh ho st2 (.cons (r1.ext x2 hn) (.cons r2 .nil))) (fun v s' h' => ?_) fun v s' h' => (h'.lift x2).lift x1
  obtain ⟨h3, tk3, σ3, v3, rfl, st3, x3, r3, b3, rfl, q3⟩ := h'
  cases r3
  exact wpAny_truthy_bool ⟨h3, tk3, σ3, rfl, st3, x1.trans (x2.trans x3), q3⟩
theorem TB.not {x : Expr} (h : TB W cs k hd x m σ (fun b σ₁ => Q (!b) σ₁) E) : TB W cs k hd (.UnaryOp .Not x pos) m σ Q E := by
  intro c S₀ hp tk hc hh ho s
  refine wpAny_isTrue_Not (wpAny_mono (h c S₀ hp tk hc hh ho s) (fun b s₁ h₁ => ?_) fun _ _ x => x)
  obtain ⟨h', tk', σ', e, st, x, q⟩ := h₁
  exact ⟨h', tk', σ', e, st, x, q⟩
noncomputable def TAll (W : Wd Kf) (cs : Scope) (k : Nat) (hd : Option Value) (op : BoolOp) (es : List Expr) (m : Loc) (σ : Store) (Q : Bool → Store → Prop) (E : Int → Store → Prop) : Prop :=
  ∀ (c : Cx) (S₀ : Shared) (h : Heap) (tk : Nat), c.cs = cs → c.hd = hd → c.Ok k → St W c σ m h →
    wpAny (model W.prog W.w) c.A (allTrue op es c.env)
      (TestP W c S₀ σ h m Q) (ExcP W c S₀ σ h m E) { S₀ with heap := h, toks := tk }
theorem TB.boolop {op : BoolOp} {es : List Expr} (h : TAll W cs k hd op es m σ Q E) : TB W cs k hd (.BoolOp op es pos) m σ Q E :=
  fun c S₀ hp tk hc hh ho s => wpAny_isTrue_BoolOp (h c S₀ hp tk hc hh ho s)
theorem TAll.andNil (q : Q true σ) : TAll W cs k hd .And [] m σ Q E := fun c S₀ h tk _ _ _ s => wpAny_allTrue_And_nil ⟨h, tk, σ, rfl, s, .refl, q⟩
theorem TAll.orNil (q : Q false σ) : TAll W cs k hd .Or [] m σ Q E := fun c S₀ h tk _ _ _ s => wpAny_allTrue_Or_nil ⟨h, tk, σ, rfl, s, .refl, q⟩
theorem TAll.andCons {e : Expr} {es : List Expr} (h : TB W cs k hd e m σ (fun b σ₁ => (b = true → TAll W cs k hd .And es m σ₁ Q E) ∧ (b = false → Q false σ₁)) E) : TAll W cs k hd .And (e :: es) m σ Q E := by
  intro c S₀ hp tk hc hh ho s
  refine wpAny_allTrue_And_cons (wpAny_mono (h c S₀ hp tk hc hh ho s) (fun b s₁ h₁ => ?_) fun _ _ x => x)
  obtain ⟨h1, tk1, σ1, rfl, st1, x1, q1⟩ := h₁
  cases b
  · exact ⟨h1, tk1, σ1, rfl, st1, x1, q1.2 rfl⟩
  · refine wpAny_mono (q1.1 rfl c S₀ h1 tk1 hc hh ho st1) (fun v s' h' => ?_) fun v s' h' => h'.lift x1
    obtain ⟨h2, tk2, σ2, rfl, st2, x2, q2⟩ := h'
    exact ⟨h2, tk2, σ2, rfl, st2, x1.trans x2, q2⟩
theorem TAll.orCons {e : Expr} {es : List Expr} (h : TB W cs k hd e m σ (fun b σ₁ => (b = true → Q true σ₁) ∧ (b = false → TAll W cs k hd .Or es m σ₁ Q E)) E) : TAll W cs k hd .Or (e :: es) m σ Q E := by
  intro c S₀ hp tk hc hh ho s
  refine wpAny_allTrue_Or_cons (wpAny_mono (h c S₀ hp tk hc hh ho s) (fun b s₁ h₁ => ?_) fun _ _ x => x)
  obtain ⟨h1, tk1, σ1, rfl, st1, x1, q1⟩ := h₁
  cases b
  · refine wpAny_mono (q1.2 rfl c S₀ h1 tk1 hc hh ho st1) (fun v s' h' => ?_) fun v s' h' => h'.lift x1
    obtain ⟨h2, tk2, σ2, rfl, st2, x2, q2⟩ := h'
    exact ⟨h2, tk2, σ2, rfl, st2, x1.trans x2, q2⟩
  · exact ⟨h1, tk1, σ1, rfl, st1, x1, q1.1 rfl⟩
theorem Tru.bool {b : Bool} (q : Q b σ) : Tru W k hd (.bool b) σ Q := fun _ _ _ tk _ _ _ _ _ _ r => by cases r; exact wpAny_truthy_bool ⟨tk, rfl, q⟩
end tests
end Mine
end
section
open PySem PySem.W PySem.Spec PySem.Calls PyProof.Rows
set_option maxRecDepth 100000
namespace Mine
variable {Kf : Params → Frag} {W : Wd Kf} {cs : Scope} {k : Nat} {hd : Option Value} {m : Loc} {σ : Store} {E : Int → Store → Prop}
theorem St.frames {c : Cx} {h : Heap} (s : St W c σ m h) (hk : c.cs.kind = .function) : h.FunFrames W.b (c.env :: c.outer) := by
  obtain ⟨mm, F, _⟩ := s.fr
  refine .cons (by show c.cs.kind ≠ .module; rw [hk]; decide) rfl F.ns ?_ s.ff
  cases q : W.b.get? c.L with
  | none => rfl
  | some o => exact absurd (Nat.lt_of_lt_of_le (Heap.lt_size q) F.above) (Nat.lt_irrefl _)
theorem Ents.ind {h : Heap} {P : List (Str × V) → List DictEntry → Prop} (h0 : P [] []) (h1 : ∀ x v fs e es, (∃ t, e.key = .str x t) → VR h σ v e.val → Ents h σ fs es → P fs es → P ((x, v) :: fs) (e :: es)) : ∀ {fs : List (Str × V)} {es : List DictEntry}, Ents h σ fs es → P fs es := by
  intro fs
  induction fs with
  | nil =>
    intro es q
    cases es with
    | nil => exact h0
    | cons _ _ => exact False.elim q
  | cons a fs ih =>
    intro es q
    cases es with
    | nil => exact False.elim q
    | cons e es => exact h1 a.1 a.2 fs e es q.1 q.2.1 q.2.2 (ih q.2.2)
theorem Ents.ext {L : Nat} {σ σ' : Store} {h h' : Heap} {mm : Str → Option Value} (x : Ext L σ h σ' h') (hn : h.Ns L mm) {fs : List (Str × V)} {es : List DictEntry} (q : Ents h σ fs es) : Ents h' σ' fs es :=
  Ents.ind (P := Ents h' σ') trivial (fun _ _ _ _ _ a b _ ih => ⟨a, b.ext x hn, ih⟩) q
theorem LocR.ext {L : Nat} {σ σ' : Store} {h h' : Heap} {mm mm' : Str → Option Value} (x : Ext L σ h σ' h') (hn : h.Ns L mm') (r : LocR h σ m mm) : LocR h' σ' m mm := fun y v e => let ⟨val, a, b⟩ := r y v e; ⟨val, a, b.ext x hn⟩
theorem CellAt.move {L a : Nat} {σ σ' : Store} {h h' : Heap} {mm : Str → Option Value} {cl : Cell} (x : Ext L σ h σ' h') (hn : h.Ns L mm) (e : h'.get? a = h.get? a) (em : ∀ d ∈ cl.more, h'.get? d = h.get? d) (q : CellAt h σ a cl) : CellAt h' σ' a cl := by
  cases cl with
  | list vs => exact let ⟨vals, n, ho, rs⟩ := q; ⟨vals, n, e.trans ho, rs.ext x hn⟩
  | inst C d fs => exact let ⟨ho, es, n, hd, r⟩ := q; ⟨e.trans ho, es, n, (em d (.head _)).trans hd, r.ext x hn⟩
  | exc C d T fs => exact let ⟨⟨oe, vs, ho, r1⟩, ⟨oT, ts, hT, r2⟩, es, n, hd, r⟩ := q; ⟨⟨oe, vs, e.trans ho, r1⟩, ⟨oT, ts, (em T (.tail _ (.head _))).trans hT, r2⟩, es, n, (em d (.head _)).trans hd, r.ext x hn⟩
theorem St.outer_keep {c : Cx} {h h' : Heap} {σ' : Store} (s : St W c σ m h) (x : Ext c.L σ h σ' h') : h'.FunFrames W.b c.outer := by
  have key : ∀ l : List Env, (∀ b ∈ l.filterMap (·.frame), b ∈ c.outer.filterMap (·.frame)) → h.FunFrames W.b l → h'.FunFrames W.b l := by
    intro l
    induction l with
    | nil => intro _ _; trivial
    | cons env rest ih =>
      rintro sub ⟨hk, ⟨L, o, hf, hn, ho, hdt⟩, hr⟩
      have hin : L ∈ c.outer.filterMap (·.frame) := sub L (by rw [List.filterMap_cons, hf]; exact .head _)
      obtain ⟨sl, e, _⟩ := x.keep L o ho (fun q => (s.fresh L q).2.2 hin) (fun q => s.lnew (q ▸ hin))
      exact ⟨hk, ⟨L, _, hf, hn, e, hdt⟩, ih (fun b hb => sub b (by rw [List.filterMap_cons, hf]; exact .tail _ hb)) hr⟩
  exact key c.outer (fun _ h => h) s.ff
theorem St.outer_dict {c : Cx} {h h' : Heap} {σ' : Store} (s : St W c σ m h) (x : Ext c.L σ h σ' h') : ∀ b ∈ c.outer.filterMap (·.frame), ∀ o, h'.get? b = some o → ∃ es n, o.data = .dict es n := fun b hb o e => by
  obtain ⟨_, o', ho, _⟩ := s.ff.mem hb
  obtain ⟨sl, e', _⟩ := x.keep b o' ho (fun q => (s.fresh b q).2.2 hb) (fun q => s.lnew (q ▸ hb))
  rw [e] at e'
  cases e'
  exact s.fd b hb o' ho
theorem St.move {c : Cx} {h h' : Heap} {σ' : Store} (s : St W c σ m h) (x : Ext c.L σ h σ' h') (hL : ∀ mm, h.Ns c.L mm → h'.Ns c.L mm) (hb : W.b.StaysIn h')
    (cells : ∀ a cl, σ' a = some cl → CellAt h' σ' a cl) (fresh : ∀ a, Mut σ' a → ¬ Mut σ a → W.b.get? a = none ∧ a ∉ c.outer.filterMap (·.frame))
    (sep : ∀ x c d, σ' x = some c → d ∈ c.more → σ' d = none ∧ ∀ y c', σ' y = some c' → d ∈ c'.more → y = x) : St W c σ' m h' := by
  obtain ⟨mm, F, R⟩ := id s.fr
  refine ⟨⟨mm, ⟨hL mm F.ns, hb, F.above⟩, R.ext x F.ns⟩, s.outer_keep x, cells, fun a q => ?_, s.lnew, s.outer_dict x, sep⟩
  by_cases z : Mut σ a
  · exact s.fresh a z
  · have f := fresh a q z
    rcases x.grow a q with y | y
    · exact absurd y z
    · exact ⟨f.1, y.2, f.2⟩
theorem mut_at {a : Nat} {cl : Cell} (e : σ a = some cl) : Mut σ a := .inl ⟨cl, e⟩
theorem mut_more {a d : Nat} {cl : Cell} (e : σ a = some cl) (hd : d ∈ cl.more) : Mut σ d := .inr ⟨a, cl, e, hd⟩
theorem Ns.upTo {h h' : Heap} {a : Nat} {mm : Str → Option Value} (hn : h.Ns a mm) (e : ∀ o, h.get? a = some o → ∃ sl, h'.get? a = some { o with slots := sl }) : h'.Ns a mm := by
  obtain ⟨o, es, ep, ho, hd, r⟩ := hn
  obtain ⟨sl, hs⟩ := e o ho
  exact ⟨_, es, ep, hs, hd, r⟩
theorem upd_some {a e : Nat} {c cl : Cell} (q : upd σ e c a = some cl) : (a = e ∧ cl = c) ∨ (a ≠ e ∧ σ a = some cl) := by
  by_cases h : a = e
  · rw [h, upd_self] at q; exact .inl ⟨h, (Option.some.inj q).symm⟩
  · rw [upd_ne _ _ h] at q; exact .inr ⟨h, q⟩
theorem upd_of {a e : Nat} {c cl : Cell} (h : a ≠ e) (q : σ a = some cl) : upd σ e c a = some cl := (upd_ne σ c h).trans q
theorem get_ne {h : Heap} {a b : Nat} {o o' : Obj} (ha : h.get? a = some o) (hb : h.get? b = some o') (n : o ≠ o') : a ≠ b := fun q => n (Option.some.inj (ha.symm.trans (q ▸ hb)))
section fault
variable {e d T T' : Nat} {msg : V} {p : Int}
theorem exc_more {x : Nat} (h : x ∈ (faultOf d T msg p).more) : x = d ∨ x = T := by
  rcases h with _ | ⟨_, _ | ⟨_, h⟩⟩
  · exact .inl rfl
  · exact .inr rfl
  · cases h
theorem mut_back {a : Nat} (q : Mut (upd σ e (faultOf d T' msg p)) a) : Mut (upd σ e (faultOf d T msg p)) a ∨ a = T' := by
  rcases q with ⟨cl, q⟩ | ⟨y, cl, q, hm⟩
  · rcases upd_some q with ⟨ae, _⟩ | ⟨ae, q⟩
    · exact .inl (ae ▸ mut_at (upd_self ..))
    · exact .inl (mut_at (upd_of ae q))
  · rcases upd_some q with ⟨_, ce⟩ | ⟨ye, q⟩
    · rw [ce] at hm
      rcases exc_more hm with z | z
      · exact .inl (z ▸ mut_more (upd_self ..) (.head _))
      · exact .inr z
    · exact .inl (mut_more (upd_of ye q) hm)
theorem sep_back (sep : ∀ x c d', upd σ e (faultOf d T msg p) x = some c → d' ∈ c.more → upd σ e (faultOf d T msg p) d' = none ∧ ∀ y c', upd σ e (faultOf d T msg p) y = some c' → d' ∈ c'.more → y = x)
    (oldT : ∀ y cl, upd σ e (faultOf d T msg p) y = some cl → T' ≠ y ∧ T' ∉ cl.more) (x : Nat) (c : Cell) (d' : Nat) (q : upd σ e (faultOf d T' msg p) x = some c) (hm : d' ∈ c.more) :
    upd σ e (faultOf d T' msg p) d' = none ∧ ∀ y c', upd σ e (faultOf d T' msg p) y = some c' → d' ∈ c'.more → y = x := by
  have off : ∀ b, upd σ e (faultOf d T msg p) b = none → upd σ e (faultOf d T' msg p) b = none := fun b z => by
    have be : b ≠ e := fun w => by rw [w, upd_self] at z; cases z
    rw [upd_ne _ _ be] at z ⊢; exact z
  rcases upd_some q with ⟨xe, ce⟩ | ⟨xe, q⟩
  · rw [ce] at hm
    rcases exc_more hm with z | z
    · have w := sep e _ d (upd_self ..) (.head _)
      rw [z]
      refine ⟨off _ w.1, fun y c' q' hm' => ?_⟩
      rcases upd_some q' with ⟨ye, _⟩ | ⟨ye, q'⟩
      · exact ye.trans xe.symm
      · exact (w.2 y c' (upd_of ye q') hm').trans xe.symm
    · rw [z]
      refine ⟨off _ ?_, fun y c' q' hm' => ?_⟩
      · cases zz : upd σ e (faultOf d T msg p) T' with
        | none => rfl
        | some cl => exact absurd rfl (oldT T' cl zz).1
      · rcases upd_some q' with ⟨ye, _⟩ | ⟨ye, q'⟩
        · exact ye.trans xe.symm
        · exact absurd hm' (oldT y c' (upd_of ye q')).2
  · have w := sep x c d' (upd_of xe q) hm
    refine ⟨off _ w.1, fun y c' q' hm' => ?_⟩
    rcases upd_some q' with ⟨ye, ce⟩ | ⟨ye, q'⟩
    · rw [ce] at hm'
      rw [ye]
      rcases exc_more hm' with z | z
      · exact w.2 e _ (upd_self ..) (by rw [z]; exact .head _)
      · exact absurd (z ▸ hm) (oldT x c (upd_of xe q)).2
    · exact w.2 y c' (upd_of ye q') hm'
end fault
theorem CellAt.alive {h : Heap} {a : Nat} {cl : Cell} (q : CellAt h σ a cl) : (∃ o, h.get? a = some o) ∧ ∀ d ∈ cl.more, ∃ o, h.get? d = some o := by
  cases cl with
  | list vs => exact let ⟨_, _, ho, _⟩ := q; ⟨⟨_, ho⟩, fun d hd => nomatch hd⟩
  | inst C d fs => exact let ⟨ho, _, _, z, _⟩ := q; ⟨⟨_, ho⟩, fun d hd => List.mem_singleton.mp hd ▸ ⟨_, z⟩⟩
  | exc C d T fs =>
    obtain ⟨⟨o, _, ho, _⟩, ⟨oo, _, zz, _⟩, _, _, z, _⟩ := q
    refine ⟨⟨_, ho⟩, fun x hx => ?_⟩
    rcases hx with _ | ⟨_, _ | ⟨_, hx⟩⟩
    · exact ⟨_, z⟩
    · exact ⟨_, zz⟩
    · cases hx
theorem St.noted {c : Cx} {h F : Heap} {e d T T' : Nat} {msg : V} {p : Int} {oe oT : Obj} (s : St W c (upd σ e (faultOf d T msg p)) m h) (hoe : h.get? e = some oe) (hoT : h.get? T = some oT) (nde : ∀ es n, oe.data ≠ .dict es n) (ndT : ∀ es n, oT.data ≠ .dict es n)
    (fr : ∀ b ∈ (c.env :: c.outer).filterMap (·.frame), W.b.get? b = none) (step : ∀ b o, b ≠ T → b ≠ e → h.get? b = some o → (b ∉ (c.env :: c.outer).filterMap (·.frame) → F.get? b = some o) ∧ ∃ sl, F.get? b = some { o with slots := sl })
    (alive : ∀ b o, h.get? b = some o → b ≠ T')
    (cell : (∃ oe vs, F.get? e = some oe ∧ oe.cls = .ref 63 ∧ oe.dict = some d ∧ oe.data = .fields vs ∧ vs[1]? = some (.ref T')) ∧ (∃ oT ts, F.get? T' = some oT ∧ oT.cls = .type "traceback" ∧ oT.data = .fields ts ∧ 3 < ts.size)) :
    St W c (upd σ e (faultOf d T' msg p)) m F ∧ Ext c.L (upd σ e (faultOf d T msg p)) h (upd σ e (faultOf d T' msg p)) F := by
  have dead : h.get? T' = none := by
    cases q : h.get? T' with
    | none => rfl
    | some o => exact absurd rfl (alive _ _ q)
  have eMut : Mut (upd σ e (faultOf d T msg p)) e := mut_at (upd_self ..)
  have TMut : Mut (upd σ e (faultOf d T msg p)) T := mut_more (upd_self ..) (.tail _ (.head _))
  have T'L : T' ≠ c.L := by
    obtain ⟨mm, o, _, _, ho, _⟩ := s.ns
    exact fun q => alive _ _ ho q.symm
  have x : Ext c.L (upd σ e (faultOf d T msg p)) h (upd σ e (faultOf d T' msg p)) F := by
    refine ⟨fun a o ho nm al => ?_, fun a q => (mut_back q).imp id fun z => by rw [z]; exact ⟨dead, T'L⟩⟩
    obtain ⟨e1, sl, e2⟩ := step a o (fun q => nm (q ▸ TMut)) (fun q => nm (q ▸ eMut)) ho
    by_cases hm : a ∈ (c.env :: c.outer).filterMap (·.frame)
    · refine ⟨sl, e2, fun nd => ?_⟩
      rw [List.filterMap_cons] at hm
      rcases List.mem_cons.mp hm with z | z
      · exact absurd z al
      · obtain ⟨es, n, q⟩ := s.fd a z o ho
        exact absurd q (nd es n)
    · exact ⟨o.slots, e1 hm, fun _ => rfl⟩
  obtain ⟨mm, hn⟩ := s.ns
  have cellMut : ∀ a o, Mut (upd σ e (faultOf d T msg p)) a → a ≠ e → a ≠ T → h.get? a = some o → F.get? a = h.get? a := fun a o q ae aT ho => by
    have fre := s.fresh a q
    rw [ho]
    refine (step a o aT ae ho).1 fun hb => ?_
    rw [List.filterMap_cons] at hb
    rcases List.mem_cons.mp hb with hb | hb
    · exact fre.2.1 hb
    · exact fre.2.2 hb
  have ends := s.cells e _ (upd_self ..)
  obtain ⟨_, _, es, n, hdd, ents⟩ := ends
  refine ⟨s.move x (fun mm hn => ?_) (fun b o hb => ?_) (fun a cl ha => ?_) (fun a q nq => (mut_back q).elim (fun z => absurd z nq) fun z => ?_) (sep_back s.sep fun y cl hy => ?_), x⟩
  · obtain ⟨o, _, _, ho, hod, _⟩ := id hn
    exact Ns.upTo hn fun o' ho' => (step c.L o' (ne_of_ns hn hoT ndT).symm (ne_of_ns hn hoe nde).symm ho').2
  · have ho := s.stays b o hb
    refine (step b o (fun q => ?_) (fun q => ?_) ho).1 fun hm => ?_
    · have := (s.fresh T TMut).1; rw [← q, hb] at this; cases this
    · have := (s.fresh e eMut).1; rw [← q, hb] at this; cases this
    · rw [fr b hm] at hb; cases hb
  · rcases upd_some ha with ⟨ae, ce⟩ | ⟨ae, ha0⟩
    · rw [ae, ce]
      have dsep := (s.sep e _ d (upd_self ..) (.head _)).1
      have de : d ≠ e := fun q => by rw [q, upd_self] at dsep; cases dsep
      exact ⟨cell.1, cell.2, es, n, (cellMut d _ (mut_more (upd_self ..) (.head _)) de (get_ne hdd hoT fun z => ndT _ _ (congrArg Obj.data z).symm) hdd).trans hdd, ents.ext x hn⟩
    · have ha' := upd_of (c := faultOf d T msg p) ae ha0
      have cell := s.cells a cl ha'
      have aT : a ≠ T := fun q => by have z := (s.sep e _ T (upd_self ..) (.tail _ (.head _))).1; rw [(congrArg (upd σ e (faultOf d T msg p)) q).symm.trans ha'] at z; cases z
      obtain ⟨⟨oa, hoa⟩, more⟩ := cell.alive
      refine cell.move x hn (cellMut a oa (mut_at ha') ae aT hoa) fun d' hd' => ?_
      have dsep := (s.sep a _ d' ha' hd').1
      have de : d' ≠ e := fun q => by rw [q, upd_self] at dsep; cases dsep
      have dT : d' ≠ T := fun q => ae ((s.sep e _ T (upd_self ..) (.tail _ (.head _))).2 a cl ha' (q ▸ hd'))
      obtain ⟨od, hod⟩ := more d' hd'
      exact cellMut d' od (mut_more ha' hd') de dT hod
  · rw [z]
    refine ⟨?_, fun hb => ?_⟩
    · cases zz : W.b.get? T' with
      | none => rfl
      | some o => have := s.stays _ _ zz; rw [dead] at this; cases this
    · obtain ⟨_, o, ho, _⟩ := s.ff.mem hb
      rw [dead] at ho; cases ho
  · have al := (s.cells y cl hy).alive
    exact ⟨fun q => let ⟨o, z⟩ := al.1; alive _ _ z q.symm, fun q => let ⟨o, z⟩ := al.2 _ q; alive _ _ z rfl⟩
section
variable {M : Model} {A : Around} {EE : Value → Shared → Prop}
theorem wp_note {c : Cx} {S₀ : Shared} {h : Heap} {tk e d T : Nat} {msg : V} {p : Int} {Q : Unit → Shared → Prop} (hk : c.cs.kind = .function) (hA : A.frames = some (c.env :: c.outer))
    (s : St W c (upd σ e (faultOf d T msg p)) m h) (he : σ e = none) (f : Fly c.L T h)
    (q : ∀ h' T', St W c (upd σ e (faultOf d T' msg p)) m h' → Ext c.L (upd σ e (faultOf d T msg p)) h (upd σ e (faultOf d T' msg p)) h' → (∃ oT ts, h'.get? T' = some oT ∧ oT.data = .fields ts ∧ ts[3]? = some (rawInt c.L)) →
      Q () { S₀ with heap := h', toks := tk }) : wpAny M A (noteFrame (.ref e) c.env) Q EE { S₀ with heap := h, toks := tk } := by
  obtain ⟨⟨oe, vs, hoe, hcls, hdict, hdat, h1⟩, ⟨oT, ts, hoT, hTc, hTd, hsz⟩, _⟩ := s.cells e _ (upd_self ..)
  have h3 : ts[3]? = some .none ∨ ts[3]? = some (rawInt c.L) := by
    obtain ⟨oT', ts', hoT', hTd', h3⟩ := f
    obtain rfl : oT = oT' := Option.some.inj (hoT.symm.trans hoT')
    obtain rfl : ts = ts' := (Data.fields.inj (hTd.symm.trans hTd'))
    exact h3
  have hTe : T ≠ e := get_ne hoT hoe fun z => by rw [← z, hTc] at hcls; cases hcls
  have hfr : c.env.frame = some c.L := rfl
  unfold noteFrame
  simp only [hfr]
  refine wpAny_bind (wpAny_field hoe hdat h1 ?_)
  rw [if_pos (show (Value.ref T != Value.none) = true from by simp)]
  refine wpAny_bind (wpAny_field hoT hTd (x := (ts[3]?).getD .none) (by rcases h3 with h3 | h3 <;> rw [h3] <;> rfl) ?_)
  rcases h3 with h3 | h3
  · rw [h3, if_neg (show ¬ ((Option.getD (some Value.none) Value.none == rawInt c.L) = true) from by simp [rawInt])]
    refine wpAny_bind (wpAny_setField hoT hTd hsz ?_)
    have other : ∀ b, b ≠ T → (h.update T (Obj.mapFields (·.setIfInBounds 3 Value.none))).get? b = h.get? b := fun b hb => Heap.get?_update_other _ _ (Ne.symm hb)
    have ownT := Heap.get?_update_self (Obj.mapFields (·.setIfInBounds 3 Value.none)) hoT (Obj.isFreed_of_fields (Obj.data_mapFields hTd _))
    generalize hg : h.update T (Obj.mapFields (·.setIfInBounds 3 Value.none)) = g at other ownT
    have fr := s.frames hk
    have frT : ∀ b ∈ (c.env :: c.outer).filterMap (·.frame), b ≠ T ∧ b ≠ e := fun b hb => by
      obtain ⟨_, o, ho, hnf⟩ := fr.mem hb
      exact ⟨get_ne ho hoT fun z => hnf ts (by rw [z]; exact hTd), get_ne ho hoe fun z => hnf vs (by rw [z]; exact hdat)⟩
    have frg : g.FunFrames W.b (c.env :: c.outer) := fr.of_keeps fun b o hb hnf => ⟨o, (other b (get_ne hb hoT fun z => hnf ts (by rw [z]; exact hTd))).trans hb, rfl⟩
    refine wpAny_bind ?_
    refine wpAny_frameOf_fun hA frg rfl fun h₁ hs₁ => ?_
    refine wpAny_bind (wpAny_entryPlaceOf fun pl hpl => ?_)
    unfold EntryCells.newEntry newFields
    refine wpAny_bind (wpAny_newObj_type ?_ (hpl.sizeOk5 _ _ _ _ _))
    have hoe1 : h₁.get? e = some oe := (hs₁.2.1 e fun hb => (frT e hb).2 rfl).trans ((other e (Ne.symm hTe)).trans hoe)
    refine wpAny_setField (Heap.get?_push_of_some _ hoe1) hdat (Array.getElem?_eq_some_iff.mp h1).1 ?_
    generalize hfs : ([Value.ref T, .ref c.L, .none, rawInt c.L, .none] ++ (if pl.isEmpty then List.replicate 6 Value.none else pl)).toArray = fs
    have fs3 : 3 < fs.size ∧ fs[3]? = some (rawInt c.L) := by
      subst hfs
      exact ⟨by simp only [List.size_toArray, List.length_append, List.length_cons, List.length_nil] <;> omega, by first | (simp; done) | (rcases hpl with rfl | ⟨_, _, _, _, _, _, _, rfl⟩ <;> simp)⟩
    have hnew : ∀ b o, h₁.get? b = some o → b ≠ h₁.objs.size := fun b o q => Nat.ne_of_lt (Heap.lt_size q)
    have hen := hnew _ _ hoe1
    have last : ∀ b o, b ≠ e → h₁.get? b = some o → ((h₁.push { cls := .type "traceback", dict := none, data := .fields fs }).update e (Obj.mapFields (·.setIfInBounds 1 (Value.ref h₁.objs.size)))).get? b = some o := fun b o hb z => (Heap.get?_update_other _ _ (Ne.symm hb)).trans (Heap.get?_push_of_some _ z)
    have lastE := Heap.get?_update_self (Obj.mapFields (·.setIfInBounds 1 (Value.ref h₁.objs.size))) (Heap.get?_push_of_some { cls := .type "traceback", dict := none, data := .fields fs } hoe1) (Obj.isFreed_of_fields (Obj.data_mapFields hdat _))
    have newT : ((h₁.push { cls := .type "traceback", dict := none, data := .fields fs }).update e (Obj.mapFields (·.setIfInBounds 1 (Value.ref h₁.objs.size)))).get? h₁.objs.size = some { cls := .type "traceback", dict := none, data := .fields fs } := (Heap.get?_update_other _ _ hen).trans (Heap.get?_push_size _ rfl)
    generalize hF : (h₁.push { cls := .type "traceback", dict := none, data := .fields fs }).update e (Obj.mapFields (·.setIfInBounds 1 (Value.ref h₁.objs.size))) = F at last lastE newT
    generalize hN : h₁.objs.size = T' at hnew hen lastE newT
    have x := s.noted (F := F) (T' := T') hoe hoT (fun es n z => by rw [hdat] at z; cases z) (fun es n z => by rw [hTd] at z; cases z) (fun b hb => (fr.mem hb).1)
      (fun b o bT be ho => by
        have ho1 := (other b bT).trans ho
        refine ⟨fun nf => last b o be ((hs₁.2.1 b nf).trans ho1), ?_⟩
        obtain ⟨sl, z⟩ := hs₁.2.2 b o ho1
        exact ⟨sl, last b _ be z⟩)
      (fun b o ho => by
        by_cases bT : b = T
        · obtain ⟨sl, z⟩ := hs₁.2.2 T _ ownT
          rw [bT]; exact hnew _ _ z
        · obtain ⟨sl, z⟩ := hs₁.2.2 b o ((other b bT).trans ho)
          exact hnew _ _ z)
      ⟨⟨_, _, lastE, (Obj.cls_mapFields ..).trans hcls, (by obtain ⟨c0, d0, dt0, s0⟩ := oe; cases hdat; exact hdict), Obj.data_mapFields hdat _, (by simp [(Array.getElem?_eq_some_iff.mp h1).1])⟩, _, _, newT, rfl, rfl, fs3.1⟩
    exact q F T' x.1 x.2 ⟨_, _, newT, rfl, fs3.2⟩
  · rw [h3, if_pos (show ((Option.getD (some (rawInt c.L)) Value.none == rawInt c.L) = true) from by simp [rawInt])]
    exact wpAny_pure (q h T s .refl ⟨oT, ts, hoT, hTd, h3⟩)
end
end Mine
end
section
open PySem PySem.W PySem.Spec PySem.Calls PyProof.Rows
set_option maxRecDepth 100000
namespace Mine
variable {Kf : Params → Frag} {W : Wd Kf} {cs : Scope} {k : Nat} {hd : Option Value} {m : Loc} {σ : Store} {E : Int → Store → Prop}
section
variable {M : Model} {A : Around} {EE : Value → Shared → Prop}
theorem wp_flight {c : Cx} {S₀ : Shared} {h : Heap} {tk e d T : Nat} {msg : V} {p : Int} {fl : Option Nat} {Q : Unit → Shared → Prop}
    (s : St W c (upd σ e (faultOf d T msg p)) m h)
    (q : ∀ h', St W c (upd σ e (faultOf d T msg p)) m h' → Ext c.L (upd σ e (faultOf d T msg p)) h (upd σ e (faultOf d T msg p)) h' →
      (∃ oT ts, h'.get? T = some oT ∧ oT.data = .fields ts ∧ ts[3]? = some (fl.elim .none fun f => rawInt f)) →
      Q () { S₀ with heap := h', toks := tk }) : wpAny M A (setFlight (.ref e) fl) Q EE { S₀ with heap := h, toks := tk } := by
  obtain ⟨⟨oe, vs, hoe, hcls, hdict, hdat, h1⟩, ⟨oT, ts, hoT, hTc, hTd, hsz⟩, es, n, hdd, ents⟩ := s.cells e _ (upd_self ..)
  unfold setFlight
  refine wpAny_bind (wpAny_field hoe hdat h1 ?_)
  rw [if_pos (show (Value.ref T != Value.none) = true from by simp)]
  refine wpAny_setField hoT hTd hsz ?_
  have eMut : Mut (upd σ e (faultOf d T msg p)) e := mut_at (upd_self ..)
  have TMut : Mut (upd σ e (faultOf d T msg p)) T := mut_more (upd_self ..) (.tail _ (.head _))
  have other : ∀ b, b ≠ T → (h.update T (Obj.mapFields (·.setIfInBounds 3 (fl.elim .none fun f => rawInt f)))).get? b = h.get? b := fun b hb => Heap.get?_update_other _ _ (Ne.symm hb)
  have own := Heap.get?_update_self (Obj.mapFields (·.setIfInBounds 3 (fl.elim .none fun f => rawInt f))) hoT (Obj.isFreed_of_fields (Obj.data_mapFields hTd _))
  show Q () { S₀ with heap := h.update T (Obj.mapFields (·.setIfInBounds 3 (fl.elim .none fun f => rawInt f))), toks := tk }
  generalize h.update T (Obj.mapFields (·.setIfInBounds 3 (fl.elim .none fun f => rawInt f))) = F at other own
  have x : Ext c.L (upd σ e (faultOf d T msg p)) h (upd σ e (faultOf d T msg p)) F := ⟨fun a o ho nm _ => ⟨o.slots, (other a (fun q => nm (q ▸ TMut))).trans ho, fun _ => rfl⟩, fun a q => .inl q⟩
  obtain ⟨mm, hn⟩ := s.ns
  have tw : ∃ oT ts, F.get? T = some oT ∧ oT.cls = .type "traceback" ∧ oT.data = .fields ts ∧ 3 < ts.size ∧ ts[3]? = some (fl.elim .none fun f => rawInt f) :=
    ⟨_, _, own, (Obj.cls_mapFields ..).trans hTc, Obj.data_mapFields hTd _, by simp [hsz], by simp [hsz]⟩
  refine q F (s.move x (fun mm hn => ?_) (fun b o hb => ?_) (fun a cl ha => ?_) (fun a q nq => absurd q nq) s.sep) x (let ⟨a, b, c, _, d, _, e⟩ := tw; ⟨a, b, c, d, e⟩)
  · exact Ns.upTo hn fun o' ho' => ⟨o'.slots, (other c.L (ne_of_ns hn hoT fun es m q => by rw [hTd] at q; cases q).symm).trans ho'⟩
  · exact (other b (fun q => by have := (s.fresh T TMut).1; rw [← q, hb] at this; cases this)).trans (s.stays b o hb)
  · by_cases ae : a = e
    · subst ae
      rw [upd_self] at ha; cases ha
      have Te : a ≠ T := by
        rintro rfl
        rw [hoT] at hoe; cases hoe
        rw [hTc] at hcls; cases hcls
      have dT : d ≠ T := fun q => by subst q; rw [hdd] at hoT; cases hoT; cases hTd
      obtain ⟨oT', ts', g1, g2, g3, g4, _⟩ := tw
      exact ⟨⟨oe, vs, (other a Te).trans hoe, hcls, hdict, hdat, h1⟩, ⟨oT', ts', g1, g2, g3, g4⟩, es, n, (other d dT).trans hdd, ents.ext x hn⟩
    · have aT : a ≠ T := fun q => by have z := (s.sep e _ T (upd_self ..) (.tail _ (.head _))).1; subst q; rw [ha] at z; cases z
      refine (s.cells a cl ha).move x hn (other a aT) fun d' hd' => other d' fun q => ae ((s.sep e _ T (upd_self ..) (.tail _ (.head _))).2 a cl ha (q ▸ hd'))
theorem wp_leave {c : Cx} {S₀ : Shared} {h : Heap} {tk e d T : Nat} {msg : V} {p : Int} {Q : Unit → Shared → Prop} (hk : c.cs.kind = .function) (hA : A.frames = some (c.env :: c.outer))
    (s : St W c (upd σ e (faultOf d T msg p)) m h) (he : σ e = none) (f : Fly c.L T h)
    (q : ∀ h' T', St W c (upd σ e (faultOf d T' msg p)) m h' → Ext c.L (upd σ e (faultOf d T msg p)) h (upd σ e (faultOf d T' msg p)) h' → (∃ oT ts, h'.get? T' = some oT ∧ oT.data = .fields ts ∧ ts[3]? = some .none) →
      Q () { S₀ with heap := h', toks := tk }) : wpAny M A (leaving c.env (.ref e)) Q EE { S₀ with heap := h, toks := tk } := by
  unfold leaving
  refine wpAny_bind (wp_note hk hA s he f fun h1 T1 s1 x1 _ => ?_)
  exact wp_flight (fl := none) s1 fun h2 s2 x2 t => q h2 T1 s2 (x1.trans x2) t
theorem wp_passes {c : Cx} {S₀ : Shared} {σ₀ : Store} {h₀ : Heap} {val : Value} {s : Shared} (hk : c.cs.kind = .function) (hA : A.frames = some (c.env :: c.outer)) (x : ExcP W c S₀ σ₀ h₀ m E val s) :
    notedBy M A c.env (cameBackBy M A c.env (ExcP W c S₀ σ₀ h₀ m E)) val s := by
  obtain ⟨h, tk, σ', e, d, T, msg, p, rfl, st, x0, rfl, f, he, q⟩ := x
  refine wp_note hk hA st he f fun h1 T1 s1 x1 t1 => ?_
  unfold cameBackBy
  obtain ⟨⟨oe, vs, hoe, hcls, hdict, hdat, h1'⟩, _⟩ := s1.cells e _ (upd_self ..)
  refine wpAny_bind (wpAny_field hoe hdat h1' ?_)
  rw [if_neg (show ¬ ((Value.ref T1 == Value.none) = true) from by simp)]
  refine wp_flight (fl := some c.L) s1 fun h2 s2 x2 t => ?_
  obtain ⟨oT, ts, a, b, c3⟩ := t
  exact ⟨h2, tk, σ', e, d, T1, msg, p, rfl, s2, (x0.trans x1).trans x2, rfl, ⟨oT, ts, a, b, .inr c3⟩, he, q⟩
end
section stmts
variable {Qn : Loc → Store → Prop} {Qr : V → Store → Prop} {ES : Int → Loc → Store → Prop} {pos : Pos}
theorem FlowP.lift {c : Cx} {S₀ : Shared} {σ₁ : Store} {h h₁ : Heap} {f : Flow} {s : Shared} (x : Ext c.L σ h σ₁ h₁) (e : FlowP W c S₀ σ₁ h₁ Qn Qr f s) : FlowP W c S₀ σ h Qn Qr f s := by
  obtain ⟨h', tk', σ', m', rfl, a, b, r⟩ := e
  exact ⟨h', tk', σ', m', rfl, a, x.trans b, r⟩
theorem ExcS.lift {c : Cx} {S₀ : Shared} {σ₁ : Store} {h h₁ : Heap} {val : Value} {s : Shared} (x : Ext c.L σ h σ₁ h₁) (e : ExcS W c S₀ σ₁ h₁ ES val s) : ExcS W c S₀ σ h ES val s :=
  let ⟨m', e'⟩ := e; ⟨m', e'.lift x⟩
theorem TS.nil (q : Qn m σ) : TS W cs k hd [] m σ Qn Qr ES := fun c S₀ h tk _ _ _ s => wpAny_execs_nil ⟨h, tk, σ, m, rfl, s, .refl, q⟩
theorem TS.cons {st : Stmt} {rest : List Stmt} (h : T1 W cs k hd st m σ (fun m' σ' => TS W cs k hd rest m' σ' Qn Qr ES) Qr ES) : TS W cs k hd (st :: rest) m σ Qn Qr ES := by
  intro c S₀ hp tk hc hh ho s
  refine wpAny_execs_cons (wpAny_mono (h c S₀ hp tk hc hh ho s) (fun f s₁ h₁ => ?_) fun _ _ x => x)
  obtain ⟨h1, tk1, σ1, m1, rfl, st1, x1, r1⟩ := h₁
  cases f with
  | next => exact wpAny_mono (r1 c S₀ h1 tk1 hc hh ho st1) (fun _ _ y => y.lift x1) fun _ _ y => y.lift x1
  | ret v => exact ⟨h1, tk1, σ1, m1, rfl, st1, x1, r1⟩
  | brk => exact r1.elim
  | cont => exact r1.elim
theorem T1.ret {e : Expr} (h : TE W cs k hd e m σ Qr (fun p σ' => ES p m σ')) : T1 W cs k hd (.Return (some e) pos) m σ Qn Qr ES := by
  intro c S₀ hp tk hc hh ho s
  refine wpAny_Return_some (wpAny_mono (h c S₀ hp tk hc hh ho s) (fun v s₁ h₁ => ?_) fun _ _ x => ⟨m, x⟩)
  obtain ⟨h1, tk1, σ1, v1, rfl, st1, x1, r1, q1⟩ := h₁
  exact ⟨h1, tk1, σ1, m, rfl, st1, x1, v1, r1, q1⟩
theorem T1.retNone (q : Qr .none σ) : T1 W cs k hd (.Return none pos) m σ Qn Qr ES := fun c S₀ h tk _ _ _ s => wpAny_Return_none ⟨h, tk, σ, m, rfl, s, .refl, .none, .none, q⟩
theorem T1.if {test : Expr} {body orelse : List Stmt} (h : TB W cs k hd test m σ (fun b σ₁ => (b = true → TS W cs k hd body m σ₁ Qn Qr ES) ∧ (b = false → TS W cs k hd orelse m σ₁ Qn Qr ES)) (fun p σ' => ES p m σ')) :
    T1 W cs k hd (.If test body orelse pos) m σ Qn Qr ES := by
  intro c S₀ hp tk hc hh ho s
  refine wpAny_If (wpAny_mono (h c S₀ hp tk hc hh ho s) (fun b s₁ h₁ => ?_) fun _ _ x => ⟨m, x⟩)
  obtain ⟨h1, tk1, σ1, rfl, st1, x1, q1⟩ := h₁
  cases b
  · exact wpAny_mono (q1.2 rfl c S₀ h1 tk1 hc hh ho st1) (fun _ _ y => y.lift x1) fun _ _ y => y.lift x1
  · exact wpAny_mono (q1.1 rfl c S₀ h1 tk1 hc hh ho st1) (fun _ _ y => y.lift x1) fun _ _ y => y.lift x1
theorem wp_store {c : Cx} {S₀ : Shared} {h : Heap} {tk : Nat} {x : Str} {v : V} {val : Value} {M : Model} {A : Around} {EE : Value → Shared → Prop} {Q : Unit → Shared → Prop} (o : c.Ok k) (s : St W c σ m h) (r : VR h σ v val) (hx : c.cs.names.lookup x = some .local)
    (q : ∀ h', St W c σ (setV m x v) h' → Ext c.L σ h σ h' → Q () { S₀ with heap := h', toks := tk + 1 }) : wpAny M A (storeName c.env x val) Q EE { S₀ with heap := h, toks := tk } := by
  obtain ⟨mm, F, R⟩ := id s.fr
  refine wpAny_storeName_local (env := c.env) hx F.ns (fun h' hn hs => ?_) (by show (c.cs.kind == .class || (c.cs.kind == .module && c.L != mainGlobals)) = false; rw [o.fn]; rfl)
  have ex : Ext c.L σ h σ h' := ⟨fun a ob e _ l => ⟨ob.slots, (hs.2 a l).trans e, fun _ => rfl⟩, fun _ y => .inl y⟩
  refine q h' ⟨⟨_, F.set hn hs, fun y u e => ?_⟩, s.outer_keep ex, fun a cl e => (s.cells a cl e).move ex F.ns (hs.2 a (s.fresh a (mut_at e)).2.1) fun d hd => hs.2 d (s.fresh d (mut_more e hd)).2.1, s.fresh, s.lnew, s.outer_dict ex, s.sep⟩ ex
  rw [getV_setV] at e
  by_cases hy : y = x
  · rw [if_pos hy] at e; cases e
    exact ⟨val, if_pos hy, r.ext ex F.ns⟩
  · rw [if_neg hy] at e
    obtain ⟨val', a, b⟩ := R y u e
    exact ⟨val', (if_neg hy).trans a, b.ext ex F.ns⟩
theorem T1.assign {x : Str} {np : Pos} {value : Expr} (hs : ∀ env : Env, swapsWith value (some (.Name x np)) pos.line env = pure false) (hx : cs.names.lookup x = some .local)
    (h : TE W cs k hd value m σ (fun v σ₁ => Qn (setV m x v) σ₁) (fun p σ' => ES p m σ')) : T1 W cs k hd (.Assign [.Name x np] value pos) m σ Qn Qr ES := by
  intro c S₀ hp tk hc hh ho s
  refine wpAny_Assign_Name (wpAny_mono (h c S₀ hp tk hc hh ho s) (fun v s₁ h₁ => ?_) fun _ _ x => ⟨m, x⟩) (hs _)
  obtain ⟨h1, tk1, σ1, v1, rfl, st1, x1, r1, q1⟩ := h₁
  exact wp_store ho st1 r1 (hc ▸ hx) fun h2 st2 x2 => ⟨h2, _, σ1, _, rfl, st2, x1.trans x2, q1⟩
inductive WhileP (W : Wd Kf) (c : Cx) (S₀ : Shared) (σ : Store) (h : Heap) (I : Nat → Loc → Store → Prop) (n : Nat) (s' : Shared) : Prop
  | mk (h' : Heap) (tk' : Nat) (σ' : Store) (m' : Loc) : s' = { S₀ with heap := h', toks := tk' } → St W c σ' m' h' → Ext c.L σ h σ' h' → I n m' σ' → WhileP W c S₀ σ h I n s'
theorem T1.while {test : Expr} {body : List Stmt} (μ : Nat) (I : Nat → Loc → Store → Prop) (h0 : I μ m σ)
    (step : ∀ n m σ, I n m σ → TB W cs k hd test m σ (fun b σ₁ => (b = true → TS W cs k hd body m σ₁ (fun m' σ' => ∃ n', n' < n ∧ I n' m' σ') Qr ES) ∧ (b = false → Qn m σ₁)) (fun p σ' => ES p m σ')) :
    T1 W cs k hd (.While test body [] pos) m σ Qn Qr ES := by
  intro c S₀ hp tk hc hh ho s
  refine wpAny_While ?_
  have hA : c.A.frames = some (c.env :: c.outer) := rfl
  have out : ∀ (σ₁ : Store) (h₁ : Heap) (val : Value) (s' : Shared), Ext c.L σ hp σ₁ h₁ → ExcS W c S₀ σ₁ h₁ ES val s' →
      notedBy (model W.prog W.w) c.A c.env (fun x s' => cameBackBy (model W.prog W.w) c.A c.env (ExcS W c S₀ σ hp ES) x s') val s' := fun σ₁ h₁ val s' x y => by
    obtain ⟨m', y⟩ := y.lift x
    exact wpAny_mono (wp_passes ho.fn hA y) (fun _ _ z => wpAny_mono z (fun _ _ u => ⟨m', u⟩) fun _ _ u => ⟨m', u⟩) fun _ _ z => wpAny_mono z (fun _ _ u => ⟨m', u⟩) fun _ _ u => ⟨m', u⟩
  refine codeAny_whileLoop (WhileP W c S₀ σ hp I) (fun n s' hI => ?_) μ ⟨hp, tk, σ, m, rfl, s, .refl, h0⟩
  obtain ⟨h1, tk1, σ1, m1, rfl, st1, x1, hI⟩ := hI
  refine wpAny_mono (step n m1 σ1 hI c S₀ h1 tk1 hc hh ho st1) (fun b s₂ h₂ => ?_) fun val s' y => out σ1 h1 val s' x1 ⟨m1, y⟩
  obtain ⟨h2, tk2, σ2, rfl, st2, x2, q2⟩ := h₂
  cases b with
  | true =>
    simp only [if_true]
    refine wpAny_mono (q2.1 rfl c S₀ h2 tk2 hc hh ho st2) (fun f s₃ h₃ => ?_) fun val s' y => out σ2 h2 val s' (x1.trans x2) y
    obtain ⟨h3, tk3, σ3, m3, rfl, st3, x3, q3⟩ := h₃
    cases f with
    | next => obtain ⟨n', hn, q3⟩ := q3; exact ⟨n', hn, h3, tk3, σ3, m3, rfl, st3, (x1.trans x2).trans x3, q3⟩
    | ret v => exact ⟨h3, tk3, σ3, m3, rfl, st3, (x1.trans x2).trans x3, q3⟩
    | brk => exact q3.elim
    | cont => exact q3.elim
  | false =>
    simp only [Bool.false_eq_true, if_false]
    exact wpAny_execs_nil ⟨h2, tk2, σ2, m1, rfl, st2, x1.trans x2, q2.2 rfl⟩
end stmts
end Mine
end
section
open PySem PySem.W PySem.Spec PySem.Calls PyProof.Rows
set_option maxRecDepth 100000
namespace Mine
variable {Kf : Params → Frag} {W : Wd Kf} {cs : Scope} {k : Nat} {hd : Option Value} {m : Loc} {σ : Store} {E : Int → Store → Prop}
noncomputable def Sub (σ' σ : Store) : Prop := ∀ a c, σ' a = some c → σ a = some c
theorem Sub.refl : Sub σ σ := fun _ _ h => h
theorem Sub.mut {σ' : Store} (x : Sub σ' σ) {a : Nat} (q : Mut σ' a) : Mut σ a := by
  rcases q with ⟨c, q⟩ | ⟨y, c, q, hm⟩
  · exact mut_at (x a c q)
  · exact mut_more (x y c q) hm
theorem VR.sub {σ' : Store} {h : Heap} (x : Sub σ' σ) {v : V} {val : Value} (r : VR h σ v val) : VR h σ' v val :=
  VR.map (fun _ _ t n => ⟨t, fun q => n (x.mut q)⟩) (fun _ _ _ t n => ⟨t, fun q => n (x.mut q)⟩) (fun _ _ _ _ _ t n => ⟨t, fun q => n (x.mut q)⟩) r
theorem VRs.sub {σ' : Store} {h : Heap} (x : Sub σ' σ) {vs : List V} {vals : List Value} (r : VRs h σ vs vals) : VRs h σ' vs vals :=
  VRs.map (fun _ _ t n => ⟨t, fun q => n (x.mut q)⟩) (fun _ _ _ t n => ⟨t, fun q => n (x.mut q)⟩) (fun _ _ _ _ _ t n => ⟨t, fun q => n (x.mut q)⟩) r
theorem Ents.sub {σ' : Store} {h : Heap} (x : Sub σ' σ) {fs : List (Str × V)} {es : List DictEntry} (q : Ents h σ fs es) : Ents h σ' fs es :=
  Ents.ind (P := Ents h σ') trivial (fun _ _ _ _ _ a b _ ih => ⟨a, b.sub x, ih⟩) q
theorem CellAt.sub {σ' : Store} {h : Heap} (x : Sub σ' σ) {a : Nat} {cl : Cell} (q : CellAt h σ a cl) : CellAt h σ' a cl := by
  cases cl with
  | list vs => exact let ⟨vals, n, l, rs⟩ := q; ⟨vals, n, l, rs.sub x⟩
  | inst C d fs => exact let ⟨ho, es, n, hd, r⟩ := q; ⟨ho, es, n, hd, r.sub x⟩
  | exc C d T fs => exact let ⟨r1, r2, es, n, hd, r⟩ := q; ⟨r1, r2, es, n, hd, r.sub x⟩
theorem St.sub {σ' : Store} {c : Cx} {h : Heap} (x : Sub σ' σ) (s : St W c σ m h) : St W c σ' m h := by
  obtain ⟨mm, F, R⟩ := id s.fr
  refine ⟨⟨mm, F, fun y v e => let ⟨val, a, b⟩ := R y v e; ⟨val, a, b.sub x⟩⟩, s.ff, fun a cl e => (s.cells a cl (x a cl e)).sub x, fun a q => s.fresh a (x.mut q), s.lnew, s.fd, fun y c d q hm => ⟨?_, fun y' c' q' hm' => (s.sep y c d (x y c q) hm).2 y' c' (x y' c' q') hm'⟩⟩
  cases e : σ' d with
  | none => rfl
  | some cl => have := (s.sep y c d (x y c q) hm).1; rw [x d cl e] at this; cases this
theorem Ext.sub {L : Nat} {σ₀ σ' : Store} {h₀ h : Heap} (x : Sub σ' σ) (e : Ext L σ₀ h₀ σ h) : Ext L σ₀ h₀ σ' h := ⟨e.keep, fun a q => e.grow a (x.mut q)⟩
noncomputable def Fg (Q : V → Store → Prop) (v : V) (σ : Store) : Prop := ∃ σ', Sub σ' σ ∧ Q v σ'
theorem Fg.here {Q : V → Store → Prop} {v : V} (q : Q v σ) : Fg Q v σ := ⟨σ, .refl, q⟩
noncomputable def FgE (E : Int → Store → Prop) (p : Int) (σ : Store) : Prop := ∃ σ', Sub σ' σ ∧ E p σ'
theorem upd_sub {σ' : Store} (x : Sub σ' σ) (a : Nat) (c : Cell) : Sub (upd σ' a c) (upd σ a c) := fun b d q => by
  by_cases h : b = a
  · subst h; rw [upd_self] at q ⊢; exact q
  · rw [upd_ne _ _ h] at q ⊢; exact x b d q
noncomputable def Cx.call (c : Cx) (L f : Nat) (qual : Str) (scope : Scope) (cdv : Value) : Cx := { outer := c.env :: c.outer, dp := c.dp + 1, un := c.un + 3, gd := c.gd, hd := c.hd, L := L, a := f, cn := qual, cs := scope, ccd := cdv }
theorem locR_zip {h : Heap} : ∀ {ns : List Str} {vs : List V} {vals : List Value}, ns.Nodup → VRs h σ vs vals → LocR h σ (ns.zip vs) fun y => (ns.zip vals).reverse.lookup y := by
  intro ns vs vals nd r
  have key : ∀ (ns : List Str) (vs : List V) (vals : List Value), ns.Nodup → VRs h σ vs vals → ∀ x v, getV (ns.zip vs) x = some v → ∃ val, (ns.zip vals).reverse.lookup x = some val ∧ VR h σ v val := by
    intro ns
    induction ns with
    | nil => intro vs vals _ _ x v e; cases e
    | cons n ns ih =>
      intro vs vals nd r x v e
      cases r with
      | nil => cases e
      | @cons v0 val0 vs vals r rs =>
        simp only [List.zip_cons_cons, List.reverse_cons, List.lookup_append]
        simp only [List.zip_cons_cons, getV] at e
        by_cases hx : n = x
        · rw [if_pos hx] at e
          cases e
          subst hx
          have : (ns.zip vals).reverse.lookup n = none := by
            rw [List.lookup_eq_none_iff]
            intro p hp
            have : p.1 ∈ ns := (List.of_mem_zip (List.mem_reverse.mp hp)).1
            have : p.1 ≠ n := fun q => (List.nodup_cons.mp nd).1 (q ▸ this)
            simpa using Ne.symm this
          exact ⟨val0, by rw [this]; simp, r⟩
        · rw [if_neg hx] at e
          obtain ⟨val, a, b⟩ := ih vs vals (List.nodup_cons.mp nd).2 rs x v e
          exact ⟨val, by rw [a]; rfl, b⟩
  exact key ns vs vals nd r
theorem St.enter {c : Cx} {h h₁ : Heap} {f : Nat} {qual : Str} {scope : Scope} {cdv : Value} {ns : List Str} {vs : List V} {vals : List Value} (o : c.cs.kind = .function) (s : St W c σ m h) (nd : ns.Nodup) (r : VRs h σ vs vals)
    (hn : h₁.Ns h.objs.size (fun x => (ns.zip vals).reverse.lookup x)) (hk : ∀ b o, h.get? b = some o → h₁.get? b = some o) : St W (c.call h.objs.size f qual scope cdv) σ (ns.zip vs) h₁ ∧ Ext h.objs.size σ h σ h₁ := by
  obtain ⟨mm, F, R⟩ := id s.fr
  have ex : Ext h.objs.size σ h σ h₁ := ⟨fun a ob e _ _ => ⟨ob.slots, hk a ob e, fun _ => rfl⟩, fun _ y => .inl y⟩
  have exL : Ext c.L σ h σ h₁ := ⟨fun a ob e _ _ => ⟨ob.slots, hk a ob e, fun _ => rfl⟩, fun _ y => .inl y⟩
  have alive : ∀ a o, h.get? a = some o → a ≠ h.objs.size := fun a o e => Nat.ne_of_lt (Heap.lt_size e)
  have own : ∀ a cl, σ a = some cl → (∃ o, h.get? a = some o) ∧ ∀ d ∈ cl.more, ∃ o, h.get? d = some o := fun a cl e => by
    have q := s.cells a cl e
    cases cl with
    | list vs => exact let ⟨_, _, ho, _⟩ := q; ⟨⟨_, ho⟩, fun d hd => nomatch hd⟩
    | inst C d fs => exact let ⟨ho, es, n, hd, r⟩ := q; ⟨⟨_, ho⟩, fun d' hd' => by obtain rfl := List.mem_singleton.mp hd'; exact ⟨_, hd⟩⟩
    | exc C d T fs =>
      obtain ⟨⟨oe, vs, ho, r1⟩, ⟨oT, ts, hT, r2⟩, es, n, hd, r⟩ := q
      refine ⟨⟨_, ho⟩, fun d' hd' => ?_⟩
      rcases hd' with _ | ⟨_, _ | ⟨_, hm⟩⟩
      · exact ⟨_, hd⟩
      · exact ⟨_, hT⟩
      · cases hm
  have ali : ∀ a, Mut σ a → ∃ o, h.get? a = some o := fun a q => by
    rcases q with ⟨cl, q⟩ | ⟨y, cl, q, hm⟩
    · exact (own a cl q).1
    · exact (own y cl q).2 a hm
  have fr := s.frames o
  refine ⟨⟨⟨_, ⟨hn, fun b ob e => hk b ob (s.stays b ob e), Nat.le_trans F.above (Nat.le_of_lt F.ns.lt)⟩, locR_zip nd (r.ext exL F.ns)⟩, fr.of_keeps fun b ob e _ => ⟨ob, hk b ob e, rfl⟩, fun a cl e => ?_, fun a q => ?_, ?_, ?_, s.sep⟩, ex⟩
  · obtain ⟨⟨oa, ha⟩, hm⟩ := own a cl e
    exact (s.cells a cl e).move exL F.ns ((hk a oa ha).trans ha.symm) fun d hd => let ⟨od, e⟩ := hm d hd; (hk d od e).trans e.symm
  · obtain ⟨o', e⟩ := ali a q
    refine ⟨(s.fresh a q).1, alive a o' e, fun hm => ?_⟩
    have hm' : a ∈ (c.env :: c.outer).filterMap (·.frame) := hm
    rw [List.filterMap_cons] at hm'
    rcases List.mem_cons.mp hm' with z | z
    · exact (s.fresh a q).2.1 z
    · exact (s.fresh a q).2.2 z
  · intro hm
    obtain ⟨_, ob, e, _⟩ := fr.mem (show h.objs.size ∈ (c.env :: c.outer).filterMap (·.frame) from hm)
    exact alive _ _ e rfl
  · intro b hb ob e
    obtain ⟨_, ob', e', _⟩ := fr.mem (show b ∈ (c.env :: c.outer).filterMap (·.frame) from hb)
    have := hk b ob' e'
    rw [e] at this; cases this
    have hb' : b ∈ (c.env :: c.outer).filterMap (·.frame) := hb
    rw [List.filterMap_cons] at hb'
    rcases List.mem_cons.mp hb' with z | z
    · subst z
      obtain ⟨o', es, ep, ho', hd', _⟩ := F.ns
      rw [e'] at ho'; cases ho'
      exact ⟨es, ep, hd'⟩
    · exact s.fd b z ob e'
theorem St.back {c : Cx} {h h₁ h' : Heap} {f : Nat} {qual : Str} {scope : Scope} {cdv : Value} {m' : Loc} {σ' : Store} (s : St W c σ m h) (hk : ∀ b o, h.get? b = some o → h₁.get? b = some o) (s' : St W (c.call h.objs.size f qual scope cdv) σ' m' h')
    (x : Ext h.objs.size σ h₁ σ' h') : St W c σ' m h' ∧ Ext c.L σ h σ' h' := by
  obtain ⟨mm, F, R⟩ := id s.fr
  obtain ⟨mm', F', _⟩ := id s'.fr
  have alive : ∀ a o, h.get? a = some o → a ≠ h.objs.size := fun a o e => Nat.ne_of_lt (Heap.lt_size e)
  have x0 : Ext c.L σ h σ' h' := by
    refine ⟨fun a o e n _ => x.keep a o (hk a o e) n (alive a o e), fun a q => ?_⟩
    rcases x.grow a q with z | ⟨z, _⟩
    · exact .inl z
    · refine .inr ⟨?_, fun e => ?_⟩
      · cases y : h.get? a with
        | none => rfl
        | some o => rw [hk a o y] at z; cases z
      · obtain ⟨oL, _, _, hL, _⟩ := F.ns
        rw [e, hk _ _ hL] at z; cases z
  refine ⟨⟨⟨mm, ⟨?_, s'.stays, F.above⟩, R.ext x0 F.ns⟩, s.outer_keep x0, s'.cells, fun a q => ?_, s.lnew, s.outer_dict x0, s'.sep⟩, x0⟩
  · exact Ns.upTo F.ns fun o e => let ⟨sl, a, _⟩ := x.keep c.L o (hk _ _ e) (fun q => (s.fresh _ q).2.1 rfl) (alive _ _ e); ⟨sl, a⟩
  · obtain ⟨a1, a2, a3⟩ := s'.fresh a q
    have a3' : a ∉ (c.env :: c.outer).filterMap (·.frame) := a3
    rw [List.filterMap_cons] at a3'
    exact ⟨a1, fun e => a3' (List.mem_cons.mpr (.inl e)), fun e => a3' (List.mem_cons.mpr (.inr e))⟩
theorem ExcP.sub {c : Cx} {S₀ : Shared} {h : Heap} {val : Value} {s : Shared} (x : ExcP W c S₀ σ h m (FgE E) val s) : ExcP W c S₀ σ h m E val s := by
  obtain ⟨h', tk', σ', e, d, T, msg, p, rfl, st, ex, r, f, he, σ'', sb, q⟩ := x
  refine ⟨h', tk', σ'', e, d, T, msg, p, rfl, st.sub (upd_sub sb _ _), ex.sub (upd_sub sb _ _), r, f, ?_, q⟩
  cases z : σ'' e with
  | none => rfl
  | some c => have := sb e c z; rw [he] at this; cases this
theorem RetP.sub {c : Cx} {S₀ : Shared} {h : Heap} {Q : V → Store → Prop} {val : Value} {s : Shared} (x : RetP W c S₀ σ h m (Fg Q) val s) : RetP W c S₀ σ h m Q val s := by
  obtain ⟨h', tk', σ', v, rfl, st, ex, r, σ'', sb, q⟩ := x
  exact ⟨h', tk', σ'', v, rfl, st.sub sb, ex.sub sb, r.sub sb, q⟩
noncomputable def CO (W : Wd Kf) (k f : Nat) (vs : List V) (σ : Store) (Q : V → Store → Prop) (E : Int → Store → Prop) : Prop :=
  ∀ (c : Cx) (S₀ : Shared) (h : Heap) (tk : Nat) (m : Loc) (vals : List Value), c.hd = none → c.Ok k → St W c σ m h → VRs h σ vs vals →
    codeAny (model W.prog W.w) c.A (.call (.ref f) ⟨vals, []⟩) (fun r s' => match r with | .ok (.ret v) => RetP W c S₀ σ h m Q v s' | .ok _ => False | .error e => ExcP W c S₀ σ h m E e s') { S₀ with heap := h, toks := tk }
theorem CO.to {f : Nat} {vs : List V} {Q : V → Store → Prop} (h : CO W k f vs σ Q E) : TO W k none (fun vals => call (.ref f) vals) vs σ Q E :=
  fun c S₀ hp tk m vals hh ok s r => wpAny_call (h c S₀ hp tk m vals hh ok s r)
theorem CO.def {f : Nat} {vs : List V} {Q : V → Store → Prop} {name qual : Str} {params : Arguments} {body : List Stmt} {scope : Scope} {dV kV doc pm cdv ct oc : Value} {an od : Option Addr} {osl : Array (Option Value)} {ns : List Str}
    (ho : (Kf W.w.params).lookup f = some ⟨oc, od, .func (fnOf name qual params body scope dV kV doc pm an cdv ct), osl⟩) (hcd : codeIn (Kf W.w.params) cdv qual = true)
    (hbind : ∀ (s : Shared) (vals : List Value), (Kf W.w.params).In s.heap → VRs s.heap σ vs vals → BindsTo s (fnOf name qual params body scope dV kV doc pm an cdv ct) ⟨vals, []⟩ (ns.zip vals)) (hloc : (ns.all fun y => scope.names.lookup y == some .local) = true)
    (hnd : ns.Nodup) (hcell : (scope.names.all fun x => x.2 != .cell) = true) (hco : scope.isCoroutine = false) (hgen : scope.isGenerator = false) (hk : scope.kind = .function)
    (h : TS W scope k none body (ns.zip vs) σ (fun _ σ' => Fg Q .none σ') (Fg Q) (fun p _ σ' => FgE E p σ')) : CO W (k + 1) f vs σ Q E := by
  intro c S₀ hp tk m vals hh ok s r
  refine codeAny_call_def (fd := fnOf name qual params body scope dV kV doc pm an cdv ct) (body := body) (binds := ns.zip vals) (Nat.lt_of_le_of_lt (Nat.le_add_right _ _) ok.dp) (s.X _ _ ho) rfl (W.T.nolimit.keeps s.stays) (codeRec_of s.X hcd) rfl (hbind _ _ s.X r)
    (fun x hx => by simpa using List.all_eq_true.mp hcell x hx) (fun x hx => by have := List.all_eq_true.mp hloc x.1 (List.of_mem_zip (a := x.1) (b := x.2) hx).1; simpa using this) (fun h₁ hn hkeep => ?_) hco hgen hk
  obtain ⟨st, ex⟩ := s.enter (f := f) (qual := qual) (scope := scope) (cdv := cdv) ok.fn hnd r hn hkeep
  have ok' : (c.call hp.objs.size f qual scope cdv).Ok k := ⟨by have := ok.dp; show c.dp + 1 + k < _; omega, by have := ok.un; show c.un + 3 + 8 * k + 8 < _; omega, hk⟩
  refine wpAny_mono (h (c.call hp.objs.size f qual scope cdv) S₀ h₁ _ rfl hh ok' st) (fun fl s' y => ?_) fun val s' y => ?_
  · obtain ⟨h', tk', σ', m', rfl, st', x', y⟩ := y
    obtain ⟨st2, x2⟩ := s.back hkeep st' x'
    refine RetP.sub ?_
    cases fl with
    | next => exact ⟨h', tk', σ', .none, rfl, st2, x2, .none, y⟩
    | ret v => obtain ⟨v', r', y⟩ := y; exact ⟨h', tk', σ', v', rfl, st2, x2, r', y⟩
    | brk => exact y.elim
    | cont => exact y.elim
  · obtain ⟨m', h', tk', σ', e, d, T, msg, p, rfl, st', x', rfl, fl, he, q⟩ := y
    refine wp_leave (c := c.call hp.objs.size f qual scope cdv) hk rfl st' he fl fun h2 T2 st2 x2 t => ?_
    obtain ⟨st3, x3⟩ := s.back hkeep st2 (x'.trans x2)
    obtain ⟨oT, ts, g1, g2, g3⟩ := t
    exact ExcP.sub ⟨h2, tk', σ', e, d, T2, msg, p, rfl, st3, x3, rfl, ⟨oT, ts, g1, g2, .inl g3⟩, he, q⟩
end Mine
end
section
open PySem PySem.W PySem.Spec PySem.Calls PyProof.Rows
set_option maxRecDepth 100000
namespace Mine
variable {Kf : Params → Frag} {W : Wd Kf} {cs : Scope} {k : Nat} {hd : Option Value} {m : Loc} {σ : Store} {E : Int → Store → Prop}
theorem evalArgs_any {M : Model} {A : Around} {EE : Value → Shared → Prop} {s : Shared} {f : Value} {Q : Args → Shared → Prop} : ∀ {args : List (Bool × Sem Value)}, args.any (·.1) = false → wpAny M A (spliced args) (fun vs s' => Q ⟨vs, []⟩ s') EE s → wpAny M A (evalArgs f true args []) Q EE s
  | [], _, h => by
    unfold evalArgs
    show wpAny M A (spliced [] >>= _) Q EE s
    refine wpAny_bind (wpAny_mono h (fun vs s' h' => ?_) fun _ _ x => x)
    refine wpAny_holding ?_
    exact wpAny_bind (wpAny_pure (wpAny_bind (wpAny_pure (wpAny_pure h'))))
  | (true, x) :: rest, hp, h => by simp at hp
  | (false, x) :: rest, hp, h => evalArgs_plain h
inductive Cal (K : Frag) : Value → Prop
  | ref {f : Nat} : keepIn K (.ref f) = true → Cal K (.ref f)
  | builtin (id : String) : Cal K (.builtin id)
  | type (T : String) : Cal K (.type T)
theorem wp_callWith {c : Cx} {EE : Value → Shared → Prop} {s : Shared} {pos : Pos} {f : Value} {first : List Value} {args : List (Bool × Sem Value)} {Q : Value → Shared → Prop} {A : Around} (hc : Cal (Kf W.w.params) f) (hp : args.any (·.1) = false)
    (h : wpAny (model W.prog W.w) A (spliced args) (fun vs s₁ => (Kf W.w.params).In s₁.heap ∧ wpAny (model W.prog W.w) A (call f (first ++ vs) []) Q EE s₁) EE s) : wpAny (model W.prog W.w) A (callWith pos f first args []) Q EE s := by
  cases hc with
  | ref hf => exact callWith_of (by simp [hp]) (keeps_K hf) (evalArgs_any hp h)
  | builtin id => exact callWith_builtin hp (evalArgs_any hp (wpAny_mono h (fun _ _ x => x.2) fun _ _ x => x))
  | type T => exact PyProof.Rows.callWith_type hp (evalArgs_any hp (wpAny_mono h (fun _ _ x => x.2) fun _ _ x => x))
noncomputable def plainArgs (args : List Expr) : Bool := args.all fun | .Starred .. => false | _ => true
theorem plainArgs_any {args : List Expr} (h : plainArgs args = true) (env : Env) (pos : Pos) : (backTo pos (starEach args env)).any (·.1) = false := by
  have : ∀ p ∈ starEach args env, p.1 = false := by
    induction args with
    | nil => intro p hp; cases hp
    | cons e rest ih =>
      simp only [plainArgs, List.all_cons, Bool.and_eq_true] at h
      have hr := ih h.2
      intro p hp
      cases e <;> first
        | (cases h.1; done)
        | (rcases List.mem_cons.mp hp with rfl | hp
           · rfl
           · exact hr p hp)
  rw [List.any_eq_false]
  intro p hp
  unfold backTo at hp
  obtain ⟨q, hq, rfl⟩ := List.mem_map.mp hp
  simp [this q hq]
theorem starEach_plain {e : Expr} {rest : List Expr} (h : plainArgs (e :: rest) = true) (env : Env) : starEach (e :: rest) env = (false, eval e env) :: starEach rest env := by
  simp only [plainArgs, List.all_cons, Bool.and_eq_true] at h
  cases e <;> first | rfl | (cases h.1)
section
variable {Q : V → Store → Prop} {pos np : Pos} {args : List Expr}
theorem TEs.cons' {Q : List V → Store → Prop} {e : Expr} {rest : List Expr} (he : plainArgs (e :: rest) = true)
    (h : TE W cs k hd e m σ (fun a σ₁ => TEs W cs k hd rest pos m σ₁ (fun as σ₂ => Q (a :: as) σ₂) E) E) : TEs W cs k hd (e :: rest) pos m σ Q E := TEs.cons (starEach_plain he) h
theorem TE.call {x : Str} {f : Nat} (e : nsIn (Kf W.w.params) mainGlobals x = some (some (.ref f))) (hx : cs.names.lookup x = some .globalImplicit) (hf : keepIn (Kf W.w.params) (.ref f) = true)
    (hpl : plainArgs args = true) (h : TEs W cs k hd args pos m σ (fun vs σ₁ => TO W k hd (fun vals => PySem.call (.ref f) vals) vs σ₁ Q E) E) (hdb : (x == ("__debug__" : Str)) = false := by decide) :
    TE W cs k hd (.Call (.Name x np) args [] pos) m σ Q E := by
  intro c S₀ hp tk hc hh ok s
  refine wpAny_Call_ofName (wpAny_mono (TE.global (m := m) (σ := σ) (W := W) (k := k) (cs := cs) (hd := hd) (E := E) (Q := fun v σ' => v = .obj f ∧ σ' = σ) e (fun _ _ => .obj f) hx ⟨rfl, rfl⟩ hdb c S₀ hp tk hc hh ok s) (fun v s₁ z => ?_) fun _ _ z => z)
  obtain ⟨h1, tk1, σ1, v1, rfl, st1, x1, r1, rfl, rfl⟩ := z
  cases r1
  refine wp_callWith (c := c) (.ref hf) (plainArgs_any hpl _ _) (wpAny_mono (h c S₀ h1 tk1 hc hh ok st1) (fun vals s₂ z => ?_) fun _ _ z => z.lift x1)
  obtain ⟨h2, tk2, σ2, vs, rfl, st2, x2, r2, q2⟩ := z
  exact ⟨st2.X, wpAny_mono (q2 c S₀ h2 tk2 m vals hh ok st2 r2) (fun _ _ z => (z.lift x2).lift x1) fun _ _ z => (z.lift x2).lift x1⟩
theorem TE.callB {x : Str} {fv : Value} (e : nsIn (Kf W.w.params) mainGlobals x = some Option.none) (hv : bootBuiltins x = some fv) (hn : x ≠ "__name__") (hx : cs.names.lookup x = some .globalImplicit) (hf : Cal (Kf W.w.params) fv)
    (hpl : plainArgs args = true) (h : TEs W cs k hd args pos m σ (fun vs σ₁ => TO W k hd (fun vals => PySem.call fv vals) vs σ₁ Q E) E) (hdb : (x == ("__debug__" : Str)) = false := by decide) :
    TE W cs k hd (.Call (.Name x np) args [] pos) m σ Q E := by
  intro c S₀ hp tk hc hh ok s
  subst hc
  obtain ⟨mm, F, R⟩ := id s.fr
  refine wpAny_Call_ofName (nameX_B (cl := []) F W.X (topRead_of W.T) e hv hn ?_ ok.fn hx hdb)
  refine wp_callWith (c := c) hf (plainArgs_any hpl _ _) (wpAny_mono (h c S₀ hp tk rfl hh ok s) (fun vals s₂ z => ?_) fun _ _ z => z)
  obtain ⟨h2, tk2, σ2, vs, rfl, st2, x2, r2, q2⟩ := z
  exact ⟨st2.X, wpAny_mono (q2 c S₀ h2 tk2 m vals hh ok st2 r2) (fun _ _ z => z.lift x2) fun _ _ z => z.lift x2⟩
noncomputable def GM (W : Wd Kf) (k : Nat) (hd : Option Value) (v : V) (name : Str) (σ : Store) (f : Value) (own : Bool) : Prop :=
  Cal (Kf W.w.params) f ∧ ∀ (c : Cx) (S₀ : Shared) (h : Heap) (tk : Nat) (m : Loc) (val : Value) (pl : Sem Bool) (Q : Value × List Value → Shared → Prop) (EE : Value → Shared → Prop), c.hd = hd → c.Ok k → St W c σ m h → VR h σ v val →
    (∀ tk', Q (f, [val]) { S₀ with heap := h, toks := tk' }) → wpAny (model W.prog W.w) c.A (getMethod val name pl) Q EE { S₀ with heap := h, toks := tk }
theorem TE.method {o : Expr} {name : Str} {apos : Pos} {pl : Env → Sem Bool}
    (he : ∀ env, eval (.Call (.Attribute o name apos) args [] pos) env = (do
      let ov ← eval o env
      standAt apos.atName
      let (f, first) ← holding [ov] (getMethod ov name (pl env))
      callWith pos f first (backTo pos (starEach args env)) (backToKw pos (keywordEach [] env)))) (hpl : plainArgs args = true)
    (h : TE W cs k hd o m σ (fun ov σ₁ => ∃ f, GM W k hd ov name σ₁ f true ∧ TEs W cs k hd args pos m σ₁ (fun vs σ₂ => TO W k hd (fun vals => PySem.call f vals) (ov :: vs) σ₂ Q E) E) E) :
    TE W cs k hd (.Call (.Attribute o name apos) args [] pos) m σ Q E := by
  intro c S₀ hp tk hc hh ok s
  refine methodCall_KW (wpAny_mono (h c S₀ hp tk hc hh ok s) (fun ov s₁ z => ?_) fun _ _ z => z) (he _)
  obtain ⟨h1, tk1, σ1, v1, rfl, st1, x1, r1, f, ⟨hcal, g⟩, q1⟩ := z
  refine g c S₀ h1 tk1 m ov _ _ _ hh ok st1 r1 fun tk' => ?_
  refine wp_callWith (c := c) hcal (plainArgs_any hpl _ _) (wpAny_mono (q1 c S₀ h1 tk' hc hh ok st1) (fun vals s₂ z => ?_) fun _ _ z => z.lift x1)
  obtain ⟨h2, tk2, σ2, vs, rfl, st2, x2, r2, q2⟩ := z
  obtain ⟨mm, hn⟩ := st1.ns
  exact ⟨st2.X, wpAny_mono (q2 c S₀ h2 tk2 m (ov :: vals) hh ok st2 (.cons (r1.ext x2 hn) r2)) (fun _ _ z => (z.lift x2).lift x1) fun _ _ z => (z.lift x2).lift x1⟩
end
section attrs
theorem isStr_ne {d : DictEntry} {x y : Str} {t : Tok} (a : d.key = .str y t) (h : ¬ y = x) : d.key.isStr x = false := by
  rw [a]; simpa [Value.isStr] using h
theorem getL_skip {d : DictEntry} {x y : Str} {t : Tok} (a : d.key = .str y t) (h : ¬ y = x) (es : List DictEntry) : getL x (d :: es) = getL x es := by
  have hk := isStr_ne a h
  unfold getL
  rw [List.find?_cons, hk]
  have hr : d.refKey = false := by unfold DictEntry.refKey; rw [a]
  simp only [List.any_cons, hr, Bool.false_or]
theorem Ents.get {h : Heap} {x : Str} {v : V} {fs : List (Str × V)} {es : List DictEntry} (q : Ents h σ fs es) : getV fs x = some v → ∃ val, getL x es = some (some val) ∧ VR h σ v val :=
  Ents.ind (P := fun fs es => getV fs x = some v → ∃ val, getL x es = some (some val) ∧ VR h σ v val) (fun e => nomatch e) (fun y u fs d es a b _ ih e => by
    obtain ⟨t, a⟩ := a
    simp only [getV] at e
    by_cases hy : y = x
    · rw [if_pos hy] at e; cases e; subst hy
      exact ⟨d.val, by simp [getL, a, Value.isStr], b⟩
    · rw [if_neg hy] at e
      obtain ⟨val, z, r⟩ := ih e
      exact ⟨val, (getL_skip a hy es).trans z, r⟩) q
theorem Ents.miss {h : Heap} {x : Str} {fs : List (Str × V)} {es : List DictEntry} (q : Ents h σ fs es) : getV fs x = none → getL x es = some none :=
  Ents.ind (P := fun fs es => getV fs x = none → getL x es = some none) (fun _ => rfl) (fun y u fs d es a b _ ih e => by
    obtain ⟨t, a⟩ := a
    simp only [getV] at e
    by_cases hy : y = x
    · rw [if_pos hy] at e; cases e
    · rw [if_neg hy] at e
      exact (getL_skip a hy es).trans (ih e)) q
theorem Ents.put {h : Heap} {x : Str} {v : V} {hsh : Int} {t : Tok} {val : Value} (r : VR h σ v val) {fs : List (Str × V)} {es : List DictEntry} (q : Ents h σ fs es) : Ents h σ (setV fs x v) (putL x hsh (.str x t) val es) :=
  Ents.ind (P := fun fs es => Ents h σ (setV fs x v) (putL x hsh (.str x t) val es)) ⟨⟨t, rfl⟩, r, trivial⟩ (fun y u fs d es a b c ih => by
    obtain ⟨t', a⟩ := a
    simp only [setV, putL]
    by_cases hy : y = x
    · subst hy
      have hk : d.key.isStr y = true := by rw [a]; simp [Value.isStr]
      simp only [hk, if_true]
      exact ⟨⟨t', a⟩, r, c⟩
    · have hk := isStr_ne a hy
      simp only [hy, hk, if_false, Bool.false_eq_true]
      exact ⟨⟨t', a⟩, b, ih⟩) q
theorem Ents.length {h : Heap} {fs : List (Str × V)} {es : List DictEntry} (q : Ents h σ fs es) : es.length = fs.length :=
  Ents.ind (P := fun fs es => es.length = fs.length) rfl (fun _ _ fs _ es _ _ _ ih => by rw [List.length_cons, List.length_cons, ih]) q
theorem St.inst {c : Cx} {h : Heap} {a C d : Nat} {fs : List (Str × V)} (s : St W c σ m h) (e : σ a = some (.inst C d fs)) : ∃ es n, InstAt h a (instObj C d) C (some (dictOf es n)) ∧ Ents h σ fs es := by
  obtain ⟨ho, es, n, hd, r⟩ := s.cells a _ e
  exact ⟨es, n, ⟨ho, rfl, rfl, hd⟩, r⟩
theorem GM.inst {a C d f : Nat} {fs : List (Str × V)} {name : Str} (e : σ a = some (.inst C d fs)) (hg : plainGet (Kf W.w.params) C name = true) (hf : findIn (Kf W.w.params) (.ref C) name = some (some (.ref f))) (ht : isFn (Kf W.w.params) (.ref f) = true)
    (hkp : keepIn (Kf W.w.params) (.ref f) = true) (hl : getV fs name = none) : GM W k hd (.obj a) name σ (.ref f) true := by
  refine ⟨.ref hkp, fun c S₀ h tk m val pl Q EE hh ok s r q => ?_⟩
  cases r
  obtain ⟨mm, F, R⟩ := id s.fr
  obtain ⟨es, n, I, en⟩ := s.inst e
  exact method_inst F W.X I hg hf ht (en.miss hl) (q tk)
theorem TE.attr {Q : V → Store → Prop} {o : Expr} {name : Str} {pos : Pos} (hnt : ∀ ov r, letTemporaryGo o ov r = pure ()) (hb : ∀ env whole, attributeBase o name env whole = whole)
    (h : TE W cs k hd o m σ (fun ov σ₁ => TO W k hd (o1 fun v => getAttr v name true) [ov] σ₁ Q E) E) : TE W cs k hd (.Attribute o name pos) m σ Q E := by
  intro c S₀ hp tk hc hh ok s
  have he : eval (.Attribute o name pos) c.env = (do
      let ov ← eval o c.env
      standAt pos.atName
      let r ← holding [ov] (getAttr ov name true)
      letTemporaryGo o ov r
      pure r) := by
    show (do
      let ov ← attributeBase o name c.env (eval o c.env)
      standAt pos.atName
      let r ← holding [ov] (getAttr ov name true)
      letTemporaryGo o ov r
      pure r) = _
    rw [hb]
  rw [he]
  refine wpAny_bind (wpAny_mono (h c S₀ hp tk hc hh ok s) (fun ov s₁ z => wpAny_bind (wpAny_standAt (wpAny_bind (wpAny_holding ?_)))) fun _ _ z => z)
  obtain ⟨h1, tk1, σ1, v1, rfl, st1, x1, r1, q1⟩ := z
  refine wpAny_mono (q1 c S₀ h1 tk1 m [ov] hh ok st1 (.cons r1 .nil)) (fun r s₂ z => ?_) fun _ _ z => z.lift x1
  rw [hnt]
  exact wpAny_bind (wpAny_pure (wpAny_pure (z.lift x1)))
theorem TO.getInst {Q : V → Store → Prop} {a C d : Nat} {fs : List (Str × V)} {name : Str} {v : V} {attr : Option Value} (e : σ a = some (.inst C d fs)) (hg : plainGet (Kf W.w.params) C name = true) (hdi : hasDictIn (Kf W.w.params) C = true)
    (ha : findIn (Kf W.w.params) (.ref C) name = some attr) (hn : noGet (Kf W.w.params) attr = true) (hl : getV fs name = some v) (q : Q v σ) : TO W k hd (o1 fun v => getAttr v name true) [.obj a] σ Q E := by
  intro c S₀ h tk m vals hh ok s r
  cases r with
  | cons r rs =>
    cases r; cases rs
    obtain ⟨mm, F, R⟩ := id s.fr
    obtain ⟨es, n, I, en⟩ := s.inst e
    obtain ⟨val, hv, r⟩ := en.get hl
    exact get_own F W.X I hg hdi ha hn hv (by cases r <;> rfl) (.here s r q)
end attrs
end Mine
end
section
open PySem PySem.W PySem.Spec PySem.Calls PyProof.Rows
set_option maxRecDepth 100000
namespace Mine
variable {Kf : Params → Frag} {W : Wd Kf} {cs : Scope} {k : Nat} {hd : Option Value} {m : Loc} {σ : Store} {E : Int → Store → Prop}
theorem St.own {c : Cx} {h : Heap} (s : St W c σ m h) {a : Nat} {cl : Cell} (e : σ a = some cl) : (∃ o, h.get? a = some o) ∧ ∀ d ∈ cl.more, ∃ o, h.get? d = some o := by
  have q := s.cells a cl e
  cases cl with
  | list vs => exact let ⟨_, _, ho, _⟩ := q; ⟨⟨_, ho⟩, fun d hd => nomatch hd⟩
  | inst C d fs => exact let ⟨ho, es, n, hd, r⟩ := q; ⟨⟨_, ho⟩, fun d' hd' => by obtain rfl := List.mem_singleton.mp hd'; exact ⟨_, hd⟩⟩
  | exc C d T fs =>
    obtain ⟨⟨oe, vs, ho, r1⟩, ⟨oT, ts, hT, r2⟩, es, n, hd, r⟩ := q
    refine ⟨⟨_, ho⟩, fun d' hd' => ?_⟩
    rcases hd' with _ | ⟨_, _ | ⟨_, hm⟩⟩
    · exact ⟨_, hd⟩
    · exact ⟨_, hT⟩
    · cases hm
theorem St.alive {c : Cx} {h : Heap} (s : St W c σ m h) {a : Nat} (q : Mut σ a) : ∃ o, h.get? a = some o := by
  rcases q with ⟨cl, q⟩ | ⟨y, cl, q, hm⟩
  · exact (s.own q).1
  · exact (s.own q).2 a hm
theorem St.notL {c : Cx} {h : Heap} (s : St W c σ m h) {b : Nat} {o : Obj} (e : W.b.get? b = some o) : b ≠ c.L := by
  rintro rfl
  obtain ⟨mm, F, _⟩ := s.fr
  exact absurd (Nat.lt_of_lt_of_le (Heap.lt_size e) F.above) (Nat.lt_irrefl _)
theorem ns_same {h : Heap} {L : Nat} {mm mm' : Str → Option Value} (x : h.Ns L mm) (y : h.Ns L mm') : mm = mm' := by
  obtain ⟨o, es, ep, ho, hd, _, hf⟩ := x
  obtain ⟨o', es', ep', ho', hd', _, hf'⟩ := y
  rw [ho] at ho'; cases ho'
  rw [hd] at hd'; cases hd'
  exact funext fun n => (hf n).symm.trans (hf' n)
theorem ns_to {h h' : Heap} {L : Nat} {mm : Str → Option Value} (x : h.Ns L mm) (y : h'.Ns L mm) (mm' : Str → Option Value) (z : h.Ns L mm') : h'.Ns L mm' := ns_same x z ▸ y
theorem St.keepAll {c : Cx} {h h' : Heap} (s : St W c σ m h) (hk : ∀ b o, h.get? b = some o → h'.get? b = some o) : St W c σ m h' ∧ Ext c.L σ h σ h' := by
  have x : Ext c.L σ h σ h' := ⟨fun a o e _ _ => ⟨o.slots, hk a o e, fun _ => rfl⟩, fun a q => .inl q⟩
  obtain ⟨mm, hn⟩ := s.ns
  refine ⟨s.move x (fun mm hn => hn.keeps hk) (fun b o e => hk b o (s.stays b o e)) (fun a cl e => ?_) (fun a q nq => absurd q nq) s.sep, x⟩
  obtain ⟨⟨oa, ha⟩, hm⟩ := s.own e
  exact (s.cells a cl e).move x hn ((hk a oa ha).trans ha.symm) fun d hd => let ⟨od, e⟩ := hm d hd; (hk d od e).trans e.symm
theorem St.poke {c : Cx} {h h' : Heap} {a : Nat} {cl cl' : Cell} (s : St W c σ m h) (e : σ a = some cl) (em : cl'.more = cl.more) (hL : ∀ mm, h.Ns c.L mm → h'.Ns c.L mm) (hk : ∀ b o, b ≠ c.L → b ≠ a → b ∉ cl.more → h.get? b = some o → h'.get? b = some o)
    (new : Ext c.L σ h (upd σ a cl') h' → CellAt h' (upd σ a cl') a cl') : St W c (upd σ a cl') m h' ∧ Ext c.L σ h (upd σ a cl') h' := by
  have mutB : ∀ b, Mut (upd σ a cl') b → Mut σ b := fun b q => by
    rcases q with ⟨x, q⟩ | ⟨y, x, q, hm⟩
    · by_cases ba : b = a
      · subst ba; exact mut_at e
      · rw [upd_ne _ _ ba] at q; exact mut_at q
    · by_cases ya : y = a
      · subst ya; rw [upd_self] at q; cases q; rw [em] at hm; exact mut_more e hm
      · rw [upd_ne _ _ ya] at q; exact mut_more q hm
  have x : Ext c.L σ h (upd σ a cl') h' := ⟨fun b o eb n l => ⟨o.slots, hk b o l (fun q => n (q ▸ mut_at e)) (fun q => n (mut_more e q)) eb, fun _ => rfl⟩, fun b q => .inl (mutB b q)⟩
  obtain ⟨mm, hn⟩ := s.ns
  refine ⟨s.move x hL (fun b o eb => ?_) (fun b cb eb => ?_) (fun b q nq => absurd (mutB b q) nq) (fun y cy d q hm => ?_), x⟩
  · refine hk b o (s.notL eb) (fun q => ?_) (fun q => ?_) (s.stays b o eb)
    · have := (s.fresh a (mut_at e)).1; rw [← q, eb] at this; cases this
    · have := (s.fresh b (mut_more e q)).1; rw [eb] at this; cases this
  · by_cases ba : b = a
    · subst ba; rw [upd_self] at eb; cases eb; exact new x
    · rw [upd_ne _ _ ba] at eb
      obtain ⟨⟨ob, hb⟩, hm⟩ := s.own eb
      have nb : b ∉ cl.more := fun q => by have := (s.sep a cl b e q).1; rw [eb] at this; cases this
      refine (s.cells b cb eb).move x hn ((hk b ob (s.fresh b (mut_at eb)).2.1 ba nb hb).trans hb.symm) fun d hd => ?_
      obtain ⟨od, ed⟩ := hm d hd
      refine (hk d od (s.fresh d (mut_more eb hd)).2.1 (fun q => ?_) (fun q => ?_) ed).trans ed.symm
      · have := (s.sep b cb d eb hd).1; rw [q, e] at this; cases this
      · exact ba ((s.sep a cl d e q).2 b cb eb hd)
  · have key : ∃ cy', σ y = some cy' ∧ d ∈ cy'.more := by
      by_cases ya : y = a
      · subst ya; rw [upd_self] at q; cases q; exact ⟨cl, e, em ▸ hm⟩
      · rw [upd_ne _ _ ya] at q; exact ⟨cy, q, hm⟩
    obtain ⟨cy', ey, hm'⟩ := key
    obtain ⟨z1, z2⟩ := s.sep y cy' d ey hm'
    refine ⟨?_, fun y' c' q' hm'' => ?_⟩
    · by_cases da : d = a
      · subst da; rw [e] at z1; cases z1
      · rw [upd_ne _ _ da]; exact z1
    · by_cases ya : y' = a
      · subst ya; rw [upd_self] at q'; cases q'; exact z2 y' cl e (em ▸ hm'')
      · rw [upd_ne _ _ ya] at q'; exact z2 y' c' q' hm''
theorem St.alloc {c : Cx} {h h' : Heap} {a : Nat} {cl : Cell} (s : St W c σ m h) (hL : ∀ mm, h.Ns c.L mm → h'.Ns c.L mm) (hk : ∀ b o, b ≠ c.L → h.get? b = some o → h'.get? b = some o) (ha : h.get? a = none) (hm : ∀ d ∈ cl.more, h.get? d = none ∧ d ≠ a)
    (new : Ext c.L σ h (upd σ a cl) h' → CellAt h' (upd σ a cl) a cl) : St W c (upd σ a cl) m h' ∧ Ext c.L σ h (upd σ a cl) h' := by
  have dead : ∀ {b}, h.get? b = none → ¬ Mut σ b := fun e q => by obtain ⟨o, z⟩ := s.alive q; rw [e] at z; cases z
  have notL : ∀ {b}, h.get? b = none → b ≠ c.L := fun e q => by
    obtain ⟨mm, o, _, _, ho, _⟩ := s.ns
    rw [q, ho] at e; cases e
  have mutB : ∀ b, Mut (upd σ a cl) b → Mut σ b ∨ (h.get? b = none ∧ (b = a ∨ b ∈ cl.more)) := fun b q => by
    rcases q with ⟨x, q⟩ | ⟨y, x, q, hmm⟩
    · by_cases ba : b = a
      · exact .inr ⟨ba ▸ ha, .inl ba⟩
      · rw [upd_ne _ _ ba] at q; exact .inl (mut_at q)
    · by_cases ya : y = a
      · subst ya; rw [upd_self] at q; cases q; exact .inr ⟨(hm b hmm).1, .inr hmm⟩
      · rw [upd_ne _ _ ya] at q; exact .inl (mut_more q hmm)
  have x : Ext c.L σ h (upd σ a cl) h' := ⟨fun b o eb n l => ⟨o.slots, hk b o l eb, fun _ => rfl⟩, fun b q => (mutB b q).imp id fun z => ⟨z.1, notL z.1⟩⟩
  obtain ⟨mm, hn⟩ := s.ns
  have sa : σ a = none := by
    cases z : σ a with
    | none => rfl
    | some q => exact absurd (mut_at z) (dead ha)
  refine ⟨s.move x hL (fun b o eb => hk b o (s.notL eb) (s.stays b o eb)) (fun b cb eb => ?_) (fun b q nq => ?_) (fun y cy d q hmd => ?_), x⟩
  · by_cases ba : b = a
    · subst ba; rw [upd_self] at eb; cases eb; exact new x
    · rw [upd_ne _ _ ba] at eb
      obtain ⟨⟨ob, hb⟩, hm'⟩ := s.own eb
      exact (s.cells b cb eb).move x hn ((hk b ob (s.fresh b (mut_at eb)).2.1 hb).trans hb.symm) fun d hd => let ⟨od, e⟩ := hm' d hd; (hk d od (s.fresh d (mut_more eb hd)).2.1 e).trans e.symm
  · rcases mutB b q with z | z
    · exact absurd z nq
    · refine ⟨?_, fun hb => ?_⟩
      · cases zz : W.b.get? b with
        | none => rfl
        | some o => have := s.stays _ _ zz; rw [z.1] at this; cases this
      · obtain ⟨_, o, ho, _⟩ := s.ff.mem hb
        rw [z.1] at ho; cases ho
  · by_cases ya : y = a
    · subst ya; rw [upd_self] at q; cases q
      obtain ⟨hd0, hda⟩ := hm d hmd
      refine ⟨?_, fun y' c' q' hm' => ?_⟩
      · rw [upd_ne _ _ hda]
        cases z : σ d with
        | none => rfl
        | some q => exact absurd (mut_at z) (dead hd0)
      · by_cases yy : y' = y
        · exact yy
        · rw [upd_ne _ _ yy] at q'; exact absurd (mut_more q' hm') (dead hd0)
    · rw [upd_ne _ _ ya] at q
      obtain ⟨z1, z2⟩ := s.sep y cy d q hmd
      obtain ⟨od, ed⟩ := (s.own q).2 d hmd
      have da : d ≠ a := fun z => by rw [z, ha] at ed; cases ed
      refine ⟨by rw [upd_ne _ _ da]; exact z1, fun y' c' q' hm' => ?_⟩
      by_cases yy : y' = a
      · subst yy; rw [upd_self] at q'; cases q'
        have := (hm d hm').1; rw [ed] at this; cases this
      · rw [upd_ne _ _ yy] at q'; exact z2 y' c' q' hm'
noncomputable def others (b : Heap) (L d : Nat) (h : Heap) : List (Addr × Obj) := (List.range h.objs.size).filterMap fun a => if a = L ∨ a = d ∨ (b.get? a).isSome = true then none else (h.get? a).map fun o => (a, o)
theorem mem_others {b : Heap} {L d : Nat} {h : Heap} {p : Addr × Obj} : p ∈ others b L d h ↔ h.get? p.1 = some p.2 ∧ p.1 ≠ L ∧ p.1 ≠ d ∧ b.get? p.1 = none := by
  unfold others
  rw [List.mem_filterMap]
  constructor
  · rintro ⟨a, _, e⟩
    by_cases q : a = L ∨ a = d ∨ (b.get? a).isSome = true
    · rw [if_pos q] at e; cases e
    · rw [if_neg q] at e
      cases z : h.get? a with
      | none => rw [z] at e; cases e
      | some o =>
        rw [z] at e; cases e
        refine ⟨z, fun w => q (.inl w), fun w => q (.inr (.inl w)), ?_⟩
        cases y : b.get? a with
        | none => rfl
        | some o' => exact absurd (by rw [y]; rfl) fun w => q (.inr (.inr w))
  · rintro ⟨h1, h2, h3, h4⟩
    refine ⟨p.1, List.mem_range.mpr (Heap.lt_size h1), ?_⟩
    rw [if_neg (by rw [h4]; rintro (w | w | w) <;> first | exact h2 w | exact h3 w | cases w), h1]
    rfl
theorem news_others {h₀ h : Heap} {L d : Nat} {od : Obj} (hd : h.get? d = some od) (dL : d ≠ L) (db : h₀.get? d = none) : News h₀ L h ((d, od) :: others h₀ L d h) := fun p hp => by
  rcases List.mem_cons.mp hp with rfl | hp
  · exact ⟨hd, dL, db⟩
  · obtain ⟨a, b, _, e⟩ := mem_others.mp hp; exact ⟨a, b, e⟩
theorem kept_others {h₀ h h' : Heap} {L d : Nat} {mm mm' : Str → Option Value} {news : List (Addr × Obj)} (F : Fr h₀ L h mm') (F' : Fr h₀ L h' mm) (N' : News h₀ L h' news) (hs : ∀ p ∈ others h₀ L d h, p ∈ news) (a : Nat) (o : Obj) (e : h.get? a = some o) (aL : a ≠ L) (ad : a ≠ d) : h'.get? a = some o := by
  cases q : h₀.get? a with
  | none => exact (N' (a, o) (hs _ (mem_others.mpr ⟨e, aL, ad, q⟩))).1
  | some o' =>
    have := F.keep a o' q
    rw [e] at this; cases this
    exact F'.keep a o q
theorem getV_len : ∀ {fs : List (Str × V)} {x : Str} {v : V}, (setV fs x v).length ≤ fs.length + 1
  | [], _, _ => Nat.le_refl _
  | (y, u) :: r, x, v => by
    simp only [setV]
    split
    · exact Nat.le_succ _
    · exact Nat.succ_le_succ getV_len
section
variable {EE : Value → Shared → Prop}
theorem wp_setattr {c : Cx} {S₀ : Shared} {h : Heap} {tk a C d : Nat} {fs : List (Str × V)} {name : Str} {v : V} {val : Value} {Q : Unit → Shared → Prop} (s : St W c σ m h) (e : σ a = some (.inst C d fs)) (r : VR h σ v val)
    (hs : findIn (Kf W.w.params) (.ref C) "__setattr__" = some (some (.builtin "object.__setattr__"))) (hp : plainOver (Kf W.w.params) C = true) (ht : takerIn (Kf W.w.params) C name = some none) (hh : hasDictIn (Kf W.w.params) C = true) (hz : fs.length < 1000)
    (q : ∀ h' tk', St W c (upd σ a (.inst C d (setV fs name v))) m h' → Ext c.L σ h (upd σ a (.inst C d (setV fs name v))) h' → Q () { S₀ with heap := h', toks := tk' }) :
    wpAny (model W.prog W.w) c.A (setAttr (.ref a) name val) Q EE { S₀ with heap := h, toks := tk } := by
  obtain ⟨mm, F, R⟩ := id s.fr
  obtain ⟨ho, es, n, hd, en⟩ := s.cells a _ e
  have dM : Mut σ d := mut_more e (.head _)
  obtain ⟨db, dL, _⟩ := s.fresh d dM
  obtain ⟨es', n', ep⟩ : ∃ es' n', (putL name (PyData.keyHash W.w.params name) (.str name (tk + 1)) val es, putN name es n) = (es', n') := ⟨_, _, rfl⟩
  have e1 : putL name (PyData.keyHash W.w.params name) (.str name (tk + 1)) val es = es' := congrArg Prod.fst ep
  have en' : Ents h σ (setV fs name v) es' := e1 ▸ en.put r
  have hl : (getL name es).isSome = true := by
    cases z : getV fs name with
    | none => rw [en.miss z]; rfl
    | some u => obtain ⟨_, y, _⟩ := en.get z; rw [y]; rfl
  refine set_dict (dx := d) F W.X (news_others hd dL db) ⟨ho, rfl, rfl, hd⟩ rfl hs hp ht hh hl ep (.head fun p hp => (mem_others.mp hp).2.2.1) (by rw [en'.length]; have := getV_len (fs := fs) (x := name) (v := v); omega) fun h' F' N' => ?_
  have kept := fun b o eb (bL : b ≠ c.L) (bd : b ≠ d) => kept_others F F' N' (fun p hp => List.mem_cons_of_mem _ hp) b o eb bL bd
  have hd' : h'.get? d = some (dictOf es' n') := (N' _ (.head _)).1
  have ea : a ≠ d := fun q => by have := (s.sep a _ d e (.head _)).1; rw [← q, e] at this; cases this
  obtain ⟨st, x⟩ := s.poke (cl' := .inst C d (setV fs name v)) e rfl (fun mm' => ns_to F.ns F'.ns mm') (fun b o bL ba bm eb => kept b o eb bL fun q => bm (q ▸ .head _)) (fun x => ⟨kept a _ ho (s.fresh a (mut_at e)).2.1 ea, es', n', hd', en'.ext x F.ns⟩)
  exact q h' _ st x
end
theorem T1.assignAttr {Qn : Loc → Store → Prop} {Qr : V → Store → Prop} {ES : Int → Loc → Store → Prop} {pos pos' : Pos} {o value : Expr} {name : Str} (hs : ∀ env : Env, swapsWith value (some (.Attribute o name pos')) pos.line env = pure false)
    (h : TE W cs k hd value m σ (fun v σ₁ => TE W cs k hd o m σ₁ (fun ov σ₂ => ∃ a C d fs, ov = .obj a ∧ σ₂ a = some (.inst C d fs) ∧ findIn (Kf W.w.params) (.ref C) "__setattr__" = some (some (.builtin "object.__setattr__")) ∧ plainOver (Kf W.w.params) C = true ∧
      takerIn (Kf W.w.params) C name = some none ∧ hasDictIn (Kf W.w.params) C = true ∧ fs.length < 1000 ∧ Qn m (upd σ₂ a (.inst C d (setV fs name v)))) (fun p σ' => ES p m σ')) (fun p σ' => ES p m σ')) :
    T1 W cs k hd (.Assign [.Attribute o name pos'] value pos) m σ Qn Qr ES := by
  intro c S₀ hp tk hc hh ok s
  refine plainObj_wpAny_Assign_Attribute (wpAny_mono (h c S₀ hp tk hc hh ok s) (fun v s₁ z => ?_) fun _ _ z => ⟨m, z⟩) (hs _)
  obtain ⟨h1, tk1, σ1, v1, rfl, st1, x1, r1, q1⟩ := z
  refine wpAny_mono (q1 c S₀ h1 tk1 hc hh ok st1) (fun ov s₂ z => ?_) fun _ _ z => ⟨m, z.lift x1⟩
  obtain ⟨h2, tk2, σ2, v2, rfl, st2, x2, r2, a, C, d, fs, rfl, e, g1, g2, g3, g4, g5, q2⟩ := z
  cases r2
  obtain ⟨mm, hn⟩ := st1.ns
  exact wp_setattr st2 e (r1.ext x2 hn) g1 g2 g3 g4 g5 fun h3 tk3 st3 x3 => ⟨h3, tk3, _, m, rfl, st3, (x1.trans x2).trans x3, q2⟩
theorem T1.augAttr {Qn : Loc → Store → Prop} {Qr : V → Store → Prop} {ES : Int → Loc → Store → Prop} {pos pos' : Pos} {o value : Expr} {name : Str} {op : Operator}
    (h : TE W cs k hd o m σ (fun ov σ₁ => TO W k hd (o1 fun v => getAttr v name true) [ov] σ₁ (fun old σ₂ => TE W cs k hd value m σ₂ (fun v σ₃ => TO W k hd (o2 (inplaceOp op)) [old, v] σ₃ (fun new σ₄ =>
      ∃ a C d fs, ov = .obj a ∧ σ₄ a = some (.inst C d fs) ∧ findIn (Kf W.w.params) (.ref C) "__setattr__" = some (some (.builtin "object.__setattr__")) ∧ plainOver (Kf W.w.params) C = true ∧
      takerIn (Kf W.w.params) C name = some none ∧ hasDictIn (Kf W.w.params) C = true ∧ fs.length < 1000 ∧ Qn m (upd σ₄ a (.inst C d (setV fs name new)))) (fun p σ' => ES p m σ')) (fun p σ' => ES p m σ')) (fun p σ' => ES p m σ')) (fun p σ' => ES p m σ')) :
    T1 W cs k hd (.AugAssign (.Attribute o name pos') op value pos) m σ Qn Qr ES := by
  intro c S₀ hp tk hc hh ok s
  refine wpAny_AugAssign_AttributeAny (wpAny_mono (h c S₀ hp tk hc hh ok s) (fun ov s₁ z => ?_) fun _ _ z => ⟨m, z⟩)
  obtain ⟨h1, tk1, σ1, v1, rfl, st1, x1, r1, q1⟩ := z
  refine wpAny_mono (q1 c S₀ h1 tk1 m [ov] hh ok st1 (.cons r1 .nil)) (fun old s₂ z => ?_) fun _ _ z => ⟨m, z.lift x1⟩
  obtain ⟨h2, tk2, σ2, v2, rfl, st2, x2, r2, q2⟩ := z
  refine wpAny_mono (q2 c S₀ h2 tk2 hc hh ok st2) (fun v s₃ z => ?_) fun _ _ z => ⟨m, (z.lift x2).lift x1⟩
  obtain ⟨h3, tk3, σ3, v3, rfl, st3, x3, r3, q3⟩ := z
  obtain ⟨mm, hn⟩ := st2.ns
  refine wpAny_mono (q3 c S₀ h3 tk3 m [old, v] hh ok st3 (.cons (r2.ext x3 hn) (.cons r3 .nil))) (fun new s₄ z => ?_) fun _ _ z => ⟨m, ((z.lift x3).lift x2).lift x1⟩
  obtain ⟨h4, tk4, σ4, v4, rfl, st4, x4, r4, a, C, d, fs, rfl, e, g1, g2, g3, g4, g5, q4⟩ := z
  cases r1
  exact wp_setattr st4 e r4 g1 g2 g3 g4 g5 fun h5 tk5 st5 x5 => ⟨h5, tk5, _, m, rfl, st5, (((x1.trans x2).trans x3).trans x4).trans x5, q4⟩
theorem TO.new {C fI : Nat} {vs : List V} {Q : V → Store → Prop} (hm : makesIn (Kf W.w.params) C = true) (hi : findIn (Kf W.w.params) (.ref C) "__init__" = some (some (.ref fI))) (hf : isFn (Kf W.w.params) (.ref fI) = true)
    (h : ∀ x d, σ x = none → CO W k fI (.obj x :: vs) (upd σ x (.inst C d [])) (fun v σ' => v = .none ∧ Q (.obj x) σ') E) : TO W (k + 1) none (fun vals => PySem.call (.ref C) vals) vs σ Q E := by
  intro c S₀ hp tk m vals hh ok s r
  obtain ⟨mm, F, R⟩ := id s.fr
  have hne : c.L < hp.objs.size := F.ns.lt
  have N : News W.b c.L hp (others W.b c.L c.L hp) := fun p hp => let ⟨a, b, _, e⟩ := mem_others.mp hp; ⟨a, b, e⟩
  refine call_cls F W.X N hm hi hf fun x d h' F' N' l1 l2 => ?_
  have hx : h'.get? x = some (instObj C d) := (N' _ (.head _)).1
  have hdd : h'.get? d = some (dictOf [] 0) := (N' _ (.tail _ (.head _))).1
  obtain ⟨_, xL, xb⟩ := N' _ (.head _)
  obtain ⟨_, dL, db⟩ := N' (d, dictOf [] 0) (.tail _ (.head _))
  have dd : hp.get? d = none := by
    cases z : hp.get? d with
    | none => rfl
    | some o => exact absurd (l1 (d, o) (mem_others.mpr ⟨z, dL, dL, db⟩)) (Nat.lt_irrefl _)
  have dx : hp.get? x = none := by
    cases z : hp.get? x with
    | none => rfl
    | some o => exact absurd (Nat.lt_trans l2 (l1 (x, o) (mem_others.mpr ⟨z, xL, xL, xb⟩))) (Nat.lt_irrefl _)
  obtain ⟨st, x1⟩ := s.alloc (a := x) (cl := .inst C d []) (h' := h') (fun mm' => ns_to F.ns F'.ns mm') (fun b o bL eb => kept_others F F' N' (fun p hp => List.mem_cons_of_mem _ (List.mem_cons_of_mem _ hp)) b o eb bL bL) dx
    (fun d' hd' => by obtain rfl := List.mem_singleton.mp hd'; exact ⟨dd, Nat.ne_of_lt l2⟩) fun x => ⟨hx, [], 0, hdd, trivial⟩
  have sx : σ x = none := by
    cases z : σ x with
    | none => rfl
    | some q => obtain ⟨o, z⟩ := s.alive (mut_at z); rw [dx] at z; cases z
  let c' : Cx := { c with dp := c.dp + 1, un := c.un + 1 }
  have st' : St W c' (upd σ x (.inst C d [])) m h' := ⟨st.fr, st.ff, st.cells, st.fresh, st.lnew, st.fd, st.sep⟩
  have ok' : c'.Ok k := ⟨by have := ok.dp; show c.dp + 1 + k < _; omega, by have := ok.un; show c.un + 1 + 8 * k + 8 < _; omega, ok.fn⟩
  have z := h x d sx c' S₀ h' tk m (.ref x :: vals) hh ok' st' (.cons (.obj x) (r.ext x1 F.ns))
  refine codeAny_mono z fun r s' z => ?_
  rcases r with e | (v | _ | _ | _) <;> first | exact z.elim | skip
  · obtain ⟨h2, tk2, σ2, e', d', T, msg, p, rfl, st2, x2, rfl, f2, he, q2⟩ := z
    exact ⟨h2, tk2, σ2, e', d', T, msg, p, rfl, ⟨st2.fr, st2.ff, st2.cells, st2.fresh, st2.lnew, st2.fd, st2.sep⟩, x1.trans x2, rfl, f2, he, q2⟩
  · obtain ⟨h2, tk2, σ2, v2, rfl, st2, x2, r2, rfl, q2⟩ := z
    cases r2
    exact ⟨rfl, h2, tk2, σ2, .obj x, rfl, ⟨st2.fr, st2.ff, st2.cells, st2.fresh, st2.lnew, st2.fd, st2.sep⟩, x1.trans x2, .obj x, q2⟩
end Mine
end
section
open PySem PySem.W PySem.Spec PySem.Calls PyProof.Rows
set_option maxRecDepth 100000
namespace Mine
variable {Kf : Params → Frag} {W : Wd Kf} {cs : Scope} {k : Nat} {hd : Option Value} {m : Loc} {σ : Store} {E : Int → Store → Prop} {Q : V → Store → Prop}
theorem TO.of1 {f : Value → Sem Value} {a : V} (h : ∀ (c : Cx) (S₀ : Shared) (hp : Heap) (tk : Nat) (m : Loc) (x : Value), c.hd = hd → c.Ok k → St W c σ m hp → VR hp σ a x →
    wpAny (model W.prog W.w) c.A (f x) (RetP W c S₀ σ hp m Q) (ExcP W c S₀ σ hp m E) { S₀ with heap := hp, toks := tk }) : TO W k hd (o1 f) [a] σ Q E := by
  intro c S₀ hp tk m vals hh ok s r
  cases r with
  | cons r rs => cases rs; exact h c S₀ hp tk m _ hh ok s r
theorem TO.of2 {f : Value → Value → Sem Value} {a b : V} (h : ∀ (c : Cx) (S₀ : Shared) (hp : Heap) (tk : Nat) (m : Loc) (x y : Value), c.hd = hd → c.Ok k → St W c σ m hp → VR hp σ a x → VR hp σ b y →
    wpAny (model W.prog W.w) c.A (f x y) (RetP W c S₀ σ hp m Q) (ExcP W c S₀ σ hp m E) { S₀ with heap := hp, toks := tk }) : TO W k hd (o2 f) [a, b] σ Q E := by
  intro c S₀ hp tk m vals hh ok s r
  cases r with
  | cons r rs => cases rs with
    | cons r' rs => cases rs; exact h c S₀ hp tk m _ _ hh ok s r r'
theorem TO.ofc1 {fv : Value} {a : V} (h : ∀ (c : Cx) (S₀ : Shared) (hp : Heap) (tk : Nat) (m : Loc) (x : Value), c.hd = hd → c.Ok k → St W c σ m hp → VR hp σ a x →
    wpAny (model W.prog W.w) c.A (PySem.call fv [x]) (RetP W c S₀ σ hp m Q) (ExcP W c S₀ σ hp m E) { S₀ with heap := hp, toks := tk }) : TO W k hd (fun vals => PySem.call fv vals) [a] σ Q E := by
  intro c S₀ hp tk m vals hh ok s r
  cases r with
  | cons r rs => cases rs; exact h c S₀ hp tk m _ hh ok s r
theorem TO.ofc2 {fv : Value} {a b : V} (h : ∀ (c : Cx) (S₀ : Shared) (hp : Heap) (tk : Nat) (m : Loc) (x y : Value), c.hd = hd → c.Ok k → St W c σ m hp → VR hp σ a x → VR hp σ b y →
    wpAny (model W.prog W.w) c.A (PySem.call fv [x, y]) (RetP W c S₀ σ hp m Q) (ExcP W c S₀ σ hp m E) { S₀ with heap := hp, toks := tk }) : TO W k hd (fun vals => PySem.call fv vals) [a, b] σ Q E := by
  intro c S₀ hp tk m vals hh ok s r
  cases r with
  | cons r rs => cases rs with
    | cons r' rs => cases rs; exact h c S₀ hp tk m _ _ hh ok s r r'
section arith
variable {a b : Int}
theorem TO.add (q : Q (.int (a + b)) σ) : TO W k hd (o2 (binaryOp .Add)) [.int a, .int b] σ Q E := .of2 fun c S₀ hp tk m x y hh ok s r r' => by cases r; cases r'; exact P.add_int (.here s (.int _ _) q)
theorem TO.sub (q : Q (.int (a - b)) σ) : TO W k hd (o2 (binaryOp .Sub)) [.int a, .int b] σ Q E := .of2 fun c S₀ hp tk m x y hh ok s r r' => by cases r; cases r'; exact P.sub_int (.here s (.int _ _) q)
theorem TO.mul (hm : IntMulOk a b) (q : Q (.int (a * b)) σ) : TO W k hd (o2 (binaryOp .Mult)) [.int a, .int b] σ Q E := .of2 fun c S₀ hp tk m x y hh ok s r r' => by cases r; cases r'; exact P.mul_int (.here s (.int _ _) q) hm
theorem TO.fdiv (hb : b ≠ 0) (hl : b.natAbs.log2 < 9000) (q : Q (.int (a.fdiv b)) σ) : TO W k hd (o2 (binaryOp .FloorDiv)) [.int a, .int b] σ Q E := .of2 fun c S₀ hp tk m x y hh ok s r r' => by
  cases r; cases r'; exact floordiv_int hb (RetP.here s (.int _ _) q) (.inl (PyProof.noPylong_of_log2 hl))
theorem TO.fmod (hb : b ≠ 0) (q : Q (.int (a.fmod b)) σ) : TO W k hd (o2 (binaryOp .Mod)) [.int a, .int b] σ Q E := .of2 fun c S₀ hp tk m x y hh ok s r r' => by cases r; cases r'; exact mod_int' hb (RetP.here s (.int _ _) q)
theorem TO.pow (hb : 0 ≤ b) (hb2 : b ≤ 1000000) (ha : a.natAbs < 2 ^ 64) (q : Q (.int (a ^ b.toNat)) σ) : TO W k hd (o2 (binaryOp .Pow)) [.int a, .int b] σ Q E := .of2 fun c S₀ hp tk m x y hh ok s r r' => by
  cases r; cases r'; exact pow_int_small hb hb2 ha (RetP.here s (.int _ _) q)
theorem TO.iadd (q : Q (.int (a + b)) σ) : TO W k hd (o2 (inplaceOp .Add)) [.int a, .int b] σ Q E := .of2 fun c S₀ hp tk m x y hh ok s r r' => by cases r; cases r'; exact P.iadd_int (.here s (.int _ _) q)
theorem TO.neg (q : Q (.int (-a)) σ) : TO W k hd (o1 (unaryOp .USub)) [.int a] σ Q E := .of1 fun c S₀ hp tk m x hh ok s r => by cases r; exact P.neg_int (.here s (.int _ _) q)
theorem TO.eqI (q : Q (.bool (a == b)) σ) : TO W k hd (o2 (compareOp .Eq)) [.int a, .int b] σ Q E := .of2 fun c S₀ hp tk m x y hh ok s r r' => by cases r; cases r'; exact P.eq_int (.here (tk' := tk) s (.bool _) q)
theorem TO.neI (q : Q (.bool (a != b)) σ) : TO W k hd (o2 (compareOp .NotEq)) [.int a, .int b] σ Q E := .of2 fun c S₀ hp tk m x y hh ok s r r' => by cases r; cases r'; exact P.ne_int (.here (tk' := tk) s (.bool _) q)
theorem TO.ltI (q : Q (.bool (decide (a < b))) σ) : TO W k hd (o2 (compareOp .Lt)) [.int a, .int b] σ Q E := .of2 fun c S₀ hp tk m x y hh ok s r r' => by cases r; cases r'; exact P.lt_int (.here (tk' := tk) s (.bool _) q)
theorem TO.gtI (q : Q (.bool (decide (a > b))) σ) : TO W k hd (o2 (compareOp .Gt)) [.int a, .int b] σ Q E := .of2 fun c S₀ hp tk m x y hh ok s r r' => by cases r; cases r'; exact P.gt_int (.here (tk' := tk) s (.bool _) q)
theorem TO.geI (q : Q (.bool (decide (a ≥ b))) σ) : TO W k hd (o2 (compareOp .GtE)) [.int a, .int b] σ Q E := .of2 fun c S₀ hp tk m x y hh ok s r r' => by cases r; cases r'; exact P.ge_int (.here (tk' := tk) s (.bool _) q)
theorem TO.abs (q : Q (.int (if a < 0 then -a else a)) σ) : TO W k hd (fun vals => PySem.call (.builtin "abs") vals) [.int a] σ Q E := .ofc1 fun c S₀ hp tk m x hh ok s r => by cases r; exact call_abs_int fun u tk => .here s (.int _ _) q
theorem TO.intI (q : Q (.int a) σ) : TO W k hd (fun vals => PySem.call (.type "int") vals) [.int a] σ Q E := .ofc1 fun c S₀ hp tk m x hh ok s r => by cases r; exact call_int_int (.here (tk' := tk) s (.int _ _) q)
theorem TO.intB {b : Bool} (q : Q (.int (if b then 1 else 0)) σ) : TO W k hd (fun vals => PySem.call (.type "int") vals) [.bool b] σ Q E := .ofc1 fun c S₀ hp tk m x hh ok s r => by cases r; exact call_int_bool (.here s (.int _ _) q)
theorem TO.max (hn : hd = Option.none) (q : Q (.int (if b > a then b else a)) σ) : TO W k hd (fun vals => PySem.call (.builtin "max") vals) [.int a, .int b] σ Q E := .ofc2 fun c S₀ hp tk m x y hh ok s r r' => by
  cases r; cases r'
  refine max_two_ints (hh.trans hn) fun h' tk' hk => ?_
  obtain ⟨s', x⟩ := s.keepAll hk
  by_cases z : b > a
  · rw [if_pos z]; exact ⟨h', tk', σ, .int b, rfl, s', x, .int _ _, by rw [if_pos z] at q; exact q⟩
  · rw [if_neg z]; exact ⟨h', tk', σ, .int a, rfl, s', x, .int _ _, by rw [if_neg z] at q; exact q⟩
end arith
noncomputable def digs (a : Int) : List Nat := (Str.ofString (toString a)).cps.toList
theorem TO.strI {a : Int} (hn : hd = Option.none) (ha : a.natAbs < 10 ^ 4300) (q : Q (.str (digs a)) σ) : TO W k hd (fun vals => PySem.call (.type "str") vals) [.int a] σ Q E := .ofc1 fun c S₀ hp tk m x hh ok s r => by
  cases r
  exact str_of_int_or (hh.trans hn) (W.T.keeps s.stays).nodigits (fun _ => RetP.here s (.str (digs a) _) q) fun h => absurd h (by omega)
section texts
variable {x y : List Nat}
theorem S_length (l : List Nat) : (S l).length = l.length := by simp [S, Str.length]
theorem S_append (a b : List Nat) : S a ++ S b = S (a ++ b) := by
  show Str.append _ _ = _
  unfold Str.append S; simp
theorem TO.cat (hz : x.length + y.length ≤ sizeLine) (q : Q (.str (x ++ y)) σ) : TO W k hd (o2 (binaryOp .Add)) [.str x, .str y] σ Q E := .of2 fun c S₀ hp tk m u v hh ok s r r' => by
  cases r; cases r'; exact SB.add (fun t' k => by rw [S_append]; exact .here s (.str _ _) q) (by rw [S_length, S_length]; exact hz)
theorem TO.eqS (q : Q (.bool (x == y)) σ) : TO W k hd (o2 (compareOp .Eq)) [.str x, .str y] σ Q E := .of2 fun c S₀ hp tk m u v hh ok s r r' => by cases r; cases r'; exact P.eq_str (.here (tk' := tk) s (.bool _) q)
theorem TO.neS (q : Q (.bool (x != y)) σ) : TO W k hd (o2 (compareOp .NotEq)) [.str x, .str y] σ Q E := .of2 fun c S₀ hp tk m u v hh ok s r r' => by cases r; cases r'; exact P.ne_str (.here (tk' := tk) s (.bool _) q)
theorem TO.inS {d : Nat} (q : Q (.bool (decide (d ∈ y))) σ) : TO W k hd (o2 (compareOp .In)) [.str [d], .str y] σ Q E := .of2 fun c S₀ hp tk m u v hh ok s r r' => by
  cases r; cases r'
  refine P.in_str (.here (tk' := tk) s (.bool _) ?_)
  rw [show S [d] = ⟨#[d]⟩ from rfl, StrLaws.found_one]
  exact q
theorem TO.notInS {d : Nat} (q : Q (.bool (!decide (d ∈ y))) σ) : TO W k hd (o2 (compareOp .NotIn)) [.str [d], .str y] σ Q E := .of2 fun c S₀ hp tk m u v hh ok s r r' => by
  cases r; cases r'
  refine P.notIn_str (.here (tk' := tk) s (.bool _) ?_)
  rw [show S [d] = ⟨#[d]⟩ from rfl, StrLaws.found_one]
  exact q
theorem TO.lenS (hz : x.length ≤ sizeLine) (q : Q (.int x.length) σ) : TO W k hd (fun vals => PySem.call (.builtin "len") vals) [.str x] σ Q E := .ofc1 fun c S₀ hp tk m u hh ok s r => by
  cases r
  refine P.len_str (by rw [S_length]; rw [sizeLine_eq] at hz; omega) ?_
  rw [S_length]; exact .here s (.int _ _) q
end texts
end Mine
end
section
open PySem PySem.W PySem.Spec PySem.Calls PyProof.Rows
set_option maxRecDepth 100000
namespace Mine
variable {Kf : Params → Frag} {W : Wd Kf} {cs : Scope} {k : Nat} {hd : Option Value} {m : Loc} {σ : Store} {E : Int → Store → Prop} {Q : V → Store → Prop} {pos : Pos}
theorem St.notMutNew {c : Cx} {h : Heap} (s : St W c σ m h) {a : Nat} (e : h.get? a = none) : ¬ Mut σ a := fun q => by obtain ⟨o, z⟩ := s.alive q; rw [e] at z; cases z
theorem get_size {h : Heap} : h.get? h.objs.size = none := by
  cases e : h.get? h.objs.size with
  | none => rfl
  | some o => exact absurd (Heap.lt_size e) (Nat.lt_irrefl _)
theorem St.push {c : Cx} {h : Heap} (s : St W c σ m h) (ob : Obj) : St W c σ m (h.push ob) ∧ Ext c.L σ h σ (h.push ob) := s.keepAll fun b o e => Heap.get?_push_of_some ob e
theorem St.pushCell {c : Cx} {h : Heap} {vs : List V} {vals : List Value} (s : St W c σ m h) (r : VRs h σ vs vals) :
    St W c (upd σ h.objs.size (.list vs)) m (h.push (lobj vals 0)) ∧ Ext c.L σ h (upd σ h.objs.size (.list vs)) (h.push (lobj vals 0)) ∧ σ h.objs.size = none := by
  obtain ⟨mm, hn⟩ := s.ns
  obtain ⟨a, b⟩ := s.alloc (cl := .list vs) (fun mm hn => hn.push _) (fun b o _ e => Heap.get?_push_of_some _ e) get_size (fun d hd => nomatch hd) fun x => ⟨vals, 0, Heap.get?_push_size _ rfl, r.ext x hn⟩
  refine ⟨a, b, ?_⟩
  cases z : σ h.objs.size with
  | none => rfl
  | some q => exact absurd (mut_at z) (s.notMutNew get_size)
theorem VRs.length {h : Heap} : ∀ {vs : List V} {vals : List Value}, VRs h σ vs vals → vs.length = vals.length
  | _, _, .nil => rfl
  | _, _, .cons _ r => by rw [List.length_cons, List.length_cons, r.length]
theorem VRs.get {h : Heap} {vs : List V} {vals : List Value} (r : VRs h σ vs vals) {i : Nat} {v : V} (e : vs[i]? = some v) : ∃ val, vals[i]? = some val ∧ VR h σ v val := by
  induction vs generalizing vals i with
  | nil => simp at e
  | cons u vs ih =>
    cases r with
    | cons r rs =>
      cases i with
      | zero => cases e; exact ⟨_, rfl, r⟩
      | succ i => exact ih rs e
theorem VRs.append {h : Heap} {vs us : List V} {vals wals : List Value} (r : VRs h σ vs vals) (q : VRs h σ us wals) : VRs h σ (vs ++ us) (vals ++ wals) := by
  induction vs generalizing vals with
  | nil => cases r; exact q
  | cons u vs ih => cases r with | cons r rs => exact .cons r (ih rs)
theorem VRs.set {h : Heap} {v : V} {val : Value} (q : VR h σ v val) {vs : List V} {vals : List Value} (r : VRs h σ vs vals) (i : Nat) : VRs h σ (vs.set i v) (vals.set i val) := by
  induction vs generalizing vals i with
  | nil => cases r; exact .nil
  | cons u vs ih =>
    cases r with
    | cons r rs =>
      cases i with
      | zero => exact .cons q rs
      | succ i => exact .cons r (ih rs i)
theorem TE.tuple {elts : List Expr} {kk : Nat} (h : TEs W cs k hd elts pos m σ (fun vs σ' => vs.length ≤ sizeLine ∧ Q (.tup vs) σ') E) : TE W cs k hd (.Tuple elts kk pos) m σ Q E := by
  intro c S₀ hp tk hc hh ok s
  refine wpAny_Tuple (wpAny_mono (h c S₀ hp tk hc hh ok s) (fun vals s₁ z => ?_) fun _ _ z => z)
  obtain ⟨h1, tk1, σ1, vs, rfl, st1, x1, r1, hz, q1⟩ := z
  obtain ⟨st2, x2⟩ := st1.push { cls := .type "tuple", data := .seq vals.toArray }
  obtain ⟨mm, hn⟩ := st1.ns
  exact ⟨by rw [← r1.length]; exact hz, _, tk1, σ1, _, rfl, st2, x1.trans x2, .tup ⟨_, Heap.get?_push_size _ rfl, rfl, _, rfl⟩ (st1.notMutNew get_size) (r1.ext x2 hn), q1⟩
theorem TE.listF {elts : List Expr} (h : TEs W cs k hd elts pos m σ (fun vs σ' => vs.length ≤ sizeLine ∧ Q (.lst vs) σ') E) : TE W cs k hd (.List elts pos) m σ Q E := by
  intro c S₀ hp tk hc hh ok s
  refine wpAny_List (wpAny_mono (h c S₀ hp tk hc hh ok s) (fun vals s₁ z => ?_) fun _ _ z => z)
  obtain ⟨h1, tk1, σ1, vs, rfl, st1, x1, r1, hz, q1⟩ := z
  obtain ⟨st2, x2⟩ := st1.push { cls := .type "list", data := .seq vals.toArray }
  obtain ⟨mm, hn⟩ := st1.ns
  exact ⟨by rw [← r1.length]; exact hz, _, tk1, σ1, _, rfl, st2, x1.trans x2, .lst (n := 0) (Heap.get?_push_size _ rfl) (st1.notMutNew get_size) (r1.ext x2 hn), q1⟩
theorem TE.listC {elts : List Expr} (h : TEs W cs k hd elts pos m σ (fun vs σ' => vs.length ≤ sizeLine ∧ ∀ a, σ' a = Option.none → Q (.obj a) (upd σ' a (.list vs))) E) : TE W cs k hd (.List elts pos) m σ Q E := by
  intro c S₀ hp tk hc hh ok s
  refine wpAny_List (wpAny_mono (h c S₀ hp tk hc hh ok s) (fun vals s₁ z => ?_) fun _ _ z => z)
  obtain ⟨h1, tk1, σ1, vs, rfl, st1, x1, r1, hz, q1⟩ := z
  obtain ⟨st2, x2, dead⟩ := st1.pushCell r1
  exact ⟨by rw [← r1.length]; exact hz, _, tk1, _, _, rfl, st2, x1.trans x2, .obj _, q1 _ dead⟩
noncomputable def SubV (σ : Store) : V → Prop
  | .str _ | .tup _ | .lst _ => True
  | .obj a => ∃ vs, σ a = some (.list vs)
  | _ => False
theorem TE.item {value slice : Expr} (hs : ∀ o i, subscripted slice false o i = operate [o, i] (getItem o i))
    (h : TE W cs k hd value m σ (fun o σ₁ => TE W cs k hd slice m σ₁ (fun i σ₂ => SubV σ₂ o ∧ TO W k hd (o2 getItem) [o, i] σ₂ Q E) E) E) : TE W cs k hd (.Subscript value slice pos) m σ Q E := by
  intro c S₀ hp tk hc hh ok s
  refine PyProof.Rows.Subscript_ (wpAny_mono (h c S₀ hp tk hc hh ok s) (fun o s₁ z => ?_) fun _ _ z => z)
  obtain ⟨h1, tk1, σ1, v1, rfl, st1, x1, r1, q1⟩ := z
  refine wpAny_mono (q1 c S₀ h1 tk1 hc hh ok st1) (fun i s₂ z => ?_) fun _ _ z => z.lift x1
  obtain ⟨h2, tk2, σ2, v2, rfl, st2, x2, r2, sv, q2⟩ := z
  obtain ⟨mm, hn⟩ := st1.ns
  have r1' := r1.ext x2 hn
  have fin := wpAny_mono (q2 c S₀ h2 tk2 m [o, i] hh ok st2 (.cons r1' (.cons r2 .nil))) (fun v s' h' => (h'.lift x2).lift x1) fun v s' h' => (h'.lift x2).lift x1
  have key : ∀ {T id : String}, Shared.TypeIs { S₀ with heap := h2, toks := tk2 } o T → typeLookup (.type T) "__getitem__" = pure (some (.builtin id)) → wpAny (model W.prog W.w) c.A (subscriptTail value slice o i) (RetP W c S₀ σ hp m Q) (ExcP W c S₀ σ hp m E) { S₀ with heap := h2, toks := tk2 } :=
    fun hT hl => tail_any hT hl fin (hs o i)
  cases r1' with
  | str l t => exact key (typeIs_str _ _ _) slot_str_getitem.lookup
  | tup a n rs => exact key a.typeIs slot_tuple_getitem.lookup
  | lst a n rs => exact key (T := "list") ⟨_, a, rfl⟩ slot_list_getitem.lookup
  | obj a =>
    obtain ⟨vs, e⟩ := sv
    obtain ⟨vals, n, ho, _⟩ := st2.cells a _ e
    exact key (T := "list") ⟨_, ho, rfl⟩ slot_list_getitem.lookup
  | none => exact sv.elim
  | bool b => exact sv.elim
  | int i t => exact sv.elim
  | rng a n => exact sv.elim
theorem TO.itemStr {l : List Nat} {i : Int} {j x : Nat} (hlo : -(2 ^ 63) ≤ i) (hhi : i < 2 ^ 63) (hj : seqIndex? i l.length = some j) (hx : l[j]? = some x) (q : Q (.str [x]) σ) : TO W k hd (o2 getItem) [.str l, .int i] σ Q E := .of2 fun c S₀ hp tk m u v hh ok s r r' => by
  cases r; cases r'
  refine P.getItem_str (c := x) ?_ ?_ (.here s (.str [x] _) q)
  · simp only [Bool.or_eq_false_iff, decide_eq_false_iff_not]; omega
  · rw [S_length, hj]; show (S l).cps[j]? = some x; simp [S, hx]
theorem TO.itemTup {vs : List V} {i : Int} {j : Nat} {x : V} (hlo : -(2 ^ 63) ≤ i) (hhi : i < 2 ^ 63) (hj : seqIndex? i vs.length = some j) (hx : vs[j]? = some x) (q : Q x σ) : TO W k hd (o2 getItem) [.tup vs, .int i] σ Q E := .of2 fun c S₀ hp tk m u v hh ok s r r' => by
  cases r with
  | tup t n rs =>
    cases r'
    obtain ⟨val, e, r⟩ := rs.get hx
    exact PyProof.Rows.getItem_tuple (j := j) t hlo hhi (by rw [rs.length] at hj; simpa using hj) (by simpa using e) (RetP.here (tk' := tk) s r q)
theorem isList_of {h : Heap} {a n : Nat} {vals : List Value} (e : h.get? a = some (lobj vals n)) : h.IsList a vals.toArray := ⟨_, e, rfl, n, rfl⟩
theorem TO.itemLst {vs : List V} {i : Int} {x : V} (hlo : 0 ≤ i) (hhi : i < 2 ^ 63) (hx : vs[i.toNat]? = some x) (q : Q x σ) : TO W k hd (o2 getItem) [.lst vs, .int i] σ Q E := .of2 fun c S₀ hp tk m u v hh ok s r r' => by
  cases r with
  | lst t n rs =>
    cases r'
    obtain ⟨val, e, r⟩ := rs.get hx
    exact wpAny_getItem_list (isList_of t) hlo hhi (by simpa using e) (RetP.here (tk' := tk) s r q)
theorem TO.itemCell {a : Nat} {vs : List V} {i : Int} {x : V} (ea : σ a = some (.list vs)) (hlo : 0 ≤ i) (hhi : i < 2 ^ 63) (hx : vs[i.toNat]? = some x) (q : Q x σ) : TO W k hd (o2 getItem) [.obj a, .int i] σ Q E := .of2 fun c S₀ hp tk m u v hh ok s r r' => by
  cases r; cases r'
  obtain ⟨vals, n, t, rs⟩ := s.cells a _ ea
  obtain ⟨val, e, r⟩ := rs.get hx
  exact wpAny_getItem_list (isList_of t) hlo hhi (by simpa using e) (RetP.here (tk' := tk) s r q)
end Mine
end
section
open PySem PySem.W PySem.Spec PySem.Calls PyProof.Rows
set_option maxRecDepth 100000
namespace Mine
variable {Kf : Params → Frag} {W : Wd Kf} {cs : Scope} {k : Nat} {hd : Option Value} {m : Loc} {σ : Store} {E : Int → Store → Prop} {Q : V → Store → Prop} {pos : Pos}
theorem St.extBut {c : Cx} {h h' : Heap} {b : Nat} (s : St W c σ m h) (hb : h.get? b = none) (hk : Heap.ExtBut b h h') : St W c σ m h' ∧ Ext c.L σ h σ h' :=
  s.keepAll fun a o e => hk a o (fun q => by rw [q, hb] at e; cases e) e
noncomputable def storesOf (m : Loc) (xs : List (Str × V)) : Loc := xs.foldl (fun m p => setV m p.1 p.2) m
theorem wp_stores {EE : Value → Shared → Prop} {c : Cx} {S₀ : Shared} {names : List Str} {vs : List V} {vals : List Value} {M : Model} {A : Around} {Q : Unit → Shared → Prop} (hx : ∀ x ∈ names, cs.names.lookup x = some .local) (hc : c.cs = cs) (ok : c.Ok k) :
    ∀ {m : Loc} {h : Heap} {tk : Nat}, St W c σ m h → VRs h σ vs vals → names.length = vs.length → (∀ h' tk', St W c σ (storesOf m (names.zip vs)) h' → Ext c.L σ h σ h' → Q () { S₀ with heap := h', toks := tk' }) →
    wpAny M A (assignInOrder (names.map fun n => bindName c.env n) vals) Q EE { S₀ with heap := h, toks := tk } := by
  induction names generalizing vs vals with
  | nil =>
    intro m h tk s r hl q
    cases vs with
    | nil => exact assignInOrder_nil (q h tk s .refl)
    | cons _ _ => cases hl
  | cons x names ih =>
    intro m h tk s r hl q
    cases r with
    | nil => cases hl
    | @cons v val vs vals r rs =>
      refine assignInOrder_cons (bindName_ (wp_store ok s r (hc ▸ hx x (.head _)) fun h1 st1 x1 => ?_))
      obtain ⟨mm, hn⟩ := s.ns
      exact ih (fun y hy => hx y (.tail _ hy)) st1 (rs.ext x1 hn) (by simpa using hl) fun h2 tk2 st2 x2 => q h2 tk2 st2 (x1.trans x2)
theorem VRs.reverse {h : Heap} {vs : List V} {vals : List Value} (r : VRs h σ vs vals) : VRs h σ vs.reverse vals.reverse := by
  induction vs generalizing vals with
  | nil => cases r; exact .nil
  | cons v vs ih =>
    cases r with
    | cons r rs => rw [List.reverse_cons, List.reverse_cons]; exact (ih rs).append (.cons r .nil)
section
variable {Qn : Loc → Store → Prop} {Qr : V → Store → Prop} {ES : Int → Loc → Store → Prop} {tpos : Pos} {elts : List Expr} {kk : Nat} {value : Expr}
theorem T1.assignTup {names : List Str} (hh : hd = none) (hs : ∀ env, swapsWithSole [.Tuple elts kk tpos] value pos.line env = pure false) (hw : ∀ cn L a ccd, swappedStores [.Tuple elts kk tpos] value (envOf cn cs L a ccd) = pure (some names))
    (hx : (names.all fun x => cs.names.lookup x == some .local) = true)
    (h : TE W cs k hd value m σ (fun v σ' => ∃ vs, v = .tup vs ∧ names.length = vs.length ∧ Qn (storesOf m (names.reverse.zip vs.reverse)) σ') (fun p σ' => ES p m σ')) : T1 W cs k hd (.Assign [.Tuple elts kk tpos] value pos) m σ Qn Qr ES := by
  intro c S₀ hp tk hc hh' ok s
  refine Assign_Tuple_swapped (names := names) (wpAny_mono (h c S₀ hp tk hc hh' ok s) (fun v s₁ z => ?_) fun _ _ z => ⟨m, z⟩) (hs _) (by rw [← hw c.cn c.L c.a c.ccd, ← hc]; rfl)
  obtain ⟨h1, tk1, σ1, v1, rfl, st1, x1, r1, vs, rfl, hl, q1⟩ := z
  cases r1 with
  | @tup _ vals _ t n rs =>
    refine unpackItems_tuple' (hh'.trans hh) t (by rw [hl, rs.length]; simp) fun h2 hk2 => ?_
    obtain ⟨st2, x2⟩ := st1.extBut get_size hk2
    obtain ⟨mm, hn⟩ := st1.ns
    refine wp_stores (fun x hm => ?_) hc ok st2 (rs.ext x2 hn).reverse (by simpa using hl) fun h3 tk3 st3 x3 => ⟨h3, tk3, σ1, _, rfl, st3, (x1.trans x2).trans x3, q1⟩
    have := List.all_eq_true.mp hx x (List.mem_reverse.mp hm)
    simpa using this
where
  unpackItems_tuple' {prog : Program} {w : World} {A : Around} {E : Value → Shared → Prop} {s : Shared} {t n : Nat} {items : Array Value} {Q : List Value → Shared → Prop} (hh : A.handled = none) (ht : IsTup s.heap t items) (hn : n = items.size)
    (hQ : ∀ h', Heap.ExtBut s.heap.objs.size s.heap h' → Q items.toList { s with heap := h' }) : wpAny (model prog w) A (unpackItems (.ref t) n none) Q E s := by
    subst hn; exact unpackItems_tuple hh ht hQ
end
end Mine
end
section
open PySem PySem.W PySem.Spec PySem.Calls PyProof.Rows
set_option maxRecDepth 100000
namespace Mine
variable {Kf : Params → Frag} {W : Wd Kf} {cs : Scope} {k : Nat} {hd : Option Value} {m : Loc} {σ : Store} {E : Int → Store → Prop} {Q : V → Store → Prop} {pos : Pos}
noncomputable def TP (W : Wd Kf) (cs : Scope) (k : Nat) (hd : Option Value) (x : Option Expr) (m : Loc) (σ : Store) (Q : Option Int → Store → Prop) (E : Int → Store → Prop) : Prop :=
  match x with
  | none => Q none σ
  | some e => TE W cs k hd e m σ (fun v σ' => ∃ i, v = .int i ∧ Q (some i) σ') E
inductive PartP (W : Wd Kf) (c : Cx) (S₀ : Shared) (σ : Store) (h : Heap) (m : Loc) (Q : Option Int → Store → Prop) (val : Value) (s' : Shared) : Prop
  | mk (h' : Heap) (tk' : Nat) (σ' : Store) (i : Option (Int × Tok)) : s' = { S₀ with heap := h', toks := tk' } → St W c σ' m h' → Ext c.L σ h σ' h' → val = PySem.partValue i ∧ Q (i.map (·.1)) σ' → PartP W c S₀ σ h m Q val s'
theorem TP.run {x : Option Expr} {Q : Option Int → Store → Prop} {c : Cx} {S₀ : Shared} {hp : Heap} {tk : Nat} (h : TP W cs k hd x m σ Q E) (hc : c.cs = cs) (hh : c.hd = hd) (ok : c.Ok k) (s : St W c σ m hp) :
    wpAny (model W.prog W.w) c.A (evalPart x c.env) (PartP W c S₀ σ hp m Q) (ExcP W c S₀ σ hp m E) { S₀ with heap := hp, toks := tk } := by
  cases x with
  | none => rw [evalPart_none]; exact wpAny_pure ⟨hp, tk, σ, none, rfl, s, .refl, rfl, h⟩
  | some e =>
    rw [evalPart_some]
    refine wpAny_mono (h c S₀ hp tk hc hh ok s) (fun v s₁ z => ?_) fun _ _ z => z
    obtain ⟨h1, tk1, σ1, v1, rfl, st1, x1, r1, i, rfl, q1⟩ := z
    cases r1 with
    | int _ t => exact ⟨h1, tk1, σ1, some (i, t), rfl, st1, x1, rfl, q1⟩
theorem TP.some {e : Expr} {Q : Option Int → Store → Prop} (h : TE W cs k hd e m σ (fun v σ' => ∃ i, v = .int i ∧ Q (Option.some i) σ') E) : TP W cs k hd (Option.some e) m σ Q E := h
theorem TP.none {Q : Option Int → Store → Prop} (h : Q Option.none σ) : TP W cs k hd Option.none m σ Q E := h
noncomputable def cut (x : List Nat) (lo hi : Option Int) : List Nat := (Txt.slice (S x) lo hi).cps.toList
theorem TE.slice {value : Expr} {lower upper : Option Expr} {p : Pos} (h : TE W cs k hd value m σ (fun o σ₁ => TP W cs k hd lower m σ₁ (fun i σ₂ => TP W cs k hd upper m σ₂ (fun j σ₃ => ∃ x, o = .str x ∧ x.length ≤ sizeLine ∧ Q (.str (cut x i j)) σ₃) E) E) E) :
    TE W cs k hd (.Subscript value (.Slice lower upper Option.none p) pos) m σ Q E := by
  intro c S₀ hp tk hc hh ok s
  refine PyProof.Rows.Subscript_ (wpAny_mono (h c S₀ hp tk hc hh ok s) (fun o s₁ z => ?_) fun _ _ z => z)
  obtain ⟨h1, tk1, σ1, v1, rfl, st1, x1, r1, q1⟩ := z
  refine wpAny_Slice (wpAny_mono (q1.run hc hh ok st1) (fun vl s₂ z => ?_) fun _ _ z => z.lift x1)
  obtain ⟨h2, tk2, σ2, i, rfl, st2, x2, rfl, q2⟩ := z
  refine wpAny_mono (q2.run hc hh ok st2) (fun vu s₃ z => ?_) fun _ _ z => (z.lift x2).lift x1
  obtain ⟨h3, tk3, σ3, j, rfl, st3, x3, rfl, x, rfl, hz, q3⟩ := z
  rw [evalPart_none]
  cases r1 with
  | str _ t =>
    refine wpAny_pure (tail_any (ops := [_, _]) (typeIs_str _ _ _) slot_str_getitem.lookup ?_ rfl)
    obtain ⟨st4, x4⟩ := st3.push { cls := .type "slice", data := .fields #[PySem.partValue i, PySem.partValue j, .none] }
    have hx : (S x).length ≤ sizeLine := by rw [S_length]; exact hz
    have fin : ∀ t' k', RetP W c S₀ σ hp m Q (.str (Txt.slice (S x) (i.map (·.1)) (j.map (·.1))) t') { S₀ with heap := h3.push { cls := .type "slice", data := .fields #[PySem.partValue i, PySem.partValue j, .none] }, toks := k' } := fun t' k' =>
      ⟨_, k', σ3, _, rfl, st4, ((x1.trans x2).trans x3).trans x4, .str (cut x _ _) t', q3⟩
    exact wpAny_getItem_str_slice (l := i) (u := j) (st := Option.none) ⟨_, Heap.get?_push_size _ rfl, rfl, rfl⟩ rfl (by
      cases i <;> cases j <;> exact post_val_or_str ⟨Nat.le_trans (Txt.slice_le (S x) _ _) hx, fun t' k' => fin t' k'⟩)
theorem range_pick (x : List Nat) (a n : Nat) : (List.range n).filterMap (fun i => x[a + i]?) = (x.drop a).take n := by
  induction n with
  | zero => simp
  | succ n ih =>
    rw [List.range_succ, List.filterMap_append, ih, List.take_add_one]
    congr 1
    simp only [List.filterMap_cons, List.filterMap_nil, List.getElem?_drop]
    cases x[a + n]? <;> rfl
theorem cut_core (x : List Nat) (lo hi : Option Int) (a b : Nat) (h : PySem.Builtin.Str.strSliceIndices lo hi 1 x.length = (List.range (b - a)).map fun i => a + i) (hb : b ≤ x.length) : cut x lo hi = (x.drop a).take (b - a) := by
  have hS : (S x).length = x.length := S_length x
  have e : ((PySem.Builtin.Str.strSliceIndices lo hi 1 x.length).filterMap ((S x).cps[·]?)) = (x.drop a).take (b - a) := by
    rw [h, List.filterMap_map, ← range_pick]
    congr 1
    funext i
    simp [S]
  unfold cut Txt.slice
  rw [hS]
  split
  · rename_i hc
    simp only [BEq.rfl, Bool.true_and, beq_iff_eq] at hc
    rw [h, List.length_map, List.length_range] at hc
    show x = _
    by_cases hx : x.length = 0
    · rw [List.length_eq_zero_iff.mp hx]; simp
    · have a0 : a = 0 := by omega
      subst a0
      rw [List.drop_zero, List.take_of_length_le (by omega)]
  · rw [e]
theorem sliceRange_nat (a b : Nat) : sliceRange (a : Int) (b : Int) 1 = (List.range (b - a)).map fun i => a + i := by
  unfold sliceRange
  rw [if_pos (by decide)]
  have e : ((if (a : Int) < b then ((b : Int) - a + 1 - 1) / 1 else 0 : Int)).toNat = b - a := by
    by_cases h : (a : Int) < b
    · rw [if_pos h, Int.ediv_one]; omega
    · rw [if_neg h]; omega
  show List.map (fun k : Nat => ((a : Int) + 1 * (k : Int)).toNat) (List.range ((if (a : Int) < b then ((b : Int) - a + 1 - 1) / 1 else 0 : Int)).toNat) = _
  rw [e]
  refine List.map_congr_left fun i _ => ?_
  omega
theorem clip_nat (i n : Nat) : max (0 : Int) (min (if (i : Int) < 0 then (i : Int) + n else i) n) = ((min i n : Nat) : Int) := by
  rw [if_neg (by omega)]; omega
theorem cut_two (x : List Nat) (i j : Nat) : cut x (some (i : Int)) (some (j : Int)) = (x.drop i).take (j - i) := by
  rw [cut_core x _ _ (min i x.length) (min j x.length) ?_ (Nat.min_le_right ..)]
  · by_cases h : i ≤ x.length
    · rw [Nat.min_eq_left h]
      by_cases h2 : j ≤ x.length
      · rw [Nat.min_eq_left h2]
      · rw [Nat.min_eq_right (by omega), List.take_of_length_le (by simp), List.take_of_length_le (by simp; omega)]
    · rw [List.drop_of_length_le (by omega), List.drop_of_length_le (by omega)]; simp
  · rw [← sliceRange_nat]
    simp only [PySem.Builtin.Str.strSliceIndices, show (1 : Int) > 0 from by decide, if_true, clip_nat]
theorem cut_from (x : List Nat) (i : Nat) : cut x (some (i : Int)) none = x.drop i := by
  rw [cut_core x _ _ (min i x.length) x.length ?_ (Nat.le_refl _)]
  · rw [List.take_of_length_le (by simp)]
    by_cases h : i ≤ x.length
    · rw [Nat.min_eq_left h]
    · rw [List.drop_of_length_le (by omega), List.drop_of_length_le (by omega)]
  · rw [← sliceRange_nat]
    simp only [PySem.Builtin.Str.strSliceIndices, show (1 : Int) > 0 from by decide, if_true, clip_nat]
theorem cut_to (x : List Nat) (j : Nat) : cut x none (some (j : Int)) = x.take j := by
  rw [cut_core x _ _ 0 (min j x.length) ?_ (Nat.min_le_right ..)]
  · rw [List.drop_zero, Nat.sub_zero]
    by_cases h : j ≤ x.length
    · rw [Nat.min_eq_left h]
    · rw [Nat.min_eq_right (by omega), List.take_of_length_le (by simp), List.take_of_length_le (by omega)]
  · rw [← sliceRange_nat]
    simp only [PySem.Builtin.Str.strSliceIndices, show (1 : Int) > 0 from by decide, if_true, clip_nat]
    rfl
theorem cut_last (x : List Nat) : cut x none (some (-1)) = x.dropLast := by
  rw [cut_core x _ _ 0 (x.length - 1) ?_ (by omega)]
  · rw [List.drop_zero, Nat.sub_zero, List.dropLast_eq_take]
  · rw [← sliceRange_nat]
    simp only [PySem.Builtin.Str.strSliceIndices, show (1 : Int) > 0 from by decide, if_true]
    congr 1
    omega
end Mine
end
section
open PySem PySem.W PySem.Spec PySem.Calls PyProof.Rows
set_option maxRecDepth 100000
namespace Mine
variable {Kf : Params → Frag} {W : Wd Kf} {cs : Scope} {k : Nat} {hd : Option Value} {m : Loc} {σ : Store} {E : Int → Store → Prop} {Q : V → Store → Prop} {pos : Pos}
section
variable {Qn : Loc → Store → Prop} {Qr : V → Store → Prop} {ES : Int → Loc → Store → Prop}
theorem T1.exprAny {e : Expr} (hi : ∀ cn L a ccd, interactive (envOf cn cs L a ccd) = false) (hs : ∀ env, swapsWith e Option.none pos.line env = pure false) (h : TE W cs k hd e m σ (fun _ σ' => Qn m σ') (fun p σ' => ES p m σ')) : T1 W cs k hd (.Expr e pos) m σ Qn Qr ES := by
  intro c S₀ hp tk hc hh ok s
  refine wpAny_Expr_any (wpAny_mono (h c S₀ hp tk hc hh ok s) (fun v s₁ z => ?_) fun _ _ z => ⟨m, z⟩) (by rw [← hi c.cn c.L c.a c.ccd, ← hc]; rfl) (hs _)
  obtain ⟨h1, tk1, σ1, v1, rfl, st1, x1, r1, q1⟩ := z
  exact ⟨h1, tk1, σ1, m, rfl, st1, x1, q1⟩
set_option maxRecDepth 512 in
theorem setItem_list_exact {prog : Program} {w : World} {A : Around} {E : Value → Shared → Prop} {s : Shared} {l n : Nat} {vals : List Value} {i : Int} {t : Tok} {v : Value} {Q : Unit → Shared → Prop} (ho : s.heap.get? l = some (lobj vals n))
    (h0 : 0 ≤ i) (hfit : i < 2 ^ 63) (hi : i < vals.length) (hQ : ∀ h' n', h'.get? l = some (lobj (vals.set i.toNat v) n') → Heap.SameBut l s.heap h' → Q () { s with heap := h' }) : wpAny (model prog w) A (setItem (.ref l) (.int i t) v) Q E s := by
  have hl := isList_of ho
  have hd : (lobj vals n).data = .seq vals.toArray n := rfl
  unfold setItem
  try with_reducible refine wpAny_holding ?_
  refine wpAny_bind (wpAny_sequenceKey hl.typeIs (by decide) ?_)
  refine wpAny_bind (wpAny_callSpecial?_slot (name := Str.ofString "__setitem__") hl.typeIs slot_list_setitem
    (wpAny_call_entry slot_list_setitem hl.typeIs entry_list_setitem ?_ (args_list_setitem _ _ _)))
  show wpAny _ _ (Builtin.List.listSubscript? (.int i t) >>= _) _ _ s
  refine wpAny_bind (wpAny_listSubscript_int (fitsIndex_of h0 hfit) ?_)
  clear hfit
  obtain ⟨j, rfl⟩ := Int.eq_ofNat_of_zero_le h0
  have hj : j < vals.length := by omega
  have hx' : vals.toArray[j]? = some vals[j] := by simp [hj]
  show wpAny _ _ ((seqItemAt l j >>= fun r => pure (r.map (j, ·))) >>= _) _ _ s
  refine wpAny_bind (wpAny_bind (wpAny_seqItemAt ho hd (wpAny_pure ?_)))
  rw [hx']
  show wpAny _ _ (setSeqItemAt l j v >>= _) _ _ s
  have hm : ∃ n', Obj.mapSeq (·.setIfInBounds j v) (lobj vals n) = lobj (vals.set j v) n' := by
    obtain ⟨n', e⟩ := Obj.data_mapSeq (f := (·.setIfInBounds j v)) hd
    refine ⟨n', ?_⟩
    have h1 : (Obj.mapSeq (·.setIfInBounds j v) (lobj vals n)) = { cls := .type "list", data := (Obj.mapSeq (·.setIfInBounds j v) (lobj vals n)).data } := by simp [Obj.mapSeq, lobj]
    rw [h1, e]; simp [lobj]
  obtain ⟨n', hm⟩ := hm
  have hfin : (s.heap.update l (Obj.mapSeq (·.setIfInBounds j v))).get? l = some (lobj (vals.set j v) n') := by
    rw [Heap.get?_update_self _ ho (by rw [hm]; rfl), hm]
  refine wpAny_bind (wpAny_setSeqItemAt ho hd ?_)
  first
    | exact wpAny_bind (wpAny_pure (wpAny_pure ⟨.none, rfl, wpAny_pure (hQ _ _ hfin (Heap.SameBut.update ..))⟩))
    | exact wpAny_pure ⟨.none, rfl, wpAny_pure (hQ _ _ hfin (Heap.SameBut.update ..))⟩
theorem T1.assignItem {o i value : Expr} {pos' : Pos} (hs : ∀ env : Env, swapsWith value (some (.Subscript o i pos')) pos.line env = pure false)
    (h : TE W cs k hd value m σ (fun v σ₁ => TE W cs k hd o m σ₁ (fun ov σ₂ => TE W cs k hd i m σ₂ (fun iv σ₃ => ∃ a vs, ∃ j : Nat, ov = .obj a ∧ σ₃ a = some (.list vs) ∧ iv = .int j ∧ j < vs.length ∧ (j : Int) < 2 ^ 63 ∧ Qn m (upd σ₃ a (.list (vs.set j v)))) (fun p σ' => ES p m σ')) (fun p σ' => ES p m σ')) (fun p σ' => ES p m σ')) :
    T1 W cs k hd (.Assign [.Subscript o i pos'] value pos) m σ Qn Qr ES := by
  intro c S₀ hp tk hc hh ok s
  refine wpAny_Assign_Subscript (wpAny_mono (h c S₀ hp tk hc hh ok s) (fun v s₁ z => ?_) fun _ _ z => ⟨m, z⟩) (hs _)
  obtain ⟨h1, tk1, σ1, v1, rfl, st1, x1, r1, q1⟩ := z
  refine wpAny_mono (q1 c S₀ h1 tk1 hc hh ok st1) (fun ov s₂ z => ?_) fun _ _ z => ⟨m, z.lift x1⟩
  obtain ⟨h2, tk2, σ2, v2, rfl, st2, x2, r2, q2⟩ := z
  refine wpAny_mono (q2 c S₀ h2 tk2 hc hh ok st2) (fun iv s₃ z => ?_) fun _ _ z => ⟨m, (z.lift x2).lift x1⟩
  obtain ⟨h3, tk3, σ3, v3, rfl, st3, x3, r3, a, vs, j, rfl, ea, rfl, hj, hfit, q3⟩ := z
  cases r2
  cases r3
  obtain ⟨mm1, hn1⟩ := st1.ns
  obtain ⟨mm2, hn2⟩ := st2.ns
  obtain ⟨mm3, hn3⟩ := st3.ns
  obtain ⟨vals, n, ho, rs⟩ := st3.cells a _ ea
  refine setItem_list_exact ho (Int.natCast_nonneg j) hfit (by rw [← rs.length]; omega) fun h' n' e' hs' => ?_
  have aL := (st3.fresh a (mut_at ea)).2.1
  obtain ⟨st, x⟩ := st3.poke (cl' := .list (vs.set j v1)) ea rfl (fun mm hn => hn.sameBut hs' (Ne.symm aL)) (fun b o bL ba bm eb => (hs'.extBut b o ba eb)) (fun x => ⟨_, n', e', ((((r1.ext x2 hn1).ext x3 hn2)).ext x hn3 |> fun q => VRs.set q (rs.ext x hn3) j)⟩)
  exact ⟨h', tk3, _, m, rfl, st, ((x1.trans x2).trans x3).trans x, q3⟩
end
section listops
variable {vs us : List V} {a : Nat}
theorem GM.append {pl : Bool} (e : σ a = some (.list vs)) : GM W k hd (.obj a) "append" σ (.builtin "list.append") pl := by
  refine ⟨.builtin _, fun c S₀ h tk m val pl Q EE hh ok s r q => ?_⟩
  cases r
  obtain ⟨vals, n, ho, _⟩ := s.cells a _ e
  exact Calls.getMethod_list_append ho rfl rfl (q tk)
theorem TO.append {v : V} (e : σ a = some (.list vs)) (hz : vs.length ≤ sizeLine) (q : Q .none (upd σ a (.list (vs ++ [v])))) : TO W k hd (fun vals => PySem.call (.builtin "list.append") vals) [.obj a, v] σ Q E := .ofc2 fun c S₀ hp tk m x y hh ok s r r' => by
  cases r
  obtain ⟨vals, n, ho, rs⟩ := s.cells a _ e
  obtain ⟨mm, hn⟩ := s.ns
  refine append_at ho (fun h' hs' ho' => ?_) (by rw [List.size_toArray, ← rs.length]; exact hz)
  have aL := (s.fresh a (mut_at e)).2.1
  obtain ⟨st, x⟩ := s.poke (cl' := .list (vs ++ [v])) e rfl (fun mm hn => hn.sameBut hs' (Ne.symm aL)) (fun b o bL ba bm eb => (hs'.extBut b o ba eb)) (fun x => ⟨vals ++ [y], n + 1, by rw [ho']; simp [lobj], (rs.ext x hn).append (.cons (r'.ext x hn) .nil)⟩)
  exact ⟨h', tk, _, _, rfl, st, x, .none, q⟩
theorem TO.addLst (hz : vs.length + us.length ≤ sizeLine) (q : Q (.lst (vs ++ us)) σ) : TO W k hd (o2 (binaryOp .Add)) [.lst vs, .lst us] σ Q E := .of2 fun c S₀ hp tk m x y hh ok s r r' => by
  cases r with
  | @lst _ vals a n ho nm rs =>
    cases r' with
    | @lst _ wals b n' ho' nm' rs' =>
      obtain ⟨mm, hn⟩ := s.ns
      refine P.add_list ho ho' ?_ (by rw [List.size_toArray, List.size_toArray, ← rs.length, ← rs'.length]; exact hz)
      obtain ⟨st2, x2⟩ := s.push { cls := .type "list", data := .seq (vals.toArray ++ wals.toArray) }
      exact ⟨_, tk, σ, .lst (vs ++ us), rfl, st2, x2, .lst (vals := vals ++ wals) (n := 0) (by rw [Heap.get?_push_size _ rfl]; simp [lobj]) (s.notMutNew get_size) ((rs.ext x2 hn).append (rs'.ext x2 hn)), q⟩
theorem TO.lenLst (hz : vs.length ≤ sizeLine) (q : Q (.int vs.length) σ) : TO W k hd (fun vals => PySem.call (.builtin "len") vals) [.lst vs] σ Q E := .ofc1 fun c S₀ hp tk m u hh ok s r => by
  cases r with
  | @lst _ vals a n ho nm rs =>
    rw [sizeLine_eq] at hz
    have e : vals.toArray.size = vs.length := by rw [List.size_toArray, rs.length]
    refine call_len_list (isList_of ho) (by rw [e]; omega) ?_
    rw [e]; exact .here s (.int _ _) q
theorem TO.lenTup (hz : vs.length ≤ sizeLine) (q : Q (.int vs.length) σ) : TO W k hd (fun vals => PySem.call (.builtin "len") vals) [.tup vs] σ Q E := .ofc1 fun c S₀ hp tk m u hh ok s r => by
  cases r with
  | @tup _ vals a ho nm rs =>
    rw [sizeLine_eq] at hz
    have e : vals.toArray.size = vs.length := by rw [List.size_toArray, rs.length]
    refine PyProof.Rows.len_tuple ho (by rw [e]; omega) ?_
    rw [e]; exact .here s (.int _ _) q
theorem TO.tupOfCell (e : σ a = some (.list vs)) (hz : vs.length ≤ sizeLine) (q : Q (.tup vs) σ) : TO W k hd (fun vals => PySem.call (.type "tuple") vals) [.obj a] σ Q E := .ofc1 fun c S₀ hp tk m u hh ok s r => by
  cases r
  obtain ⟨vals, n, ho, rs⟩ := s.cells a _ e
  refine call_tuple_list (isList_of ho) (fun h' hk => ?_) (by rw [List.size_toArray, ← rs.length]; exact hz)
  obtain ⟨st1, x1⟩ := s.keepAll hk
  obtain ⟨st2, x2⟩ := st1.push { cls := .type "tuple", data := .seq vals.toArray }
  obtain ⟨mm, hn⟩ := s.ns
  exact ⟨_, tk, σ, _, rfl, st2, x1.trans x2, .tup ⟨_, Heap.get?_push_size _ rfl, rfl, _, rfl⟩ (st1.notMutNew get_size) (rs.ext (x1.trans x2) hn), q⟩
theorem TO.tupOfLst (hz : vs.length ≤ sizeLine) (q : Q (.tup vs) σ) : TO W k hd (fun vals => PySem.call (.type "tuple") vals) [.lst vs] σ Q E := .ofc1 fun c S₀ hp tk m u hh ok s r => by
  cases r with
  | @lst _ vals a n ho nm rs =>
    refine call_tuple_list (isList_of ho) (fun h' hk => ?_) (by rw [List.size_toArray, ← rs.length]; exact hz)
    obtain ⟨st1, x1⟩ := s.keepAll hk
    obtain ⟨st2, x2⟩ := st1.push { cls := .type "tuple", data := .seq vals.toArray }
    obtain ⟨mm, hn⟩ := s.ns
    exact ⟨_, tk, σ, _, rfl, st2, x1.trans x2, .tup ⟨_, Heap.get?_push_size _ rfl, rfl, _, rfl⟩ (st1.notMutNew get_size) (rs.ext (x1.trans x2) hn), q⟩
theorem signs_vrs {h : Heap} {x : List Nat} {acc : List Value} : ∀ {d : Nat}, acc.length + d = x.length → (∀ j v, acc[j]? = some v → ∃ c u, x[d + j]? = some c ∧ v = .str ⟨#[c]⟩ u) → VRs h σ ((x.drop d).map fun c => .str [c]) acc := by
  induction acc with
  | nil => intro d hd _; rw [List.drop_of_length_le (by simp at hd; omega)]; exact .nil
  | cons v acc ih =>
    intro d hd hp
    have hlt : d < x.length := by simp at hd; omega
    rw [List.drop_eq_getElem_cons hlt, List.map_cons]
    obtain ⟨c, u, e, rfl⟩ := hp 0 v rfl
    have e' : x[d] = c := by rw [Nat.add_zero, List.getElem?_eq_getElem hlt] at e; exact Option.some.inj e
    rw [e']
    refine .cons (.str [c] u) (ih (d := d + 1) (by simp at hd; omega) fun j v hj => ?_)
    obtain ⟨c', u', e2, r⟩ := hp (j + 1) v hj
    exact ⟨c', u', by rw [← e2]; congr 1; omega, r⟩
theorem TO.listStr {x : List Nat} (hn : hd = Option.none) (hz : x.length ≤ sizeLine) (q : Q (.lst (x.map fun c => .str [c])) σ) : TO W k hd (fun vals => PySem.call (.type "list") vals) [.str x] σ Q E := .ofc1 fun c S₀ hp tk m u hh ok s r => by
  cases r
  refine call_list_str (hh.trans hn) (S x) _ (fun h' tk' acc' c' hk e it => ?_) (by simpa [S] using hz)
  obtain ⟨st1, x1⟩ := s.keepAll hk
  have hs : acc'.size = x.length := by rw [it.1]; simp [S]
  refine ⟨h', tk', σ, _, rfl, st1, x1, .lst (vals := acc'.toList) (n := c') (by rw [e]) (s.notMutNew get_size) ?_, q⟩
  have := signs_vrs (σ := σ) (h := h') (x := x) (acc := acc'.toList) (d := 0) (by simpa using hs) fun j v hj => by
    obtain ⟨c, u, e1, e2⟩ := it.2 j v (by simpa using hj)
    exact ⟨c, u, by simpa [S] using e1, e2⟩
  simpa using this
end listops
end Mine
end
section
open PySem PySem.W PySem.Spec PySem.Calls PyProof.Rows
set_option maxRecDepth 100000
namespace Mine
variable {Kf : Params → Frag} {W : Wd Kf} {cs : Scope} {k : Nat} {hd : Option Value} {m : Loc} {σ : Store} {E : Int → Store → Prop} {Q : V → Store → Prop} {pos : Pos}
section textops
variable {x y : List Nat}
theorem GM.index {pl : Bool} : GM W k hd (.str x) "index" σ (.builtin "str.index") pl := ⟨.builtin _, fun c S₀ h tk m val pl Q EE hh ok s r q => by cases r; exact PySem.GM.index (q tk)⟩
theorem GM.join {pl : Bool} : GM W k hd (.str x) "join" σ (.builtin "str.join") pl := ⟨.builtin _, fun c S₀ h tk m val pl Q EE hh ok s r q => by cases r; exact PySem.GM.join (q tk)⟩
theorem TO.index {i : Nat} {rest : List Nat} (ho : PySem.Builtin.Str.occurrences (S x) (S y) 0 (S x).length 1 = i :: rest) (q : Q (.int i) σ) : TO W k hd (fun vals => PySem.call (.builtin "str.index") vals) [.str x, .str y] σ Q E := .ofc2 fun c S₀ hp tk m u v hh ok s r r' => by
  cases r; cases r'
  exact SC.index ho (.here s (.int _ _) q)
noncomputable def joinL (sep : List Nat) : List (List Nat) → List Nat
  | [] => []
  | [x] => x
  | x :: y :: r => x ++ sep ++ joinL sep (y :: r)
theorem join_eq (sep : List Nat) : ∀ l : List (List Nat), Str.join (S sep) (l.map S) = S (joinL sep l)
  | [] => rfl
  | [x] => rfl
  | x :: y :: r => by
    show S x ++ S sep ++ Str.join (S sep) ((y :: r).map S) = _
    rw [join_eq sep (y :: r), S_append, S_append]; rfl
theorem joinL_nil : ∀ l : List (List Nat), joinL [] l = l.flatten
  | [] => rfl
  | [x] => by simp [joinL]
  | x :: y :: r => by rw [joinL, joinL_nil (y :: r)]; simp
theorem strs_of {h : Heap} : ∀ {texts : List (List Nat)} {vals : List Value}, VRs h σ (texts.map .str) vals → ∃ l : List (Str × Tok), vals = strValues l ∧ l.map (·.1) = texts.map S := by
  intro texts
  induction texts with
  | nil => intro vals q; cases q; exact ⟨[], rfl, rfl⟩
  | cons x texts ih =>
    intro vals q
    cases q with
    | cons r rs =>
      cases r with
      | str _ t =>
        obtain ⟨l, e1, e2⟩ := ih rs
        exact ⟨(S x, t) :: l, by rw [e1]; rfl, by simp [e2]⟩
theorem foldl_len (sep : Str) : ∀ (l : List (List Nat)) (n : Nat), (l.map S).foldl (fun a t => a + t.length + sep.length) n = n + (l.map fun t => t.length + sep.length).sum := by
  intro l
  induction l with
  | nil => intro n; simp
  | cons x l ih => intro n; rw [List.map_cons, List.foldl_cons, ih, S_length, List.map_cons, List.sum_cons]; omega
theorem joinOk_of {sep : List Nat} {texts : List (List Nat)} (hz : (texts.map fun t => t.length + sep.length).sum ≤ sizeLine) : JoinOk (S sep) (texts.map S) = true := by
  unfold JoinOk
  rw [Bool.not_eq_true', show (texts.map S).toArray.foldl (· + ·.length + (S sep).length) 0 = (texts.map S).foldl (fun a t => a + t.length + (S sep).length) 0 from by simp, foldl_len]
  rw [S_length, Nat.zero_add]
  exact short24 (by rw [sizeLine_eq] at hz; exact hz)
theorem TO.join {texts : List (List Nat)} {vs : List V} (e : vs = texts.map .str) (hz : (texts.map fun t => t.length + x.length).sum ≤ sizeLine) (q : Q (.str (joinL x texts)) σ) : TO W k hd (fun vals => PySem.call (.builtin "str.join") vals) [.str x, .lst vs] σ Q E := .ofc2 fun c S₀ hp tk m u v hh ok s r r' => by
  subst e
  cases r
  cases r' with
  | @lst _ vals a n ho nm rs =>
    obtain ⟨l, rfl, e2⟩ := strs_of rs
    exact SC.join (isList_of ho) e2 (joinOk_of hz) fun t' k' => by rw [show Txt.join (S x) (texts.map S) = S (joinL x texts) from (StrLaws.glued_eq_join _ _).trans (join_eq ..)]; exact .here s (.str _ _) q
theorem TO.joinCell {a : Nat} {texts : List (List Nat)} (e : σ a = some (.list (texts.map .str))) (hz : (texts.map fun t => t.length + x.length).sum ≤ sizeLine) (q : Q (.str (joinL x texts)) σ) : TO W k hd (fun vals => PySem.call (.builtin "str.join") vals) [.str x, .obj a] σ Q E := .ofc2 fun c S₀ hp tk m u v hh ok s r r' => by
  cases r
  cases r'
  obtain ⟨vals, n, ho, rs⟩ := s.cells a _ e
  obtain ⟨l, rfl, e2⟩ := strs_of rs
  exact SC.join (isList_of ho) e2 (joinOk_of hz) fun t' k' => by rw [show Txt.join (S x) (texts.map S) = S (joinL x texts) from (StrLaws.glued_eq_join _ _).trans (join_eq ..)]; exact .here s (.str _ _) q
theorem TO.mulS {d : Nat} {n : Int} (hn : n ≤ 1000000) (hn' : -1000000 ≤ n) (q : Q (.str (List.replicate n.toNat d)) σ) : TO W k hd (o2 (binaryOp .Mult)) [.str [d], .int n] σ Q E := .of2 fun c S₀ hp tk m u v hh ok s r r' => by
  cases r; cases r'
  have hl : (S [d]).length = 1 := rfl
  refine SB.mul ⟨?_, fun h1 h2 => ?_, fun h1 h2 => ?_⟩ fun t' k' => ?_
  · simp only [Bool.or_eq_false_iff, decide_eq_false_iff_not]; omega
  · rw [hl]
    have hn1 : 1 ≤ n := by omega
    have : (1 : Int) ≤ (2 ^ 63 - 1) / n := by
      rw [Int.le_ediv_iff_mul_le (by omega)]; omega
    omega
  · rw [hl, Nat.one_mul]; exact short24 (by omega)
  · have e : Txt.mul (S [d]) n = S (List.replicate n.toNat d) := by
      unfold Txt.mul
      by_cases h1 : n < 1
      · rw [if_pos h1, show n.toNat = 0 from by omega]; rfl
      · rw [if_neg h1]
        have key : ∀ (j : Nat) (acc : Array Nat), (List.replicate j (#[d] : Array Nat)).foldl (· ++ ·) acc = acc ++ (List.replicate j d).toArray := by
          intro j
          induction j with
          | zero => intro acc; simp
          | succ j ih => intro acc; rw [List.replicate_succ, List.foldl_cons, ih, List.replicate_succ]; apply Array.toList_inj.mp; simp
        first
          | (by_cases h2 : (n == 1 || (S [d]).length == 0) = true
             · rw [if_pos h2]
               have : n = 1 := by simpa [hl] using h2
               subst this; rfl
             · rw [if_neg h2]
               show (⟨_⟩ : Str) = ⟨_⟩
               congr 1
               have := key n.toNat #[]
               simpa [S] using this)
          | (show (⟨_⟩ : Str) = ⟨_⟩
             congr 1
             have := key n.toNat #[]
             simpa [S] using this)
    rw [e]; exact .here s (.str _ _) q
end textops
section member
noncomputable def strIs (x : List Nat) : V → Bool
  | .str y => y == x
  | _ => false
noncomputable def isStrV : V → Bool
  | .str _ => true
  | _ => false
noncomputable def intIs (i : Int) : V → Bool
  | .int j => j == i
  | _ => false
noncomputable def isIntV : V → Bool
  | .int _ => true
  | _ => false
theorem S_beq (x y : List Nat) : (S y == S x) = (y == x) := by
  rw [Bool.eq_iff_iff]; simp only [beq_iff_eq]
  constructor
  · intro h; have := congrArg (fun s : Str => s.cps.toList) h; simpa [S] using this
  · rintro rfl; rfl
theorem strsAre_of {h : Heap} {x : List Nat} : ∀ {vs : List V} {vals : List Value}, VRs h σ vs vals → vs.all isStrV = true → ∃ ys, StrsAre vals ys ∧ ys.any (· == S x) = vs.any (strIs x)
  | _, _, .nil, _ => ⟨[], .nil, rfl⟩
  | _, _, .cons (v := v) r rs, ha => by
    rw [List.all_cons, Bool.and_eq_true] at ha
    obtain ⟨ys, a, b⟩ := strsAre_of (x := x) rs ha.2
    cases r with
    | str l t => exact ⟨S l :: ys, .cons _ _ a, by rw [List.any_cons, List.any_cons, b, S_beq]; rfl⟩
    | none => cases ha.1
    | bool _ => cases ha.1
    | int _ _ => cases ha.1
    | tup _ _ _ => cases ha.1
    | lst _ _ _ => cases ha.1
    | obj _ => cases ha.1
    | rng _ _ => cases ha.1
theorem intsAre_of {h : Heap} {i : Int} : ∀ {vs : List V} {vals : List Value}, VRs h σ vs vals → vs.all isIntV = true → ∃ ys, IntsAre vals ys ∧ ys.any (· == i) = vs.any (intIs i)
  | _, _, .nil, _ => ⟨[], .nil, rfl⟩
  | _, _, .cons (v := v) r rs, ha => by
    rw [List.all_cons, Bool.and_eq_true] at ha
    obtain ⟨ys, a, b⟩ := intsAre_of (i := i) rs ha.2
    cases r with
    | int l t => exact ⟨l :: ys, .cons _ _ a, by rw [List.any_cons, List.any_cons, b]; rfl⟩
    | none => cases ha.1
    | bool _ => cases ha.1
    | str _ _ => cases ha.1
    | tup _ _ _ => cases ha.1
    | lst _ _ _ => cases ha.1
    | obj _ => cases ha.1
    | rng _ _ => cases ha.1
variable {vs : List V}
theorem TO.inStrs {x : List Nat} (ha : vs.all isStrV = true) (q : Q (.bool (vs.any (strIs x))) σ) : TO W k hd (o2 (compareOp .In)) [.str x, .tup vs] σ Q E := .of2 fun c S₀ hp tk m u v hh ok s r r' => by
  cases r
  cases r' with
  | tup t n rs =>
    obtain ⟨ys, a, b⟩ := strsAre_of (x := x) rs ha
    exact in_tuple_strs t (by simpa using a) (by rw [b]; exact RetP.here (tk' := tk) s (.bool _) q)
theorem TO.notInStrs {x : List Nat} (ha : vs.all isStrV = true) (q : Q (.bool (!vs.any (strIs x))) σ) : TO W k hd (o2 (compareOp .NotIn)) [.str x, .tup vs] σ Q E := .of2 fun c S₀ hp tk m u v hh ok s r r' => by
  cases r
  cases r' with
  | tup t n rs =>
    obtain ⟨ys, a, b⟩ := strsAre_of (x := x) rs ha
    exact notin_tuple_strs t (by simpa using a) (by rw [b]; exact RetP.here (tk' := tk) s (.bool _) q)
theorem TO.inInts {i : Int} (ha : vs.all isIntV = true) (q : Q (.bool (vs.any (intIs i))) σ) : TO W k hd (o2 (compareOp .In)) [.int i, .tup vs] σ Q E := .of2 fun c S₀ hp tk m u v hh ok s r r' => by
  cases r
  cases r' with
  | tup t n rs =>
    obtain ⟨ys, a, b⟩ := intsAre_of (i := i) rs ha
    exact in_tuple_ints t (by simpa using a) (by rw [b]; exact RetP.here (tk' := tk) s (.bool _) q)
theorem TO.inIntsL {i : Int} (ha : vs.all isIntV = true) (q : Q (.bool (vs.any (intIs i))) σ) : TO W k hd (o2 (compareOp .In)) [.int i, .lst vs] σ Q E := .of2 fun c S₀ hp tk m u v hh ok s r r' => by
  cases r
  cases r' with
  | lst t n rs =>
    obtain ⟨ys, a, b⟩ := intsAre_of (i := i) rs ha
    exact in_list_ints (isList_of t) a (by rw [b]; exact RetP.here (tk' := tk) s (.bool _) q)
noncomputable def isNoneV : V → Bool
  | .none => true
  | _ => false
theorem isNone_of {h : Heap} {v : V} {val : Value} (r : VR h σ v val) : (val == .none) = isNoneV v := by cases r <;> rfl
theorem TO.isNotNone {v : V} (q : Q (.bool (!isNoneV v)) σ) : TO W k hd (o2 (compareOp .IsNot)) [v, .none] σ Q E := .of2 fun c S₀ hp tk m u w hh ok s r r' => by
  cases r'; exact isNot_none (by rw [isNone_of r]; exact RetP.here (tk' := tk) s (.bool _) q)
end member
section deep
mutual
noncomputable def V.data : V → Option PyData
  | .none => some .none
  | .bool b => some (.bool b)
  | .int i => some (.int i)
  | .str l => some (.str (S l))
  | .tup vs => (V.datas vs).map .tuple
  | .lst vs => (V.datas vs).map .list
  | .obj _ => Option.none
  | .rng _ => Option.none
noncomputable def V.datas : List V → Option (List PyData)
  | [] => some []
  | v :: vs => match V.data v, V.datas vs with
    | some d, some ds => some (d :: ds)
    | _, _ => Option.none
end
noncomputable def dataAt (σ : Store) : V → Option PyData
  | .obj a => match σ a with
    | some (.list vs) => (V.datas vs).map .list
    | _ => Option.none
  | v => v.data
mutual
theorem VR.reads {h : Heap} {v : V} {val : Value} {d : PyData} : VR h σ v val → v.data = some d → ∃ as, Reads h val d as
  | .none, e => by cases e; exact ⟨_, .none⟩
  | .bool b, e => by cases e; exact ⟨_, .bool b⟩
  | .int i t, e => by cases e; exact ⟨_, .int i t⟩
  | .str l t, e => by cases e; exact ⟨_, .str _ t⟩
  | .tup (vs := vs) t n r, e => by
    unfold V.data at e
    obtain ⟨ds, e1, rfl⟩ := Option.map_eq_some_iff.mp e
    obtain ⟨as, ra⟩ := VRs.reads r e1
    obtain ⟨o, ho, hc, n', hd⟩ := t
    exact ⟨_, .tuple ho hc hd ra⟩
  | .lst (vs := vs) t n r, e => by
    unfold V.data at e
    obtain ⟨ds, e1, rfl⟩ := Option.map_eq_some_iff.mp e
    obtain ⟨as, ra⟩ := VRs.reads r e1
    exact ⟨_, .list t rfl rfl ra⟩
  | .obj a, e => by cases e
  | .rng a n, e => by cases e
theorem VRs.reads {h : Heap} {vs : List V} {vals : List Value} {ds : List PyData} : VRs h σ vs vals → V.datas vs = some ds → ∃ as, ReadsAll h vals ds as
  | .nil, e => by cases e; exact ⟨_, .nil⟩
  | .cons (v := v) (vs := vs) r rs, e => by
    unfold V.datas at e
    cases e1 : v.data with
    | none => rw [e1] at e; cases e
    | some d =>
      cases e2 : V.datas vs with
      | none => rw [e1, e2] at e; cases e
      | some ds =>
        rw [e1, e2] at e; cases e
        obtain ⟨as, ra⟩ := VR.reads r e1
        obtain ⟨bs, rb⟩ := VRs.reads rs e2
        exact ⟨_, .cons ra rb⟩
end
theorem St.reads {c : Cx} {h : Heap} {v : V} {val : Value} {d : PyData} (s : St W c σ m h) (r : VR h σ v val) (e : dataAt σ v = some d) : ∃ as, Reads h val d as := by
  cases r with
  | obj a =>
    unfold dataAt at e
    cases q : σ a with
    | none => simp only [q] at e; cases e
    | some cl =>
      cases cl with
      | list vs =>
        simp only [q] at e
        obtain ⟨ds, e1, rfl⟩ := Option.map_eq_some_iff.mp e
        obtain ⟨vals, n, ho, rs⟩ := s.cells a _ q
        obtain ⟨as, ra⟩ := rs.reads e1
        exact ⟨_, .list ho rfl rfl ra⟩
      | inst => simp only [q] at e; cases e
      | exc => simp only [q] at e; cases e
  | none => exact VR.reads (σ := σ) .none e
  | bool b => exact VR.reads (σ := σ) (.bool b) e
  | int i t => exact VR.reads (σ := σ) (.int i t) e
  | str l t => exact VR.reads (σ := σ) (.str l t) e
  | tup a n rs => exact VR.reads (σ := σ) (.tup a n rs) e
  | lst a n rs => exact VR.reads (σ := σ) (.lst a n rs) e
  | rng a n => exact VR.reads (σ := σ) (.rng a n) e
theorem TO.eqD {a b : V} {da db : PyData} {r : Bool} (ea : dataAt σ a = some da) (eb : dataAt σ b = some db) (la : da.canLay0 = true) (lb : db.canLay0 = true) (hd' : min da.depth db.depth ≤ 8 * k) (hr : PyData.eqv da db = r) (q : Q (.bool r) σ) : TO W k hd (o2 (compareOp .Eq)) [a, b] σ Q E := .of2 fun c S₀ hp tk m u w hh ok s ra rb => by
  obtain ⟨as, xa⟩ := s.reads ra ea
  obtain ⟨bs, xb⟩ := s.reads rb eb
  exact PySem.SeqAt.compareEq_reads xa xb la lb (by have := ok.un; show c.un + _ < _; omega) (by rw [hr]; exact RetP.here (tk' := tk) s (.bool _) q)
theorem TO.neD {a b : V} {da db : PyData} {r : Bool} (ea : dataAt σ a = some da) (eb : dataAt σ b = some db) (la : da.canLay0 = true) (lb : db.canLay0 = true) (hd' : min da.depth db.depth ≤ 8 * k) (hr : PyData.eqv da db = r) (q : Q (.bool (!r)) σ) : TO W k hd (o2 (compareOp .NotEq)) [a, b] σ Q E := .of2 fun c S₀ hp tk m u w hh ok s ra rb => by
  obtain ⟨as, xa⟩ := s.reads ra ea
  obtain ⟨bs, xb⟩ := s.reads rb eb
  exact PySem.SeqAt.compareNe_reads xa xb la lb (by have := ok.un; show c.un + _ < _; omega) (by rw [hr]; exact RetP.here (tk' := tk) s (.bool _) q)
end deep
section freeze
noncomputable def del (σ : Store) (a : Nat) : Store := fun b => if b = a then Option.none else σ b
theorem del_sub (σ : Store) (a : Nat) : Sub (del σ a) σ := fun b c e => by
  unfold del at e
  by_cases h : b = a
  · rw [if_pos h] at e; cases e
  · rw [if_neg h] at e; exact e
theorem del_ne (σ : Store) {a b : Nat} (h : b ≠ a) : del σ a b = σ b := if_neg h
theorem TE.freeze {e : Expr} (h : TE W cs k hd e m σ (fun v σ' => ∃ a vs, v = .obj a ∧ σ' a = some (.list vs) ∧ Q (.lst vs) (del σ' a)) E) : TE W cs k hd e m σ Q E := by
  intro c S₀ hp tk hc hh ok s
  refine wpAny_mono (h c S₀ hp tk hc hh ok s) (fun v s₁ z => ?_) fun _ _ z => z
  obtain ⟨h1, tk1, σ1, v1, rfl, st1, x1, r1, a, vs, rfl, ea, q1⟩ := z
  cases r1
  have sb := del_sub σ1 a
  obtain ⟨vals, n, ho, rs⟩ := st1.cells a _ ea
  refine ⟨h1, tk1, _, _, rfl, st1.sub sb, x1.sub sb, .lst ho ?_ (rs.sub sb), q1⟩
  rintro (⟨cl, q⟩ | ⟨y, cl, q, hm⟩)
  · unfold del at q; rw [if_pos rfl] at q; cases q
  · have := (st1.sep y cl a (sb _ _ q) hm).1
    rw [ea] at this; cases this
end freeze
end Mine
end
section
open PySem PySem.W PySem.Spec PySem.Calls PyProof.Rows
set_option maxRecDepth 100000
namespace Mine
variable {Kf : Params → Frag} {W : Wd Kf} {cs : Scope} {k : Nat} {hd : Option Value} {m : Loc} {σ : Store} {E : Int → Store → Prop} {Q : V → Store → Prop} {pos : Pos}
noncomputable def keyC : Option Expr → Option Str
  | some (.Constant (.str x) _ _) => some x
  | _ => none
noncomputable def valC : Expr → Option V
  | .Constant (.int i) _ _ => some (.int i)
  | .Constant (.str y) _ _ => some (.str y.cps.toList)
  | _ => none
noncomputable def dictOfC : List (Option Expr) → List Expr → Option (List (Str × V))
  | [], [] => some []
  | k :: ks, v :: vs => (keyC k).bind fun x => (valC v).bind fun u => (dictOfC ks vs).map ((x, u) :: ·)
  | _, _ => none
theorem keyC_eq {k : Option Expr} {x : Str} (h : keyC k = some x) : ∃ kk p, k = some (.Constant (.str x) kk p) := by
  unfold keyC at h
  split at h
  · cases h; exact ⟨_, _, rfl⟩
  · cases h
theorem valC_eq {v : Expr} {u : V} (h : valC v = some u) : (∃ i kk p, v = .Constant (.int i) kk p ∧ u = .int i) ∨ ∃ y kk p, v = .Constant (.str y) kk p ∧ u = .str y.cps.toList := by
  unfold valC at h
  split at h
  · cases h; exact .inl ⟨_, _, _, rfl, rfl⟩
  · cases h; exact .inr ⟨_, _, _, rfl, rfl⟩
  · cases h
theorem dictOfC_cons {k : Option Expr} {ks : List (Option Expr)} {values : List Expr} {D : List (Str × V)} (h : dictOfC (k :: ks) values = some D) : ∃ v vs x u D', values = v :: vs ∧ keyC k = some x ∧ valC v = some u ∧ dictOfC ks vs = some D' ∧ D = (x, u) :: D' := by
  cases values with
  | nil => cases h
  | cons v vs =>
    unfold dictOfC at h
    obtain ⟨x, hx, h⟩ := Option.bind_eq_some_iff.mp h
    obtain ⟨u, hu, h⟩ := Option.bind_eq_some_iff.mp h
    obtain ⟨D', hD, h⟩ := Option.map_eq_some_iff.mp h
    exact ⟨v, vs, x, u, D', rfl, hx, hu, hD, h.symm⟩
theorem pairs_const {prog : Program} {w : World} {A : Around} {EE : Value → Shared → Prop} {env : Env} : ∀ {keys : List (Option Expr)} {values : List Expr} {D : List (Str × V)} {s : Shared} {Q : List (Value × Value) → Shared → Prop}, dictOfC keys values = some D →
    (∀ vs kvs tk', Carries (strKind prog w) vs kvs → kvs.map (·.1) = D.map (·.1) → (∀ h σ, VRs h σ (D.map (·.2)) (kvs.map (·.2))) → Q vs { s with toks := tk' }) → wpAny (model prog w) A (evalPairs (pairTrees keys values env pos)) Q EE s := by
  intro keys
  induction keys with
  | nil =>
    intro values D s Q hD h
    cases values with
    | nil => cases hD; exact pairTrees_nil_walk (h [] [] s.toks trivial rfl fun _ _ => .nil)
    | cons _ _ => cases hD
  | cons key ks ih =>
    intro values D s Q hD h
    obtain ⟨v, vs, x, u, D', rfl, hk, hv, hD', rfl⟩ := dictOfC_cons hD
    obtain ⟨kk, p, rfl⟩ := keyC_eq hk
    rcases valC_eq hv with ⟨i, kk', p', rfl, rfl⟩ | ⟨y, kk', p', rfl, rfl⟩
    · exact pairTrees_cons_walk (wpAny_Constant_str (wpAny_Constant_int (ih hD' fun vs kvs tk' a b c => h _ ((x, .int i _) :: kvs) tk' ⟨strKind_is .., rfl, a⟩ (by rw [List.map_cons, List.map_cons, b]) fun h σ => .cons (.int _ _) (c h σ))))
    · exact pairTrees_cons_walk (wpAny_Constant_str (wpAny_Constant_str (ih hD' fun vs kvs tk' a b c => h _ ((x, .str y _) :: kvs) tk' ⟨strKind_is .., rfl, a⟩ (by rw [List.map_cons, List.map_cons, b]) fun h σ => .cons (.str y.cps.toList _) (c h σ))))
theorem dictOfC_shape : ∀ {keys : List (Option Expr)} {values : List Expr} {D : List (Str × V)}, dictOfC keys values = some D → keys.all (·.isSome) = true ∧ keys.length = values.length ∧ keys.length = D.length := by
  intro keys
  induction keys with
  | nil =>
    intro values D hD
    cases values with
    | nil => cases hD; exact ⟨rfl, rfl, rfl⟩
    | cons _ _ => cases hD
  | cons key ks ih =>
    intro values D hD
    obtain ⟨v, vs, x, u, D', rfl, hk, hv, hD', rfl⟩ := dictOfC_cons hD
    obtain ⟨kk, p, rfl⟩ := keyC_eq hk
    obtain ⟨a, b, c⟩ := ih hD'
    exact ⟨a, congrArg (· + 1) b, congrArg (· + 1) c⟩
structure Dic (W : Wd Kf) (L : Nat) (σ : Store) (D : List (Str × V)) (d : Nat) (kvs : List (Str × Value)) (h : Heap) : Prop where
  dict : h.DictOf (strKind W.prog W.w) d kvs
  free : ¬ Mut σ d
  notL : d ≠ L
  low : (d == sysModules) = false
  keys : kvs.map (·.1) = D.map (·.1)
  vals : ∀ h σ, VRs h σ (D.map (·.2)) (kvs.map (·.2))
theorem Dic.look {L : Nat} {h : Heap} {D : List (Str × V)} {d : Nat} {kvs : List (Str × Value)} (t : Dic W L σ D d kvs h) (x : Str) : (∀ v, getV D x = some v → ∃ val, valueAt kvs x = some val ∧ ∀ h σ, VR h σ v val) ∧ (getV D x = none → valueAt kvs x = none) := by
  have hk := t.keys
  have hv := t.vals
  clear t
  revert hk hv
  induction D generalizing kvs with
  | nil =>
    intro hk hv
    cases kvs with
    | nil => exact ⟨fun v e => (nomatch e), fun _ => rfl⟩
    | cons _ _ => cases hk
  | cons p D ih =>
    intro hk hv
    cases kvs with
    | nil => cases hk
    | cons q kvs =>
      obtain ⟨y, u⟩ := p
      obtain ⟨y', val⟩ := q
      simp only [List.map_cons, List.cons.injEq] at hk
      obtain ⟨rfl, hk⟩ := hk
      have hv0 : ∀ h σ, VR h σ u val := fun h σ => by have := hv h σ; cases this; assumption
      have hv1 : ∀ h σ, VRs h σ (D.map (·.2)) (kvs.map (·.2)) := fun h σ => by have := hv h σ; cases this; assumption
      have := ih hk hv1
      by_cases h : y' = x
      · subst h
        refine ⟨fun v e => ⟨val, by simp [valueAt], ?_⟩, fun e => ?_⟩
        · simp only [getV, if_true] at e; cases e; exact hv0
        · simp [getV] at e
      · refine ⟨fun v e => ?_, fun e => ?_⟩
        · simp only [getV, h, if_false] at e
          obtain ⟨val', e', r⟩ := this.1 v e
          exact ⟨val', by simp only [valueAt] at e' ⊢; rw [List.find?_cons_of_neg (by simpa using h)]; exact e', r⟩
        · simp only [getV, h, if_false] at e
          have e' := this.2 e
          simp only [valueAt] at e' ⊢; rw [List.find?_cons_of_neg (by simpa using h)]; exact e'
theorem dict_disp {c : Cx} {S₀ : Shared} {hp : Heap} {tk : Nat} {keys : List (Option Expr)} {values : List Expr} {D : List (Str × V)} {EE : Value → Shared → Prop} {Q : Value → Shared → Prop} (s : St W c σ m hp) (hD : dictOfC keys values = some D) (h0 : D ≠ []) (hl : D.length ≤ 15) (nd : (D.map (·.1)).Nodup)
    (q : ∀ h' tk' d kvs, St W c σ m h' → Ext c.L σ hp σ h' → Dic W c.L σ D d kvs h' → Q (.ref d) { S₀ with heap := h', toks := tk' }) : wpAny (model W.prog W.w) c.A (eval (.Dict keys values pos) c.env) Q EE { S₀ with heap := hp, toks := tk } := by
  obtain ⟨g1, g2, g3⟩ := dictOfC_shape hD
  refine wpAny_Dict_walk (knd := strKind W.prog W.w) g1 g2 (fun e => h0 (by rw [← List.length_eq_zero_iff, ← g3, e]; rfl)) (by omega) ?_
  refine pairs_const hD fun vs kvs tk' hc hk hv => ⟨kvs, hc, ?_, fun h' hd' hs' => ?_⟩
  · exact Heap.dictOf_iff.mpr ⟨_, Heap.get?_push_size _ rfl, #[], 0, ⟨rfl, rfl, rfl⟩, rfl, (by intro e he; simp at he), .nil, .nil⟩
  · rw [merged_nil_of_nodup _ (by rw [hk]; exact nd)] at hd'
    have keep : ∀ b o, hp.get? b = some o → h'.get? b = some o := fun b o e => hs'.extBut b o (Nat.ne_of_lt (Heap.lt_size e)) (Heap.get?_push_of_some _ e)
    obtain ⟨st, x⟩ := s.keepAll keep
    obtain ⟨mm, F, R⟩ := id s.fr
    refine q h' _ _ kvs st x ⟨hd', s.notMutNew get_size, fun e => ?_, ?_, hk, hv⟩
    · have := F.ns.lt; rw [← e] at this; exact Nat.lt_irrefl _ this
    · have h1 := modules_low (W.T.nolimit.keeps s.stays)
      have h1' : sysModules < hp.objs.size := h1
      exact beq_eq_false_iff_ne.mpr (Nat.ne_of_gt h1')
noncomputable def TEp (W : Wd Kf) (cs : Scope) (k : Nat) (hd : Option Value) (e : Expr) (m : Loc) (σ : Store) (v : V) : Prop :=
  ∀ (c : Cx) (S₀ : Shared) (h : Heap) (tk : Nat) (EE : Value → Shared → Prop), c.cs = cs → c.hd = hd → c.Ok k → St W c σ m h →
    wpAny (model W.prog W.w) c.A (eval e c.env) (fun val s' => ∃ tk', s' = { S₀ with heap := h, toks := tk' } ∧ VR h σ v val) EE { S₀ with heap := h, toks := tk }
theorem TEp.local {x : Str} {v : V} (hv : getV m x = some v) (hx : cs.names.lookup x = some .local) (hdb : (x == ("__debug__" : Str)) = false := by decide) : TEp W cs k hd (.Name x pos) m σ v := by
  intro c S₀ h tk EE rfl hc o s
  obtain ⟨mm, F, R⟩ := id s.fr
  obtain ⟨val, e, r⟩ := R x v hv
  exact ld F e ⟨tk, rfl, r⟩ o.fn hx hdb
theorem TEp.upper {o : Expr} {x : List Nat} {apos : Pos} {pl : Env → Sem Bool} (he : ∀ env, eval (.Call (.Attribute o "upper" apos) [] [] pos) env = (do
      let ov ← eval o env
      standAt apos.atName
      let (f, first) ← holding [ov] (getMethod ov "upper" (pl env))
      callWith pos f first (backTo pos (starEach [] env)) (backToKw pos (keywordEach [] env)))) (ha : ∀ c ∈ x, c < 128) (hz : x.length ≤ 1000000)
    (h : TEp W cs k hd o m σ (.str x)) : TEp W cs k hd (.Call (.Attribute o "upper" apos) [] [] pos) m σ (.str (x.map up1)) := by
  intro c S₀ hp tk EE hc hh ok s
  refine methodCall_KW (wpAny_mono (h c S₀ hp tk _ hc hh ok s) (fun ov s₁ z => ?_) fun _ _ z => z) (he _)
  obtain ⟨tk1, rfl, r1⟩ := z
  cases r1 with
  | str _ t =>
    refine PySem.GM.upper ?_
    refine wp_callWith (c := c) (.builtin _) rfl (wpAny_pure ⟨s.X, ?_⟩)
    have e : Txt.upper (S x) = S (x.map up1) := by
      rw [upper_ascii (x := S x) (by simpa [S] using ha)]; simp [S]
    refine SC.upper (fit_upper (by rw [S_length]; omega)) ?_
    rw [e]; exact ⟨_, rfl, .str _ _⟩
noncomputable def TEsp (W : Wd Kf) (cs : Scope) (k : Nat) (hd : Option Value) (es : List Expr) (pos : Pos) (m : Loc) (σ : Store) (vs : List V) : Prop :=
  ∀ (c : Cx) (S₀ : Shared) (h : Heap) (tk : Nat) (EE : Value → Shared → Prop), c.cs = cs → c.hd = hd → c.Ok k → St W c σ m h →
    wpAny (model W.prog W.w) c.A (spliced (backTo pos (starEach es c.env))) (fun vals s' => ∃ tk', s' = { S₀ with heap := h, toks := tk' } ∧ VRs h σ vs vals) EE { S₀ with heap := h, toks := tk }
theorem TEsp.nil : TEsp W cs k hd [] pos m σ [] := fun c S₀ h tk EE _ _ _ s => wpAny_items_nil ⟨tk, rfl, .nil⟩
theorem TEsp.cons {e : Expr} {rest : List Expr} {v : V} {vs : List V} (he : plainArgs (e :: rest) = true) (h : TEp W cs k hd e m σ v) (h' : TEsp W cs k hd rest pos m σ vs) : TEsp W cs k hd (e :: rest) pos m σ (v :: vs) := by
  intro c S₀ hp tk EE hc hh ok s
  refine wpAny_items_cons (wpAny_mono (h c S₀ hp tk _ hc hh ok s) (fun a s₁ z => ?_) fun _ _ x => x) (starEach_plain he _)
  obtain ⟨tk1, rfl, r1⟩ := z
  refine wpAny_mono (h' c S₀ hp tk1 _ hc hh ok s) (fun vals s₂ z => ?_) fun _ _ x => x
  obtain ⟨tk2, rfl, r2⟩ := z
  exact ⟨tk2, rfl, .cons r1 r2⟩
theorem TE.dictItem {keys : List (Option Expr)} {values : List Expr} {D : List (Str × V)} {slice : Expr} {dpos : Pos} {x : List Nat} {v : V} (hD : dictOfC keys values = some D) (h0 : D ≠ []) (hl : D.length ≤ 15) (nd : (D.map (·.1)).Nodup) (hs : ∀ o i, subscripted slice false o i = operate [o, i] (getItem o i))
    (h : TEp W cs k hd slice m σ (.str x)) (hv : getV D (S x) = some v) (q : Q v σ) : TE W cs k hd (.Subscript (.Dict keys values dpos) slice pos) m σ Q E := by
  intro c S₀ hp tk hc hh ok s
  refine PyProof.Rows.Subscript_ (dict_disp s hD h0 hl nd fun h1 tk1 d kvs st1 x1 t1 => ?_)
  refine wpAny_mono (h c S₀ h1 tk1 _ hc hh ok st1) (fun i s₂ z => ?_) fun _ _ z => z
  obtain ⟨tk2, rfl, r2⟩ := z
  cases r2 with
  | str _ t =>
    obtain ⟨val, e, r⟩ := (t1.look (S x)).1 v hv
    exact tail_any t1.dict.typeIs slot_dict_getitem.lookup (wpAny_getItem_of (strKind_is ..) t1.dict.mapOf e ⟨h1, _, σ, v, rfl, st1, x1, r _ _, q⟩) (hs _ _)
theorem TE.dictGet {keys : List (Option Expr)} {values : List Expr} {D : List (Str × V)} {dpos apos : Pos} {args : List Expr} {pl : Env → Sem Bool} {x : List Nat} {o : V} (hD : dictOfC keys values = some D) (h0 : D ≠ []) (hl : D.length ≤ 15) (nd : (D.map (·.1)).Nodup)
    (he : ∀ env, eval (.Call (.Attribute (.Dict keys values dpos) "get" apos) args [] pos) env = (do
      let ov ← eval (.Dict keys values dpos) env
      standAt apos.atName
      let (f, first) ← holding [ov] (getMethod ov "get" (pl env))
      callWith pos f first (backTo pos (starEach args env)) (backToKw pos (keywordEach [] env)))) (hpl : plainArgs args = true)
    (h : TEsp W cs k hd args pos m σ [.str x, o]) (q : Q ((getV D (S x)).getD o) σ) : TE W cs k hd (.Call (.Attribute (.Dict keys values dpos) "get" apos) args [] pos) m σ Q E := by
  intro c S₀ hp tk hc hh ok s
  refine methodCall_KW (dict_disp s hD h0 hl nd fun h1 tk1 d kvs st1 x1 t1 => ?_) (he _)
  refine getMethod_builtin t1.dict.typeIs PySem.F.plainAttrs_dict PySem.F.slot_dict_get PySem.F.type_dict_get t1.dict.mapOf.noDict ?_
  refine wp_callWith (c := c) (.builtin _) (plainArgs_any hpl _ _) (wpAny_mono (h c S₀ h1 tk1 _ hc hh ok st1) (fun vals s₂ z => ?_) fun _ _ z => z)
  obtain ⟨tk2, rfl, r2⟩ := z
  refine ⟨st1.X, ?_⟩
  cases r2 with
  | cons r r' =>
    cases r with
    | str _ t =>
      cases r' with
      | cons ro r'' =>
        cases r''
        refine call_meetsIn PySem.F.slot_dict_get t1.dict.typeIs PySem.F.entry_dict_get (PySem.F.args_dict_get_3 _ _ _) (meets_dict_get_default (strKind W.prog W.w) d (strKind_is ..) t1.low _) ⟨_, t1.dict.mapOf, ?_⟩
        refine ⟨h1, _, σ, _, rfl, st1, x1, ?_, q⟩
        cases e : getV D (S x) with
        | none => rw [(t1.look (S x)).2 e]; exact ro
        | some v => obtain ⟨val, e', r⟩ := (t1.look (S x)).1 v e; rw [e']; exact r _ _
end Mine
end
section
open PySem PySem.W PySem.Spec PySem.Calls PyProof.Rows
set_option maxRecDepth 100000
namespace Mine
variable {Kf : Params → Frag} {W : Wd Kf} {cs : Scope} {k : Nat} {hd : Option Value} {m : Loc} {σ : Store} {E : Int → Store → Prop} {Q : V → Store → Prop} {pos : Pos}
noncomputable def Odd (o : Obj) : Prop := (∃ T, o.cls = .type T ∧ T ≠ "tuple" ∧ T ≠ "list" ∧ T ≠ "range") ∨ ∃ es n, o.data = .dict es n
noncomputable def Plain (o : Obj) : Prop := Odd o ∧ ∃ fs, o.data = .fields fs
section
variable {h h' : Heap} {it : Nat} {oi : Obj}
theorem Odd.ne {a : Nat} {o : Obj} {T : String} (p : Odd oi) (e : h.get? it = some oi) (ea : h.get? a = some o) (hc : o.cls = .type T) (hT : T = "tuple" ∨ T = "list" ∨ T = "range") (hnd : ∀ es n, o.data ≠ .dict es n) : a ≠ it := by
  rintro rfl
  rw [e] at ea; cases ea
  rcases p with ⟨T', hc', h1, h2, h3⟩ | ⟨es, n, hd⟩
  rotate_left
  · exact hnd es n hd
  rw [hc] at hc'; cases hc'
  rcases hT with rfl | rfl | rfl
  · exact h1 rfl
  · exact h2 rfl
  · exact h3 rfl
section vrfree
variable (e : h.get? it = some oi) (p : Odd oi) (hk : ∀ a o, a ≠ it → h.get? a = some o → h'.get? a = some o)
include e p hk
theorem tup_free {a : Nat} {vs : Array Value} (t : IsTup h a vs) : IsTup h' a vs := by
  obtain ⟨o, ho, hc, n', hd⟩ := t
  exact ⟨o, hk _ o (p.ne e ho hc (.inl rfl) fun es n q => by rw [hd] at q; cases q) ho, hc, n', hd⟩
theorem lst_free {a n : Nat} {vals : List Value} (t : h.get? a = some (lobj vals n)) : h'.get? a = some (lobj vals n) := hk _ _ (p.ne e t rfl (.inr (.inl rfl)) fun es n q => Data.noConfusion q) t
theorem rng_free {a : Nat} {n : Int} {u v w : Tok} (t : h.get? a = some (robj n u v w)) : h'.get? a = some (robj n u v w) := hk _ _ (p.ne e t rfl (.inr (.inr rfl)) fun es n q => Data.noConfusion q) t
theorem VR.free {v : V} {val : Value} (r : VR h σ v val) : VR h' σ v val :=
  VR.map (fun _ _ t n => ⟨tup_free e p hk t, n⟩) (fun _ _ _ t n => ⟨lst_free e p hk t, n⟩) (fun _ _ _ _ _ t n => ⟨rng_free e p hk t, n⟩) r
theorem VRs.free {vs : List V} {vals : List Value} (r : VRs h σ vs vals) : VRs h' σ vs vals :=
  VRs.map (fun _ _ t n => ⟨tup_free e p hk t, n⟩) (fun _ _ _ t n => ⟨lst_free e p hk t, n⟩) (fun _ _ _ _ _ t n => ⟨rng_free e p hk t, n⟩) r
end vrfree
theorem Ents.free (e : h.get? it = some oi) (p : Odd oi) (hk : ∀ a o, a ≠ it → h.get? a = some o → h'.get? a = some o) {fs : List (Str × V)} {es : List DictEntry} (q : Ents h σ fs es) : Ents h' σ fs es :=
  Ents.ind (P := Ents h' σ) trivial (fun _ _ _ _ _ a b _ ih => ⟨a, b.free e p hk, ih⟩) q
theorem St.free' {c : Cx} (s : St W c σ m h) (e : h.get? it = some oi) (p : Odd oi) (itL : it ≠ c.L) (notF : ∀ b ∈ c.outer.filterMap (·.frame), b ≠ it) (nm : ¬ Mut σ it) (nb : W.b.get? it = none) (hk : ∀ a o, a ≠ it → h.get? a = some o → h'.get? a = some o) : St W c σ m h' := by
  obtain ⟨mm, F, R⟩ := id s.fr
  have keepM : ∀ a o, Mut σ a → h.get? a = some o → h'.get? a = h.get? a := fun a o q ho => (hk a o (fun z => nm (z ▸ q)) ho).trans ho.symm
  refine ⟨⟨mm, ⟨Ns.upTo F.ns fun o ho => ⟨o.slots, hk _ _ (Ne.symm itL) ho⟩, fun b o hb => hk b o (fun q => by rw [q, nb] at hb; cases hb) (F.keep b o hb), F.above⟩, fun x v ev => let ⟨val, a, b⟩ := R x v ev; ⟨val, a, b.free e p hk⟩⟩, ?_, fun a cl ea => ?_, s.fresh, s.lnew, fun b hb o ho => ?_, s.sep⟩
  · have key : ∀ l : List Env, (∀ b ∈ l.filterMap (·.frame), b ∈ c.outer.filterMap (·.frame)) → h.FunFrames W.b l → h'.FunFrames W.b l := by
      intro l
      induction l with
      | nil => intro _ _; trivial
      | cons env rest ih =>
        rintro sub ⟨hk1, ⟨L, o, hf, hn, ho, hdt⟩, hr⟩
        have hin : L ∈ c.outer.filterMap (·.frame) := sub L (by rw [List.filterMap_cons, hf]; exact .head _)
        exact ⟨hk1, ⟨L, o, hf, hn, hk L o (notF L hin) ho, hdt⟩, ih (fun b hb => sub b (by rw [List.filterMap_cons, hf]; exact .tail _ hb)) hr⟩
    exact key c.outer (fun _ h => h) s.ff
  · have cell := s.cells a cl ea
    obtain ⟨⟨oa, ha⟩, hm⟩ := s.own ea
    have ka := keepM a oa (mut_at ea) ha
    have km : ∀ d ∈ cl.more, h'.get? d = h.get? d := fun d hd => let ⟨od, ed⟩ := hm d hd; keepM d od (mut_more ea hd) ed
    cases cl with
    | list vs => exact let ⟨vals, n, ho, rs⟩ := cell; ⟨vals, n, ka.trans ho, rs.free e p hk⟩
    | inst C d fs => exact let ⟨ho, es, n, hd, r⟩ := cell; ⟨ka.trans ho, es, n, (km d (.head _)).trans hd, r.free e p hk⟩
    | exc C d T fs => exact let ⟨⟨oe, vs, ho, r1⟩, ⟨oT, ts, hT, r2⟩, es, n, hd, r⟩ := cell; ⟨⟨oe, vs, ka.trans ho, r1⟩, ⟨oT, ts, (km T (.tail _ (.head _))).trans hT, r2⟩, es, n, (km d (.head _)).trans hd, r.free e p hk⟩
  · obtain ⟨_, ob, hob, _⟩ := s.ff.mem hb
    have hx := hk b ob (notF b hb) hob
    rw [ho] at hx
    cases hx
    exact s.fd b hb _ hob
theorem St.free {c : Cx} (s : St W c σ m h) (e : h.get? it = some oi) (p : Plain oi) (nm : ¬ Mut σ it) (nb : W.b.get? it = none) (hk : ∀ a o, a ≠ it → h.get? a = some o → h'.get? a = some o) : St W c σ m h' := by
  obtain ⟨mm, F, R⟩ := id s.fr
  obtain ⟨po, fs, hdt⟩ := p
  refine s.free' e po (ne_of_ns F.ns e fun es n q => by rw [hdt] at q; cases q) (fun b hb q => ?_) nm nb hk
  obtain ⟨_, o, ho, hnf⟩ := s.ff.mem hb
  rw [q, e] at ho; cases ho
  exact hnf _ hdt
theorem Ext.free {L : Nat} {σ₀ : Store} {h₀ : Heap} (x : Ext L σ₀ h₀ σ h) (ni : h₀.get? it = none) (hk : ∀ a o, a ≠ it → h.get? a = some o → h'.get? a = some o) : Ext L σ₀ h₀ σ h' :=
  ⟨fun a o e n l => let ⟨sl, e', q⟩ := x.keep a o e n l; ⟨sl, hk a _ (fun z => by rw [z, ni] at e; cases e) e', q⟩, x.grow⟩
end
structure ItS (W : Wd Kf) (A : Around) (I : Nat) (xv : V) (x : Value) (items : List V) (fp : List Nat) (P : Nat → Value → Prop) (Sx : Nat → Heap → Prop) : Prop where
  walks : Walks W.prog W.w A I fp [I] items.length P Sx
  obj : ∀ i h, Sx i h → ∃ o, h.get? I = some o ∧ Plain o
  val : ∀ i v val h σ, items[i]? = some v → P i val → Sx (i + 1) h → VR h σ xv x → VR h σ v val
  fps : ∀ b ∈ fp, b = I ∨ (x = .ref b ∧ ∃ vs, xv = .lst vs)
  go : ∀ i target v (s : Shared) (Q : Unit → Shared → Prop) (E : Value → Shared → Prop), Sx i s.heap → Q () s → wpAny (model W.prog W.w) A (letOwnedTupleGo target (.ref I) v) Q E s
inductive IterV : V → List V → Prop
  | lst (vs : List V) : IterV (.lst vs) vs
  | str (l : List Nat) : l.all (· < 128) = true → IterV (.str l) (l.map fun c => .str [c])
  | rng (n : Nat) : n ≤ 1000000 → IterV (.rng n) ((List.range n).map fun (i : Nat) => .int i)
theorem letGo_plain {prog : Program} {w : World} {A : Around} {E : Value → Shared → Prop} {target : Expr} {I : Nat} {v : Value} {Q' : Unit → Shared → Prop} {s' : Shared} {T : String} {fs : Array Value} {o : Obj} (ho : s'.heap.get? I = some o) (hc : o.cls = .type T) (hd : o.data = .fields fs)
    (hT : (["enumerate", "zip", "dict_itemiterator", "dict_reverseitemiterator", "odict_iterator", "itertools.zip_longest", "itertools.pairwise"].contains T) = false) (h : Q' () s') :
    wpAny (model prog w) A (letOwnedTupleGo target (.ref I) v) Q' E s' := by
  unfold letOwnedTupleGo
  cases target <;> first
    | exact wpAny_pure h
    | (cases v <;> first
        | exact wpAny_pure h
        | (refine wpAny_bind (wpAny_load ho ?_)
           rw [hc, hd]
           simp only [hT, Bool.false_and, Bool.false_eq_true, if_false]
           exact wpAny_pure h))
theorem wp_iter {c : Cx} {S₀ : Shared} {h : Heap} {tk : Nat} {xv : V} {x : Value} {items : List V} {EE : Value → Shared → Prop} {Q : Value → Shared → Prop} (hh : c.hd = none) (s : St W c σ m h) (r : VR h σ xv x) (it : IterV xv items)
    (q : ∀ ob fp P Sx, ItS W c.A h.objs.size xv x items fp P Sx → Sx 0 (h.push ob) → Q (.ref h.objs.size) { S₀ with heap := h.push ob, toks := tk }) : wpAny (model W.prog W.w) c.A (pyIter x) Q EE { S₀ with heap := h, toks := tk } := by
  cases it with
  | lst vs =>
    cases r with
    | @lst _ vals a n ho nm rs =>
      have hne : a ≠ h.objs.size := Nat.ne_of_lt (Heap.lt_size ho)
      refine wpAny_pyIter_list (isList_of ho) (q _ [h.objs.size, a] (fun i v => vals.toArray[i]? = some v) (fun i h' => h'.IsListIter h.objs.size a i ∧ h'.IsList a vals.toArray) ⟨by rw [show items.length = vals.toArray.size from by simp [rs.length]]; exact Walks.list hh h.objs.size a hne vals.toArray, ?_, ?_, ?_, ?_⟩ ⟨⟨_, Heap.get?_push_size _ rfl, rfl, rfl⟩, isList_of (Heap.get?_push_of_some _ ho)⟩)
      · rintro i h' ⟨⟨o, e, hc, hd⟩, _⟩
        exact ⟨o, e, ⟨.inl ⟨_, hc, by decide, by decide, by decide⟩, _, hd⟩⟩
      · rintro i v val h' σ' e p ⟨_, o, eo, hc, n', hd⟩ r'
        cases r' with
        | @lst _ vals' _ n'' ho' nm' rs' =>
          obtain ⟨val', e', r''⟩ := rs'.get e
          rw [ho'] at eo; cases eo
          have : vals' = vals := by simpa using (Data.seq.inj hd).1
          subst this
          have : val' = val := by
            have p' : vals'[i]? = some val := by simpa using p
            rw [e'] at p'; exact Option.some.inj p'
          subst this; exact r''
      · intro b hb
        simp only [List.mem_cons, List.not_mem_nil, or_false] at hb
        rcases hb with rfl | rfl
        · exact .inl rfl
        · exact .inr ⟨rfl, _, rfl⟩
      · rintro i target v s' Q' E' ⟨⟨o, e, hc, hd⟩, _⟩ q'
        exact letGo_plain e hc hd (by decide) q'
  | str l ha =>
    cases r with
    | str _ t =>
      have ha' : (S l).cps.all (· < 128) = true := by simpa [S] using ha
      refine wpAny_pyIter_ascii ha' (q _ [h.objs.size] (SignAt (S l)) (fun i h' => h'.IsStrIter h.objs.size "str_ascii_iterator" (S l) t i) ⟨by rw [show (l.map fun c => V.str [c]).length = (S l).cps.size from by simp [S]]; exact Walks.strAscii hh h.objs.size (S l) t, ?_, ?_, ?_, ?_⟩ ⟨_, Heap.get?_push_size _ rfl, rfl, rfl⟩)
      · rintro i h' ⟨o, e, hc, hd⟩
        exact ⟨o, e, ⟨.inl ⟨_, hc, by decide, by decide, by decide⟩, _, hd⟩⟩
      · rintro i v val h' σ' e ⟨c', u, e', rfl⟩ _ r'
        rw [List.getElem?_map] at e
        have e'' : l[i]? = some c' := by simpa [S] using e'
        rw [e''] at e; cases e
        exact .str [c'] u
      · intro b hb
        exact .inl (List.mem_singleton.mp hb)
      · rintro i target v s' Q' E' ⟨o, e, hc, hd⟩ q'
        exact letGo_plain e hc hd (by decide) q'
  | rng n hn =>
    cases r with
    | @rng _ t u v a ho nm =>
      have hs : Builtin.Range.rangeSize 0 (n : Int) 1 = n := by
        unfold Builtin.Range.rangeSize; simp
        omega
      refine wpAny_pyIter_range (a := 0) (b := (n : Int)) (c := 1) ho ?_ (q _ [h.objs.size] (fun i v => ∃ t, v = .int (0 + i * 1) t) (fun i h' => IsRangeIter h' h.objs.size (0 + (i : Nat) * 1) ((n : Int) - (i : Nat)) 1) ⟨by rw [show ((List.range n).map fun (i : Nat) => V.int i).length = n from by simp]; exact Walks.range hh h.objs.size 0 1 n, ?_, ?_, ?_, ?_⟩ ?_)
      · have f : ∀ i : Int, 0 ≤ i → i ≤ 2000000 → Builtin.Range.rangeFitsLong i = true := fun i h1 h2 => by
          unfold Builtin.Range.rangeFitsLong
          rw [Bool.and_eq_true]
          exact ⟨decide_eq_true (by omega), decide_eq_true (by omega)⟩
        unfold Builtin.Range.small
        rw [hs, f 0 (by omega) (by omega), f n (by omega) (by omega), f 1 (by omega) (by omega), if_pos (by decide), f _ (by omega) (by omega)]
        simp
      · rintro i h' e
        exact ⟨_, e, ⟨.inl ⟨_, rfl, by decide, by decide, by decide⟩, _, rfl⟩⟩
      · rintro i v val h' σ' e ⟨t', rfl⟩ _ r'
        rw [List.getElem?_map] at e
        obtain ⟨j, ej, rfl⟩ := Option.map_eq_some_iff.mp e
        have : j = i := by
          have := List.getElem?_eq_some_iff.mp ej
          simpa using this.2.symm
        subst this
        simpa using VR.int (h := h') (σ := σ') (j : Int) t'
      · intro b hb
        exact .inl (List.mem_singleton.mp hb)
      · rintro i target v s' Q' E' e q'
        exact letGo_plain e rfl rfl (by decide) q'
      · rw [hs]
        show (h.push _).get? _ = some _
        rw [Heap.get?_push_size _ rfl]
        simp
end Mine
end
section
open PySem PySem.W PySem.Spec PySem.Calls PyProof.Rows
set_option maxRecDepth 100000
namespace Mine
variable {Kf : Params → Frag} {W : Wd Kf} {cs : Scope} {k : Nat} {hd : Option Value} {m : Loc} {σ : Store} {E : Int → Store → Prop} {Q : V → Store → Prop} {pos : Pos}
inductive AssP (W : Wd Kf) (c : Cx) (S₀ : Shared) (σ : Store) (h : Heap) (Q : Loc → Prop) (u : Unit) (s' : Shared) : Prop
  | mk (h' : Heap) (tk' : Nat) (m' : Loc) : s' = { S₀ with heap := h', toks := tk' } → St W c σ m' h' → Ext c.L σ h σ h' → Q m' → AssP W c S₀ σ h Q u s'
noncomputable def TA (W : Wd Kf) (cs : Scope) (k : Nat) (hd : Option Value) (target : Expr) (v : V) (m : Loc) (σ : Store) (Q : Loc → Prop) : Prop :=
  ∀ (c : Cx) (S₀ : Shared) (h : Heap) (tk : Nat) (val : Value) (EE : Value → Shared → Prop), c.cs = cs → c.hd = hd → c.Ok k → St W c σ m h → VR h σ v val →
    wpAny (model W.prog W.w) c.A (assign target c.env val) (AssP W c S₀ σ h Q) EE { S₀ with heap := h, toks := tk }
theorem TA.name {x : Str} {v : V} {Q : Loc → Prop} (hx : cs.names.lookup x = some .local) (q : Q (setV m x v)) : TA W cs k hd (.Name x pos) v m σ Q :=
  fun c S₀ h tk val EE hc hh ok s r => PyProof.Rows.assign_Name (wp_store ok s r (hc ▸ hx) fun h' st x => ⟨h', _, _, rfl, st, x, q⟩)
theorem wp_assignNames {EE : Value → Shared → Prop} {c : Cx} {S₀ : Shared} {elts : List Expr} {M : Model} {A : Around} {Q : Unit → Shared → Prop} (hc : c.cs = cs) (ok : c.Ok k) :
    ∀ {names : List Str} {vs : List V} {vals : List Value} {m : Loc} {h : Heap} {tk : Nat}, elts.map (fun e => match e with | .Name x _ => some x | _ => none) = names.map some → (∀ x ∈ names, cs.names.lookup x = some .local) → St W c σ m h → VRs h σ vs vals → names.length = vs.length →
    (∀ h' tk', St W c σ (storesOf m (names.zip vs)) h' → Ext c.L σ h σ h' → Q () { S₀ with heap := h', toks := tk' }) → wpAny M A (assignInOrder (elts.map fun e => assign e c.env) vals) Q EE { S₀ with heap := h, toks := tk } := by
  intro names vs vals m h tk
  induction elts generalizing names vs vals m h tk with
  | nil =>
    intro hn hx s r hl q
    cases names with
    | cons _ _ => cases hn
    | nil =>
      cases vs with
      | nil => exact assignInOrder_nil (q h tk s .refl)
      | cons _ _ => cases hl
  | cons e elts ih =>
    intro hn hx s r hl q
    cases names with
    | nil => cases hn
    | cons x names =>
      simp only [List.map_cons, List.cons.injEq] at hn
      cases e with
      | Name y p =>
        obtain ⟨he, hn⟩ := hn
        cases he
        cases r with
        | nil => cases hl
        | @cons v val vs vals r rs =>
          refine assignInOrder_cons (PyProof.Rows.assign_Name (wp_store ok s r (hc ▸ hx x (.head _)) fun h1 st1 x1 => ?_))
          obtain ⟨mm, hns⟩ := s.ns
          exact ih hn (fun y hy => hx y (.tail _ hy)) st1 (rs.ext x1 hns) (by simpa using hl) fun h2 tk2 st2 x2 => q h2 tk2 st2 (x1.trans x2)
      | _ => cases hn.1
noncomputable def namesOf : List Expr → Option (List Str)
  | [] => some []
  | .Name x _ :: es => (namesOf es).map (x :: ·)
  | _ => none
theorem namesOf_each : ∀ {elts : List Expr} {names : List Str}, namesOf elts = some names → (elts.map (fun e => match e with | .Name x _ => some x | _ => none) = names.map some) ∧ (∀ env, (assignEach elts env).map (·.2) = elts.map fun e => assign e env) ∧ (∀ env, (assignEach elts env).findIdx? (·.1) = none) ∧ (∀ env, (assignEach elts env).length = names.length) := by
  intro elts
  induction elts with
  | nil => intro names h; cases h; exact ⟨rfl, fun _ => rfl, fun _ => rfl, fun _ => rfl⟩
  | cons e es ih =>
    intro names h
    cases e with
    | Name x p =>
      simp only [namesOf] at h
      obtain ⟨n', h', rfl⟩ := Option.map_eq_some_iff.mp h
      obtain ⟨a, b, c, d⟩ := ih h'
      have he : ∀ env, assignEach (.Name x p :: es) env = (false, assign (.Name x p) env) :: assignEach es env := fun env => rfl
      refine ⟨by simp [a], fun env => by rw [he]; simp [b], fun env => ?_, fun env => by rw [he]; simp [d]⟩
      rw [he, List.findIdx?_cons]; simp [c]
    | _ => simp [namesOf] at h
theorem TA.tuple {elts : List Expr} {kk : Nat} {names : List Str} {vs : List V} {Q : Loc → Prop} (hh : hd = none) (hn : namesOf elts = some names) (hl : names.length = vs.length) (hx : (names.all fun x => cs.names.lookup x == some .local) = true) (q : Q (storesOf m (names.zip vs))) :
    TA W cs k hd (.Tuple elts kk pos) (.tup vs) m σ Q := by
  intro c S₀ h tk val EE hc hh' ok s r
  obtain ⟨g1, g2, g3, g4⟩ := namesOf_each hn
  cases r with
  | @tup _ vals a t n rs =>
    refine assign_Tuple_tuple (hh'.trans hh) t (by rw [g4, hl, rs.length]; simp) (g3 _) fun h2 hk2 => ?_
    obtain ⟨st2, x2⟩ := s.extBut get_size hk2
    obtain ⟨mm, hns⟩ := s.ns
    rw [g2]
    refine wp_assignNames hc ok g1 (fun x hm => ?_) st2 (rs.ext x2 hns) hl fun h3 tk3 st3 x3 => ⟨h3, tk3, _, rfl, st3, x2.trans x3, q⟩
    have := List.all_eq_true.mp hx x hm
    simpa using this
theorem draw_list {prog : Program} {w : World} {A : Around} {E : Value → Shared → Prop} {it t : Nat} {items : Array Value} (hne : t ≠ it) : ∀ (n i : Nat) (s : Shared) (Q : List Value → Shared → Prop), s.heap.IsListIter it t i → s.heap.IsList t items → i + n ≤ items.size →
    (∀ h', h'.IsListIter it t (i + n) → Heap.SameBut it s.heap h' → Q ((items.toList.drop i).take n) { s with heap := h' }) → wpAny (model prog w) A (draw (.ref it) n) Q E s := by
  intro n
  induction n with
  | zero => intro i s Q hit _ _ hQ; exact wpAny_pure (by simpa using hQ s.heap hit (Heap.SameBut.refl ..))
  | succ n ih =>
    intro i s Q hit ht hle hQ
    have hlt : i < items.size := by omega
    show wpAny _ _ (pyNext (.ref it) >>= _) Q E s
    refine wpAny_bind (wpAny_pyNext_list_item hit ht (x := items[i]) (by simp [hlt]) fun h₁ hit₁ hs₁ => ?_)
    refine wpAny_bind (wpAny_holding (ih (i + 1) _ _ hit₁ (ht.extBut hs₁.extBut hne) (by omega) fun h₂ hit₂ hs₂ => wpAny_pure ?_))
    have hd : items.toList.drop i = items[i] :: items.toList.drop (i + 1) := by simp [List.drop_eq_getElem_cons, hlt]
    have := hQ h₂ (by rw [show i + (n + 1) = i + 1 + n by omega]; exact hit₂) (hs₁.trans hs₂)
    rw [hd, List.take_succ_cons] at this
    exact this
theorem unpackItems_list {prog : Program} {w : World} {A : Around} {E : Value → Shared → Prop} {s : Shared} {t : Nat} {items : Array Value} {Q : List Value → Shared → Prop} (hh : A.handled = none) (ht : s.heap.IsList t items)
    (hQ : ∀ h', Heap.ExtBut s.heap.objs.size s.heap h' → Q items.toList { s with heap := h' }) : wpAny (model prog w) A (unpackItems (.ref t) items.size none) Q E s := by
  have hlt : t ≠ s.heap.objs.size := by obtain ⟨o, ho, _⟩ := ht; exact Nat.ne_of_lt (Heap.lt_size ho)
  unfold unpackItems
  refine wpAny_bind ?_
  unfold notIterableAtAll
  refine wpAny_bind (wpAny_specialOf ht.typeIs slot_list_iter.lookup ?_)
  refine wpAny_pure ?_
  simp only [Bool.false_eq_true, if_false]
  refine wpAny_bind (wpAny_holding (wpAny_pyIter_list ht ?_))
  have hpush : ∀ ob : Obj, (s.heap.push ob).IsList t items := fun ob => let ⟨o, ho, r⟩ := ht; ⟨o, Heap.get?_push_of_some _ ho, r⟩
  refine wpAny_bind (wpAny_holding (draw_list hlt items.size 0 _ _ ⟨_, Heap.get?_push_size _ rfl, rfl, rfl⟩ (hpush _) (by omega) fun h₁ hit₁ hs₁ => ?_))
  have hall : List.take items.size (List.drop 0 items.toList) = items.toList := by
    rw [List.drop_zero]; exact List.take_of_length_le (by simp)
  rw [hall]
  rw [if_neg (by simp)]
  have ht₁ : h₁.IsList t items := (hpush _).extBut hs₁.extBut hlt
  refine wpAny_bind (wpAny_holding (wpAny_pyNext_list_end hh hit₁ ht₁ (by simp) fun h₂ he₂ => ?_))
  simp only [Option.isSome_none, Bool.false_eq_true, if_false]
  exact wpAny_pure (hQ h₂ fun b o hb e => he₂ b o hb (hs₁.extBut b o hb (Heap.get?_push_of_some _ e)))
theorem TA.tupleL {elts : List Expr} {kk : Nat} {names : List Str} {vs : List V} {Q : Loc → Prop} (hh : hd = none) (hn : namesOf elts = some names) (hl : names.length = vs.length) (hx : (names.all fun x => cs.names.lookup x == some .local) = true) (q : Q (storesOf m (names.zip vs))) :
    TA W cs k hd (.Tuple elts kk pos) (.lst vs) m σ Q := by
  intro c S₀ h tk val EE hc hh' ok s r
  obtain ⟨g1, g2, g3, g4⟩ := namesOf_each hn
  cases r with
  | @lst _ vals a n ho nm rs =>
    rw [PyProof.Rows.assign_Tuple]
    refine wpAny_bind (wpAny_standAt ?_)
    have key : wpAny (model W.prog W.w) c.A (unpackItems (.ref a) names.length none) (fun items s' => items = vals ∧ ∃ h', s' = { S₀ with heap := h', toks := tk } ∧ Heap.ExtBut h.objs.size h h') EE { S₀ with heap := h, toks := tk } := by
      rw [show names.length = vals.toArray.size from by rw [hl, rs.length]; simp]
      exact unpackItems_list (hh'.trans hh) (isList_of ho) fun h' he => ⟨by simp, h', rfl, he⟩
    unfold unpack
    rw [g4, g3]
    refine wpAny_bind (wpAny_holding (wpAny_mono key (fun items s' z => ?_) fun _ _ z => z))
    obtain ⟨rfl, h2, rfl, hk2⟩ := z
    obtain ⟨st2, x2⟩ := s.extBut get_size hk2
    obtain ⟨mm, hns⟩ := s.ns
    show wpAny _ _ (assignInOrder ((assignEach elts c.env).map (·.2)) items) _ _ _
    rw [g2]
    refine wp_assignNames hc ok g1 (fun x hm => ?_) st2 (rs.ext x2 hns) hl fun h3 tk3 st3 x3 => ⟨h3, tk3, _, rfl, st3, x2.trans x3, q⟩
    have := List.all_eq_true.mp hx x hm
    simpa using this
end Mine
end
section
open PySem PySem.W PySem.Spec PySem.Calls PyProof.Rows
set_option maxRecDepth 100000
namespace Mine
variable {Kf : Params → Frag} {W : Wd Kf} {cs : Scope} {k : Nat} {hd : Option Value} {m : Loc} {σ : Store} {E : Int → Store → Prop} {Q : V → Store → Prop} {pos : Pos}
theorem codeAny_forRow {prog : Program} {w : World} {A : Around} {s : Shared} {R : Result → Shared → Prop} {target : Expr} {it : Value} {body : List Stmt} {env : Env} (I : Nat → Shared → Prop)
    (turn : ∀ n s, I n s → wpAny (model prog w) A (pyNext it) (fun r s₁ => match r with
      | none => R (.ok .next) s₁
      | some v => wpAny (model prog w) A (letOwnedTupleGo target it v) (fun _ s₀ => wpAny (model prog w) A (assign target env v) (fun _ s₂ => wpAny (model prog w) A (execs body env) (fun f s₃ => match f with
          | .next | .cont => ∃ m, m < n ∧ I m s₃
          | .brk => R (.ok .next) s₃
          | .ret v => R (.ok (.ret v)) s₃) (notedBy (model prog w) A env fun e s' => R (.error e) s') s₂) (notedBy (model prog w) A env fun e s' => R (.error e) s') s₀) (notedBy (model prog w) A env fun e s' => R (.error e) s') s₁) (notedBy (model prog w) A env fun e s' => R (.error e) s') s)
    (n : Nat) (h : I n s) : codeAny (model prog w) A (.forLoop target it body [] env) R s := by
  refine codeAny_loop' rfl I (fun n s hI => ?_) n h
  show wpAny _ _ ((forTurn target it body [] env).onRaise (fun x => do noteFrame x env; theTreesLotGoes x)) _ _ s
  refine wpAny_noted ?_
  simp only [forTurn]
  refine wpAny_bind (wpAny_standAt (wpAny_bind (wpAny_onRaise (wpAny_mono (turn n s hI) (fun r s₁ h₁ => ?_) fun _ _ h' => wpAny_standAt h'))))
  cases r with
  | none => exact wpAny_pure (.inr ⟨rfl, codeAny_block (wpAny_execs_nil h₁)⟩)
  | some v =>
    refine wpAny_bind (wpAny_mono h₁ (fun _ s₀ h₀ => ?_) fun _ _ h' => h')
    refine wpAny_bind (wpAny_mono h₀ (fun _ s₂ h₂ => wpAny_bind (wpAny_mono h₂ (fun f s₃ h₃ => ?_) fun _ _ h' => h')) fun _ _ h' => h')
    cases f with
    | next => exact wpAny_pure (.inl ⟨rfl, h₃⟩)
    | cont => exact wpAny_pure (.inl ⟨rfl, h₃⟩)
    | brk => exact wpAny_pure h₃
    | ret v => exact wpAny_pure h₃
section
variable {Qn : Loc → Store → Prop} {Qr : V → Store → Prop} {ES : Int → Loc → Store → Prop}
inductive ForP (W : Wd Kf) (c : Cx) (S₀ : Shared) (σ : Store) (h : Heap) (Sx : Nat → Heap → Prop) (it : Nat) (xv : V) (xval : Value) (I : Nat → Loc → Store → Prop) (len n : Nat) (s' : Shared) : Prop
  | mk (h' : Heap) (tk' : Nat) (σ' : Store) (m' : Loc) (i : Nat) : s' = { S₀ with heap := h', toks := tk' } → St W c σ' m' h' → Ext c.L σ h σ' h' → Sx i h' → ¬ Mut σ' it → VR h' σ' xv xval → I i m' σ' → i ≤ len → n = len - i → ForP W c S₀ σ h Sx it xv xval I len n s'
theorem T1.for {target iter : Expr} {body : List Stmt} (hh : hd = none) (hs : ∀ env x, foldedSetIterable iter env x = pure x)
    (h : TE W cs k hd iter m σ (fun xv σ₁ => ∃ (items : List V) (I : Nat → Loc → Store → Prop), IterV xv items ∧ I 0 m σ₁ ∧
      (∀ i v m' σ', items[i]? = some v → I i m' σ' → TA W cs k hd target v m' σ' (fun m'' => TS W cs k hd body m'' σ' (fun m3 σ3 => I (i + 1) m3 σ3) Qr ES)) ∧
      (∀ m' σ', I items.length m' σ' → Qn m' σ')) (fun p σ' => ES p m σ')) : T1 W cs k hd (.For target iter body [] pos) m σ Qn Qr ES := by
  intro c S₀ hp tk hc hh' ok s
  refine wpAny_For (wpAny_mono (h c S₀ hp tk hc hh' ok s) (fun xval s₁ z => ?_) fun _ _ z => ⟨m, z⟩) (hs _)
  obtain ⟨h1, tk1, σ1, xv, rfl, st1, x1, r1, items, I, hiv, hI0, step, fin⟩ := z
  have hcn : c.hd = none := hh'.trans hh
  have hA : c.A.frames = some (c.env :: c.outer) := rfl
  have out : ∀ (σ₁ : Store) (h₁ : Heap) (val : Value) (s' : Shared), Ext c.L σ hp σ₁ h₁ → ExcS W c S₀ σ₁ h₁ ES val s' →
      notedBy (model W.prog W.w) c.A c.env (fun x s' => cameBackBy (model W.prog W.w) c.A c.env (ExcS W c S₀ σ hp ES) x s') val s' := fun σ₁ h₁ val s' x y => by
    obtain ⟨m', y⟩ := y.lift x
    exact wpAny_mono (wp_passes ok.fn hA y) (fun _ _ z => wpAny_mono z (fun _ _ u => ⟨m', u⟩) fun _ _ u => ⟨m', u⟩) fun _ _ z => wpAny_mono z (fun _ _ u => ⟨m', u⟩) fun _ _ u => ⟨m', u⟩
  refine wp_iter hcn st1 r1 hiv fun ob fp P Sx it sx0 => ?_
  generalize hI : h1.objs.size = it₀ at it sx0
  have hit : W.b.get? it₀ = none ∧ h1.get? it₀ = none := by
    subst hI
    refine ⟨?_, get_size⟩
    cases e : W.b.get? h1.objs.size with
    | none => rfl
    | some o => exact absurd (Heap.lt_size (st1.stays _ _ e)) (Nat.lt_irrefl _)
  obtain ⟨stp, xp⟩ := st1.push ob
  have fr : ∀ {i : Nat} {σ' σ'' : Store} {h' h'' : Heap}, Sx i h' → VR h' σ' xv xval → Ext c.L σ' h' σ'' h'' → (∃ mm, h'.Ns c.L mm) → ¬ Mut σ' it₀ → Sx i h'' := by
    intro i σ' σ'' h' h'' sx vr x hn nm
    obtain ⟨mm, hn⟩ := hn
    refine it.walks.frame i h' h'' sx fun b hb o ho => ?_
    rcases it.fps b hb with rfl | ⟨rfl, vs, rfl⟩
    · obtain ⟨o', ho', _, fs, hd⟩ := it.obj i h' sx
      rw [ho] at ho'; cases ho'
      exact (x.exact hn ho (fun es n q => by rw [hd] at q; cases q) nm).1
    · cases vr with
      | lst t n rs =>
        rw [t] at ho; cases ho
        exact (x.exact hn t (fun es n q => by cases q) n).1
  have nm1 : ¬ Mut σ1 it₀ := st1.notMutNew hit.2
  obtain ⟨mmp, hnp⟩ := st1.ns
  refine codeAny_forRow (ForP W c S₀ σ1 h1 Sx it₀ xv xval I items.length) (fun n s' hInv => ?_) items.length ⟨_, tk1, σ1, m, 0, by subst hI; rfl, stp, xp, sx0, nm1, r1.ext xp hnp, hI0, Nat.zero_le _, rfl⟩
  obtain ⟨h2, tk2, σ2, m2, i, rfl, st2, x2, sx2, nm2, r2, hI2, hi, rfl⟩ := hInv
  obtain ⟨oi, hoi, hpl⟩ := it.obj i h2 sx2
  by_cases hlt : i < items.length
  · refine it.walks.item i _ _ _ hlt sx2 fun val h3 tk3 hP sx3 hk => ?_
    have hk' : ∀ a o, a ≠ it₀ → h2.get? a = some o → h3.get? a = some o := fun a o ne e => hk a o (by simpa using ne) e
    have st3 := st2.free hoi hpl nm2 hit.1 hk'
    have x3 : Ext c.L σ1 h1 σ2 h3 := x2.free hit.2 hk'
    have r3 := r2.free hoi hpl.1 hk'
    have ev : items[i]? = some items[i] := List.getElem?_eq_getElem hlt
    refine it.go (i + 1) target val _ _ _ sx3 ?_
    refine wpAny_mono (step i items[i] m2 σ2 ev hI2 c S₀ h3 tk3 val _ hc hh' ok st3 (it.val i _ val h3 σ2 ev hP sx3 r3)) (fun _ s₄ z => ?_) fun _ _ z => z
    obtain ⟨h4, tk4, m4, rfl, st4, x4, q4⟩ := z
    refine wpAny_mono (q4 c S₀ h4 tk4 hc hh' ok st4) (fun f s₅ z => ?_) fun val s' y => out σ2 h4 val s' ((x1.trans x3).trans x4) y
    obtain ⟨h5, tk5, σ5, m5, rfl, st5, x5, q5⟩ := z
    have sx4 := fr sx3 r3 x4 st3.ns nm2
    have r4 : VR h4 σ2 xv xval := let ⟨mm, hn⟩ := st3.ns; r3.ext x4 hn
    have sx5 := fr sx4 r4 x5 st4.ns nm2
    have r5 : VR h5 σ5 xv xval := let ⟨mm, hn⟩ := st4.ns; r4.ext x5 hn
    obtain ⟨o4, ho4, _⟩ := it.obj _ h4 sx4
    have nm5 : ¬ Mut σ5 it₀ := x5.notMut ho4 nm2
    cases f with
    | next => exact ⟨items.length - (i + 1), by omega, h5, tk5, σ5, m5, i + 1, rfl, st5, (x3.trans x4).trans x5, sx5, nm5, r5, q5, hlt, rfl⟩
    | ret v => exact ⟨h5, tk5, σ5, m5, rfl, st5, ((x1.trans x3).trans x4).trans x5, q5⟩
    | brk => exact q5.elim
    | cont => exact q5.elim
  · obtain rfl : i = items.length := by omega
    refine it.walks.done _ _ _ sx2 fun h3 tk3 hk => ?_
    have hk' : ∀ a o, a ≠ it₀ → h2.get? a = some o → h3.get? a = some o := fun a o ne e => hk a o (by simpa using ne) e
    exact ⟨h3, tk3, σ2, m2, rfl, st2.free hoi hpl nm2 hit.1 hk', x1.trans (x2.free hit.2 hk'), fin m2 σ2 hI2⟩
end
end Mine
end
section
open PySem PySem.W PySem.Spec PySem.Calls PyProof.Rows
set_option maxRecDepth 100000
namespace Mine
variable {Kf : Params → Frag} {W : Wd Kf} {cs : Scope} {k : Nat} {hd : Option Value} {m : Loc} {σ : Store} {E : Int → Store → Prop} {Q : V → Store → Prop} {pos : Pos}
theorem codeAny_compRow {prog : Program} {w : World} {A : Around} {s : Shared} {R : Result → Shared → Prop} {elt target iter : Expr} {scope : Scope} {it acc : Value} {env : Env} (I : Nat → Shared → Prop)
    (turn : ∀ n s, I n s → wpAny (model prog w) A (pyNext it) (fun r s₁ => match r with
      | none => R (.ok .next) s₁
      | some v => wpAny (model prog w) A (letOwnedTupleGo target it v) (fun _ s₀ => wpAny (model prog w) A (assign target env v) (fun _ s₂ => wpAny (model prog w) A (eval elt env) (fun x s₃ =>
          wpAny (model prog w) A (PySem.call (.builtin "list.append") [acc, x]) (fun _ s₄ => ∃ m, m < n ∧ I m s₄) (notedBy (model prog w) A env fun e s' => R (.error e) s') s₃)
          (notedBy (model prog w) A env fun e s' => R (.error e) s') s₂) (notedBy (model prog w) A env fun e s' => R (.error e) s') s₀) (notedBy (model prog w) A env fun e s' => R (.error e) s') s₁) (notedBy (model prog w) A env fun e s' => R (.error e) s') s)
    (n : Nat) (h : I n s) : codeAny (model prog w) A (.compLoop (.ListComp elt [⟨target, iter, [], 0⟩] scope pos) 0 it acc env) R s := by
  refine codeAny_loop rfl I (fun n s hI => ?_) n h
  show wpAny _ _ ((compTurn (.ListComp elt [⟨target, iter, [], 0⟩] scope pos) 0 it acc env).onRaise (fun x => do noteFrame x env; theTreesLotGoes x)) _ _ s
  refine wpAny_noted ?_
  rw [compTurn_list1]
  refine wpAny_bind (wpAny_standAt (wpAny_bind (wpAny_mono (turn n s hI) (fun r s₁ h₁ => ?_) fun _ _ h' => h')))
  cases r with
  | none => exact wpAny_pure h₁
  | some v =>
    refine wpAny_bind (wpAny_mono h₁ (fun _ s₀ h₀ => ?_) fun _ _ h' => h')
    exact wpAny_bind (wpAny_mono h₀ (fun _ s₂ h₂ => wpAny_bind (wpAny_bind (wpAny_mono h₂ (fun x s₃ h₃ => wpAny_bind (wpAny_mono h₃
      (fun _ s₄ h₄ => wpAny_pure (wpAny_pure ⟨rfl, h₄⟩)) fun _ _ h' => h')) fun _ _ h' => h'))) fun _ _ h' => h')
noncomputable def fstOf : V → V
  | .lst [a, _] => a
  | v => v
noncomputable def isTwo : V → Bool
  | .lst [_, _] => true
  | _ => false
inductive CompP (S₀ : Shared) (h1 : Heap) (σ : Store) (I a A0 C : Nat) (vs : List V) (q : Nat) (s' : Shared) : Prop
  | mk (h' : Heap) (tk' i : Nat) (ys : List Value) (nn : Nat) (mC : Str → Option Value) : s' = { S₀ with heap := h', toks := tk' } → (∀ b o, h1.get? b = some o → h'.get? b = some o) → h'.IsListIter I a i → h'.get? A0 = some (lobj ys nn) → h'.Ns C mC → VRs h1 σ ((vs.take i).map fstOf) ys → i ≤ vs.length → q = vs.length - i → CompP S₀ h1 σ I a A0 C vs q s'
theorem comp_core {c : Cx} {S₀ : Shared} {cenv : Env} {I A0 C a n : Nat} {h1 h4 : Heap} {tk : Nat} {vs : List V} {vals : List Value} {x y : Str} {p1 p2 p3 p4 cpos : Pos} {kk : Nat} {iter : Expr} {scope : Scope} {m0 : Str → Option Value} {R : Result → Shared → Prop}
    (hh : c.A.handled = none) (s : St W c σ m h1) (ho : h1.get? a = some (lobj vals n)) (nm : ¬ Mut σ a) (rs : VRs h1 σ vs vals) (two : vs.all isTwo = true) (hz : vs.length ≤ 1000000)
    (nI : h1.get? I = none) (nA : h1.get? A0 = none) (nC : h1.get? C = none) (IA : I ≠ A0) (IC : I ≠ C) (AC : A0 ≠ C)
    (hk4 : ∀ b o, h1.get? b = some o → h4.get? b = some o) (hit : h4.IsListIter I a 0) (hacc : h4.get? A0 = some (lobj [] 0)) (hns : h4.Ns C m0)
    (hl : cenv.locals = C) (hkd : cenv.scope.kind = .function) (hx : cenv.kindOf x = some .local) (hy : cenv.kindOf y = some .local) (hne : x ≠ y) (hdb : (x == ("__debug__" : Str)) = false)
    (hR : ∀ h' tk' ys nn mC, (∀ b o, h1.get? b = some o → h'.get? b = some o) → h'.get? A0 = some (lobj ys nn) → VRs h' σ (vs.map fstOf) ys → h'.Ns C mC → R (.ok .next) { S₀ with heap := h', toks := tk' }) :
    codeAny (model W.prog W.w) c.A (.compStart (.ListComp (.Name x p1) [⟨.Tuple [.Name x p2, .Name y p3] kk p4, iter, [], 0⟩] scope cpos) 0 (.ref I) (.ref A0) cenv) R { S₀ with heap := h4, toks := tk } := by
  have nclass : (cenv.scope.kind == .class || (cenv.scope.kind == .module && cenv.locals != cenv.globals)) = false := by rw [hkd]; rfl
  have loop : codeAny (model W.prog W.w) c.A (.compLoop (.ListComp (.Name x p1) [⟨.Tuple [.Name x p2, .Name y p3] kk p4, iter, [], 0⟩] scope cpos) 0 (.ref I) (.ref A0) cenv) R { S₀ with heap := h4, toks := tk } := by
    refine codeAny_compRow (CompP S₀ h1 σ I a A0 C vs) (fun q s' hInv => ?_) vs.length
      ⟨h4, tk, 0, [], 0, m0, rfl, hk4, hit, hacc, hns, .nil, Nat.zero_le _, rfl⟩
    obtain ⟨h', tk', i, ys, nn, mC, rfl, hk, hit', hacc', hns', rys, hi, rfl⟩ := hInv
    obtain ⟨st, xt⟩ := s.keepAll hk
    obtain ⟨mm, hn0⟩ := s.ns
    have hl' : h'.IsList a vals.toArray := isList_of (hk _ _ ho)
    have ne : ∀ {b o}, h1.get? b = some o → b ≠ I ∧ b ≠ A0 ∧ b ≠ C := fun e => ⟨fun q => (by rw [q, nI] at e; cases e), fun q => (by rw [q, nA] at e; cases e), fun q => (by rw [q, nC] at e; cases e)⟩
    by_cases hlt : i < vs.length
    · have hlt' : i < vals.length := by rw [← rs.length]; exact hlt
      refine wpAny_pyNext_list_item hit' hl' (x := vals[i]) (by simp [hlt']) fun h5 hit5 hs5 => ?_
      have hk5 : ∀ b o, h1.get? b = some o → h5.get? b = some o := fun b o e => hs5.extBut b o (ne e).1 (hk b o e)
      obtain ⟨oit, eit, hcit, hdit⟩ := id hit5
      refine letGo_plain eit hcit hdit (by decide) ?_
      obtain ⟨val, ev, rv⟩ := rs.get (List.getElem?_eq_getElem hlt)
      have e2 : vals[i] = val := by rw [List.getElem?_eq_getElem hlt'] at ev; exact Option.some.inj ev
      rw [e2]
      have tw : isTwo vs[i] = true := List.all_eq_true.mp two _ (List.getElem_mem hlt)
      generalize hvi : vs[i] = vi at rv tw
      unfold isTwo at tw
      split at tw
      case h_2 => cases tw
      rename_i u1 u2
      cases rv with
      | @lst _ wals b nb hb nmb rb =>
      cases rb with
      | @cons _ w1 _ _ r1 rb =>
      cases rb with
      | @cons _ w2 _ _ r2 rb =>
      cases rb
      rw [PyProof.Rows.assign_Tuple]
      refine wpAny_bind (wpAny_standAt ?_)
      unfold unpack
      refine wpAny_bind (wpAny_holding ?_)
      refine unpackItems_list (items := #[w1, w2]) hh (isList_of (hk5 _ _ hb)) fun h6 hs6 => ?_
      have hk6 : ∀ b o, h5.get? b = some o → h6.get? b = some o := fun b o e => hs6 b o (Nat.ne_of_lt (Heap.lt_size e)) e
      have acc5 : h5.get? A0 = some (lobj ys nn) := hs5.extBut A0 _ (Ne.symm IA) hacc'
      have ns5 : h5.Ns C mC := hns'.sameBut hs5 (Ne.symm IC)
      have ns6 : h6.Ns C mC := ns5.keeps hk6
      show wpAny _ _ (assignInOrder [assign (.Name x p2) cenv, assign (.Name y p3) cenv] [w1, w2]) _ _ _
      refine assignInOrder_cons (PyProof.Rows.assign_Name (wpAny_storeName_local (env := cenv) hx (hl.symm ▸ ns6) (fun h7 ns7 hs7 => ?_) nclass))
      refine assignInOrder_cons (PyProof.Rows.assign_Name (wpAny_storeName_local (env := cenv) hy ns7 (fun h8 ns8 hs8 => assignInOrder_nil ?_) nclass))
      rw [hl] at ns7 hs7 ns8 hs8
      refine wpAny_Name (wpAny_loadName_local hkd hx (hl.symm ▸ ns8) (v := w1) (by simp [hne]) ?_) hdb
      have acc8 : h8.get? A0 = some (lobj ys nn) := hs8.extBut A0 _ AC (hs7.extBut A0 _ AC (hk6 _ _ acc5))
      have keep8 : ∀ b o, h1.get? b = some o → h8.get? b = some o := fun b o e => hs8.extBut b o (ne e).2.2 (hs7.extBut b o (ne e).2.2 (hk6 _ _ (hk5 b o e)))
      have it8 : h8.IsListIter I a (i + 1) := ((hit5.at (hk6 _)).extBut hs7.extBut IC).extBut hs8.extBut IC
      refine append_at acc8 (fun h9 hs9 acc9 => ?_) (by
        have := rys.length
        rw [List.length_map, List.length_take] at this
        rw [List.size_toArray, ← this, sizeLine_eq]; omega)
      have keep9 : ∀ b o, h1.get? b = some o → h9.get? b = some o := fun b o e => hs9.extBut b o (ne e).2.1 (keep8 b o e)
      refine ⟨vs.length - (i + 1), by omega, h9, _, i + 1, ys ++ [w1], nn + 1, _, rfl, keep9, it8.extBut hs9.extBut IA, by rw [acc9]; simp [lobj], ns8.sameBut hs9 (Ne.symm AC), ?_, hlt, rfl⟩
      rw [List.take_succ_eq_append_getElem hlt, List.map_append, hvi]
      exact rys.append (.cons r1 .nil)
    · have e : i = vs.length := by omega
      refine wpAny_pyNext_list_end hh hit' hl' (by simp [← rs.length]; omega) fun h5 hs5 => ?_
      have hk5 : ∀ b o, h1.get? b = some o → h5.get? b = some o := fun b o e => hs5 b o (ne e).1 (hk b o e)
      have ns5 : h5.Ns C mC := by
        obtain ⟨o, es, ep, e1, r⟩ := hns'
        exact ⟨o, es, ep, hs5 _ _ (Ne.symm IC) e1, r⟩
      refine hR h5 tk' ys nn mC hk5 (hs5 _ _ (Ne.symm IA) hacc') ?_ ns5
      subst e
      rw [List.take_length] at rys
      obtain ⟨st5, x5⟩ := s.keepAll hk5
      exact rys.ext x5 hn0
  exact codeAny_compStart_list loop (wpAny_pyIter_listiter hit loop)
section
variable {Qn : Loc → Store → Prop} {Qr : V → Store → Prop} {ES : Int → Loc → Store → Prop}
theorem T1.assignComp {t x y : Str} {tp p1 p2 p3 p4 cpos : Pos} {kk : Nat} {iter : Expr} {scope : Scope} (hh : hd = none) (hsw : ∀ cn L a ccd, swapsWith (.ListComp (.Name x p1) [⟨.Tuple [.Name x p2, .Name y p3] kk p4, iter, [], 0⟩] scope cpos) (some (.Name t tp)) pos.line (envOf cn cs L a ccd) = pure true)
    (hf : ∀ env x, foldedSetIterable iter env x = pure x) (hkind : scope.kind = .function) (hx : scope.names.lookup x = some .local) (hy : scope.names.lookup y = some .local) (hall : (scope.names.all fun z => z.2 == .local) = true) (hlook : (scope.names.all fun z => scope.names.lookup z.1 == some .local) = true)
    (hne : x ≠ y) (ht : cs.names.lookup t = some .local)
    (hdb : (x == ("__debug__" : Str)) = false)
    (h : TE W cs k hd iter m σ (fun v σ' => ∃ vs, v = .lst vs ∧ vs.all isTwo = true ∧ vs.length ≤ 1000000 ∧ Qn (setV m t (.lst (vs.map fstOf))) σ') (fun p σ' => ES p m σ')) :
    T1 W cs k hd (.Assign [.Name t tp] (.ListComp (.Name x p1) [⟨.Tuple [.Name x p2, .Name y p3] kk p4, iter, [], 0⟩] scope cpos) pos) m σ Qn Qr ES := by
  intro c S₀ hp tk hc hh' ok s
  have hcn : c.A.handled = none := hh'.trans hh
  rw [exec_Assign_Name_used t tp _ pos (by rw [← hsw c.cn c.L c.a c.ccd, ← hc]; rfl)]
  refine wpAny_bind (wpAny_standAt (wpAny_bind ?_))
  have hnl : ∀ z ∈ scope.names, z.2 = .local := fun z hz => by have := List.all_eq_true.mp hall z hz; simpa using this
  rw [arm_evalThenUse_ListComp]
  refine wpAny_bind (wpAny_comprehension_use (Q := fun _ s' => wpAny _ _ (pure PUnit.unit) _ _ s') rfl (hf _) (fun z hz q => by rw [hnl z hz] at q; cases q) hkind (fun z hz _ => by have := List.all_eq_true.mp hlook z hz; simpa using this) ?_)
  refine wpAny_mono (h c S₀ hp tk hc hh' ok s) (fun xval s₁ z => ?_) fun _ _ z => ⟨m, z⟩
  obtain ⟨h1, tk1, σ1, xv, rfl, st1, x1, r1, vs, rfl, two, hz, q1⟩ := z
  cases r1 with
  | @lst _ vals a n ho nm rs =>
  have aold : a < h1.objs.size := Heap.lt_size ho
  refine wpAny_pyIter_list (isList_of ho) ?_
  refine wpAny_newObj_type (hd := by size_fits) ?_
  refine wpAny_newFunctionEnv (fun z hz q => by rw [hnl z hz] at q; cases q) (by intro y hy; simp at hy) (fun h4 hns4 hsb4 => ?_) hkind
  dsimp only at hns4 hsb4 ⊢
  have size1 : (h1.push { cls := .type "list_iterator", data := .fields #[.ref a, .int 0 0] }).objs.size = h1.objs.size + 1 := Heap.size_push ..
  have size2 : ((h1.push { cls := .type "list_iterator", data := .fields #[.ref a, .int 0 0] }).push { cls := .type "list", data := .seq (#[] : Array Value) }).objs.size = h1.objs.size + 2 := by rw [Heap.size_push, size1]
  have big : ∀ j, h1.objs.size ≤ j → h1.get? j = none := fun j hj => Heap.get?_none_of_le hj
  rw [size2] at hns4 hsb4 ⊢
  rw [size1]
  have up : ∀ b o, ((h1.push { cls := .type "list_iterator", data := .fields #[.ref a, .int 0 0] }).push { cls := .type "list", data := .seq (#[] : Array Value) }).get? b = some o → h4.get? b = some o := fun b o e =>
    hsb4.extBut b o (fun q => by have := Heap.lt_size e; rw [q, size2] at this; exact absurd this (Nat.lt_irrefl _)) (Heap.get?_push_of_some _ e)
  refine comp_core (cenv := { newEnv scope (h1.objs.size + 2) c.env.globals [] c.env.qual none .none (some c.env) builtinsNs with scope := scope }) (C := h1.objs.size + 2) (h1 := h1) (σ := σ1) hcn st1 ho nm rs two hz (I := h1.objs.size) (A0 := h1.objs.size + 1) (big _ (Nat.le_refl _)) (big _ (Nat.le_add_right _ 1)) (big _ (Nat.le_add_right _ 2)) (Nat.ne_of_lt (Nat.lt_add_of_pos_right (by decide))) (Nat.ne_of_lt (Nat.lt_add_of_pos_right (by decide))) (Nat.ne_of_lt (Nat.lt_succ_self _))
    (fun b o e => up b o (Heap.get?_push_of_some _ (Heap.get?_push_of_some _ e))) ⟨_, up _ _ (Heap.get?_push_of_some _ (Heap.get?_push_size _ rfl)), rfl, rfl⟩ (up _ _ (by rw [← size1]; exact Heap.get?_push_size _ rfl)) hns4 rfl hkind hx hy hne hdb fun h5 tk5 ys nn mC hk5 acc5 vr5 ns5 => ?_
  obtain ⟨st5, x5⟩ := st1.keepAll hk5
  have dead : ¬ Mut σ1 (h1.objs.size + 1) := st1.notMutNew (big _ (Nat.le_add_right _ _))
  have notL : h1.objs.size + 2 ≠ c.L := by
    obtain ⟨mm, F, _⟩ := st1.fr
    exact Nat.ne_of_gt (Nat.lt_of_lt_of_le F.ns.lt (Nat.le_add_right _ 2))
  refine PyProof.Rows.assign_Name (wp_store (v := .lst (vs.map fstOf)) ok st5 (.lst acc5 dead vr5) (hc ▸ ht) fun h6 st6 x6 => ?_)
  obtain ⟨mm5, F5, R5⟩ := id st5.fr
  obtain ⟨⟨sl6, e6⟩, hodd⟩ : (∃ mC, h6.Ns (h1.objs.size + 2) mC) ∧ ∀ o, h6.get? (h1.objs.size + 2) = some o → Odd o := by
    obtain ⟨o, es, ep, e1, r⟩ := ns5
    obtain ⟨sl, e2, _⟩ := x6.keep _ _ e1 (st1.notMutNew (big _ (Nat.le_add_right _ _))) notL
    refine ⟨⟨mC, _, es, ep, e2, r⟩, fun o' e' => ?_⟩
    rw [e2] at e'; cases e'
    exact .inr ⟨es, ep, r.1⟩
  refine ⟨_, e6, fun h7 hs7 => wpAny_pure (wpAny_pure ?_)⟩
  obtain ⟨o6, es6, ep6, e6a, hd6, _⟩ := e6
  have kk : ∀ b o, b ≠ h1.objs.size + 2 → h6.get? b = some o → h7.get? b = some o := fun b o nb e => hs7.extBut b o nb e
  have st7 := st6.free' (h' := h7) e6a (hodd o6 e6a) notL (fun b hb q => by
    obtain ⟨_, o, ho', _⟩ := st1.ff.mem hb
    rw [q, big _ (Nat.le_add_right _ _)] at ho'; cases ho') (st1.notMutNew (big _ (Nat.le_add_right _ _))) (by
    cases e : W.b.get? (h1.objs.size + 2) with
    | none => rfl
    | some o => have := st1.stays _ _ e; rw [big _ (Nat.le_add_right _ _)] at this; cases this) kk
  exact ⟨h7, _, σ1, _, rfl, st7, x1.trans ((x5.trans x6).free (big _ (Nat.le_add_right _ _)) kk), q1⟩
end
end Mine
end
section
open PySem PySem.W PySem.Spec PySem.Calls PyProof.Rows
set_option maxRecDepth 100000
namespace Mine
section
variable {M : Model} {A : Around} {E : Value → Shared → Prop} {h : Heap} {g : Array GenState} {d : Drawn} {t : Nat} {os : OsState}
variable {nm q : Str} {C N : Addr} {bs bm : List Value} {hdct : Bool} {sn : List Str} {sub : List Value} {ab : Bool} {col : Option Bool} {dd : Option Addr} {k0 k1 k2 k3 k5 : Option Value}
structure ExcCls (bm : List Value) : Prop where
  exc : bm.contains (.type "Exception") = true
  base : bm.contains (.type "BaseException") = true
  noAttr : bm.contains (.type "AttributeError") = false
  noName : bm.contains (.type "NameError") = false
  obj : bm.contains (.type "object") = true
theorem exc_check_new (F : ExcCls bm) {rest : List Value} {Q : Unit → Shared → Prop} (hC : h.get? C = some (excClassObj nm q C N bs bm hdct sn sub ab col dd k0 k1 k2 k3 k5 "Exception.__new__"))
    (hq : Q () ⟨h, g, d, t, os⟩) : wpAny M A (checkBuiltinCall "Exception.__new__" ⟨.ref C :: rest, []⟩) Q E ⟨h, g, d, t, os⟩ := by
  have Fn := PySem.F.excBase_Exception
  have hcont : (Value.ref C :: bm).contains (.type "Exception") = true := by rw [List.contains_cons, F.exc, Bool.or_true]
  have hstar := Fn.noStar
  simp only [checkBuiltinCall, Fn.newKind, Fn.newSplit, Fn.newRow]
  repeat (first | refine wpAny_loadPart_at hC ?_ | (refine wpAny_isSubtype_exc hC ?_; rw [hcont]) | refine wpAny_staticBase_exc hC ?_ | refine wpAny_madeBy_exc hC ?_ | simp only [bne_self_eq_false, Bool.false_eq_true, if_false] | wp_step)
  exact hq
end
section
variable {prog : Program} {w : World} {A : Around} {R : Result → Shared → Prop} {h : Heap} {g : Array GenState} {d : Drawn} {t : Nat} {os : OsState}
variable {nm q : Str} {C N : Addr} {bs bm : List Value} {hdct : Bool} {sn : List Str} {sub : List Value} {ab : Bool} {col : Option Bool} {dd : Option Addr} {k0 k1 k2 k3 k5 : Option Value}
noncomputable abbrev freshExc (C t : Nat) : Obj := { cls := .ref C, data := .fields #[.ref t, .none, .none, .none, .bool false, .none] }
theorem exc_new (F : ExcCls bm) {rest : List Value} (hC : h.get? C = some (excClassObj nm q C N bs bm hdct sn sub ab col dd k0 k1 k2 k3 k5 "Exception.__new__"))
    (hq : R (.ok (.ret (.ref (h.objs.size + 1)))) ⟨(h.push { cls := .type "tuple", data := .seq rest.toArray }).push (freshExc C h.objs.size), g, d, t, os⟩) (hrest : rest.length ≤ sizeLine) :
    codeAny (model prog w) A (.builtin "Exception.__new__" ⟨.ref C :: rest, []⟩) R ⟨h, g, d, t, os⟩ := by
  have Fn := PySem.F.excBase_Exception
  have hends := Fn.ends
  have hcB : (Value.ref C :: bm).contains (.type "Exception") = true := by rw [List.contains_cons, F.exc, Bool.or_true]
  have hcA : (Value.ref C :: bm).contains (.type "AttributeError") = false := by rw [List.contains_cons, F.noAttr]; rfl
  have hcN : (Value.ref C :: bm).contains (.type "NameError") = false := by rw [List.contains_cons, F.noName]; rfl
  refine codeAny_builtinAt Fn.entry ?_
  unfold Builtin.«BaseException.__new__»
  refine PySem.wpAt_bind ?_
  show PySem.wpAt _ _ _ (stack >>= _) _ _ _
  refine PySem.wpAt_bind (PySem.wpAt_stack fun p below => PySem.wpAt_of_wpAny ?_)
  wp_walk
  refine PySem.wpAt_of_wpAny ?_
  rw [Fn.owner]
  repeat (first | with_reducible refine wpAny_madeHere_exc Fn.canon hC ?_ | with_reducible refine wpAny_loadPart_at hC ?_ | (with_reducible refine wpAny_isSubtype_exc hC ?_; first | rw [hcB] | rw [hcA] | rw [hcN]) | wp_step)
  show R _ _
  rw [Heap.size_push]
  exact hq
theorem exc_make {K : Frag} {fI : Nat} (F : ExcCls bm) {rest : List Value} (X : K.In h) (hC : h.get? C = some (excClassObj nm q C N bs bm hdct sn sub ab col dd k0 k1 k2 k3 k5 "Exception.__new__"))
    (hi : findIn K (.ref C) "__init__" = some (some (.ref fI))) (hf : isFn K (.ref fI) = true) (hcall : specialIn K (.ref C) "__call__" = some (some (.builtin "type.__call__"))) (hrest : rest.length ≤ sizeLine)
    (hq : codeAny (model prog w) (A.under (.builtin "type.__call__" ⟨.ref C :: rest, []⟩)) (.call (.ref fI) ⟨.ref (h.objs.size + 1) :: rest, []⟩) (InitBack (h.objs.size + 1) R)
      ⟨(h.push { cls := .type "tuple", data := .seq rest.toArray }).push (freshExc C h.objs.size), g, d, t, os⟩) :
    codeAny (model prog w) A (.call (.ref C) ⟨rest, []⟩) R ⟨h, g, d, t, os⟩ := by
  have Fn := PySem.F.excBase_Exception
  refine codeAny_of_tree ?_
  show wpAny _ _ (callAny (.ref C) _) _ _ _
  refine nd_load hC ?_
  show wpAny _ _ (callAny.viaDunder (.ref C) _) _ _ _
  unfold callAny.viaDunder
  refine wpAny_bind ((looks_specialIn X hcall).at ?_)
  dsimp only
  rw [tc_bind]
  refine wpAny_bind (wpAny_pure (wpAny_bind (wpAny_pure ?_)))
  refine wpAny_pure (a := Fin.again (.call (.builtin "type.__call__") ⟨.ref C :: rest, []⟩)) (And.intro rfl ?_)
  refine codeAny_call_builtin_at (Code.quiet_builtin _ (by decide +kernel)) entry_typeCall (wpAny_check_type_call_sub hC ?_)
  unfold Builtin.«type.__call__»
  repeat (first | with_reducible refine wpAny_loadPart_at hC ?_ | with_reducible refine wpAny_madeBy_exc hC ?_ | wp_step)
  refine codeAny_call_builtin_code (Code.quiet_builtin _ Fn.quiet) (exc_check_new F hC ?_)
  refine exc_new F hC ?_ hrest
  have k : ∀ b o, h.get? b = some o → ((h.push { cls := .type "tuple", data := .seq rest.toArray }).push (freshExc C h.objs.size)).get? b = some o := fun b o e => Heap.get?_push_of_some _ (Heap.get?_push_of_some _ e)
  have hx : ((h.push { cls := .type "tuple", data := .seq rest.toArray }).push (freshExc C h.objs.size)).get? (h.objs.size + 1) = some (freshExc C h.objs.size) := by heap_get
  show wpAny _ _ _ _ _ _
  have hcC : (Value.ref C :: bm).contains (.ref C) = true := by simp
  have hC₁ := k _ _ hC
  have X₁ : K.In ((h.push { cls := .type "tuple", data := .seq rest.toArray }).push (freshExc C h.objs.size)) := X.keeps k
  have t1 : Looks (model prog w) ((h.push { cls := .type "tuple", data := .seq rest.toArray }).push (freshExc C h.objs.size)) (typeOf (.ref (h.objs.size + 1))) (.ref C) := (Looks.ld hx).andThen .now
  unfold isInstance
  refine wpAny_bind (wpAny_bind (t1.at (wpAny_isSubtype_exc hC₁ ?_)))
  rw [hcC]
  simp only [Bool.not_true, Bool.false_eq_true, if_false]
  unfold callSpecial? specialOf
  refine wpAny_bind (wpAny_holding (wpAny_bind (wpAny_bind (t1.at ((looks_findIn X₁ hi).at (wpAny_holding (wpAny_bind ((bind_fn X₁ _ (beq_iff_eq.mp hf)).at ?_))))))))
  refine wpAny_bind (wpAny_call (codeAny_mono hq fun r s' z => ?_))
  rcases r with e | (v | _ | _ | _) <;> first | exact z | exact z.elim | skip
  obtain ⟨rfl, z⟩ := z
  exact wpAny_pure (wpAny_pure z)
end
end Mine
end
section
open PySem PySem.W PySem.Spec PySem.Calls PyProof.Rows
set_option maxRecDepth 100000
namespace Mine
theorem putL_len (name : Str) (hsh : Int) (key v : Value) : ∀ es : List DictEntry, (putL name hsh key v es).length ≤ es.length + 1
  | [] => Nat.le_refl _
  | x :: r => by
    have := putL_len name hsh key v r
    unfold putL; split <;> simp <;> omega
section
open PySem.Builtin PySem.Builtin.ObjectAttr
variable {prog : Program} {w : World} {A : Around} {K : Frag} {C C' e : Nat} {R : Result → Shared → Prop} {s : Shared} {E : Value → Shared → Prop}
theorem store_dict {P : PySem.Fin → Shared → Prop} {d n : Nat} {es : List DictEntry} {name : Str} {tk : Tok} {v : Value} (D : s.heap.get? d = some (dictOf es n)) (hs : es.all (fun x => !x.refKey) = true) (hz : es.length ≤ 1000)
    (h : ∀ h', h'.get? d = some (dictOf (putL name (PyData.keyHash w.params name) (.str name s.toks) v es) (putN name es n)) → Heap.SameBut d s.heap h' → P (.done (.ret .none)) { s with heap := h', toks := s.toks + 1 }) :
    wpAny (model prog w) A (storeInDict d (.str name tk) name v) P E s := by
  unfold storeInDict
  refine wpAny_bind (wpAny_pure (wpAny_bind ?_))
  unfold nsSet
  refine wpAny_bind (wpAny_bind (wpAny_askSetting (wpAny_pure (wpAny_bind (wpAny_mkText (wpAny_bind (wpAny_loadPart D ?_)))))))
  dsimp only
  have c : (!es.toArray.any (·.key.isStr name) && es.toArray.any (·.refKey)) = false := by
    have : es.toArray.any (·.refKey) = false := by
      rw [← Array.any_toList, List.any_eq_false]
      intro x hx
      have := List.all_eq_true.mp hs x hx
      simpa using this
    rw [this, Bool.and_false]
  rw [aRefKeyMayBeTheName_at, c]
  have hup : Obj.putName name (PyData.keyHash w.params name) (.str name s.toks) v (dictOf es n) = dictOf (putL name (PyData.keyHash w.params name) (.str name s.toks) v es) (putN name es n) := putName_dict ..
  refine wpAny_updatePart D ?_
  have D' : (s.heap.update d (Obj.putName name (PyData.keyHash w.params name) (.str name s.toks) v)).get? d = some (dictOf (putL name (PyData.keyHash w.params name) (.str name s.toks) v es) (putN name es n)) := by
    rw [Heap.get?_update_self _ D (by rw [hup]; rfl), hup]
  have len := putL_len name (PyData.keyHash w.params name) (.str name s.toks) v es
  refine wpAny_bind (wpAny_lookBehind D' (pastItsLine_dict (by rw [List.size_toArray, sizeLine_eq]; omega)) ?_)
  exact wpAny_pure (h _ D' (Heap.SameBut.update ..))
theorem exc_osa {oe : Obj} {od : Option Obj} {cd : ClassData} {name : Str} {tk : Tok} {v : Value} (X : K.In s.heap) (I : InstAt s.heap e oe C od) (hc : clsIn K C = some cd) (hm : cd.mro = [.ref C, .ref C', .type "Exception", .type "BaseException", .type "object"])
    (hobj : mroIn K C (.type "object") = some true) (ht : takerIn K C name = some none)
    (h : ∀ b, wpAny (model prog w) A.in1 (storeInOwnDict (.ref e) (.ref C) (.str name tk) name v b)
      (fun fin s' => match fin with | .done f => R (.ok f) s' | .again c' => c'.quiet = true ∧ codeAny (model prog w) A c' R s') (fun e s' => R (.error e) s') s) :
    codeAny (model prog w) A (.call (.builtin "object.__setattr__") ⟨[.ref e, .str name tk, v], []⟩) R s := by
  have SF := PySem.F.store_object
  have sub : Looks (model prog w) s.heap (isInstance (.ref e) (.type "object")) true := I.type.andThen (looks_mroIn X hobj)
  refine codeAny_call_builtin SF.slot.plain SF.entry (@check_slot (model prog w) _ _ s "object.__setattr__" "object" "__setattr__" (.ref e) [.str name tk, v] [] _ SF.kind SF.split sub (SF.args (.ref e) (.str name tk) v) ?_)
  obtain ⟨attr, ha, hr⟩ := Option.bind_eq_some_iff.mp ht
  have hm' : Looks (model prog w) s.heap (mroOf (.ref C)) cd.mro := (looks_clsIn X hc).andThen .now
  have L3 : Looks (model prog w) s.heap (storeTaker? attr) none := by
    cases attr with
    | none => exact .now
    | some a =>
      obtain ⟨b, hb, hb'⟩ := Option.map_eq_some_iff.mp hr
      refine (looks_takesIn X hb).andThen ?_
      cases b
      · exact .now
      · cases hb'
  rw [osa_eq, refuse_eq]
  refine wpAny_bind (wpAny_bind (I.type.here (wpAny_bind (hm'.here ?_))))
  have hp : refuseLoop (.ref e) "__setattr__" cd.mro = pure () := by
    rw [hm, refuseLoop_ref, refuseLoop_ref]
    exact PySem.F.store_Exception.passes _
  rw [hp]
  exact wpAny_pure (wpAny_bind (I.type.here (wpAny_bind ((looks_findIn X ha).here (wpAny_bind (L3.here (h _)))))))
theorem exc_set1 {t : Nat} {cd : ClassData} {name : Str} {v : Value} {Q : Unit → Shared → Prop} (X : K.In s.heap) (he : s.heap.get? e = some (freshExc C t)) (hc : clsIn K C = some cd) (hm : cd.mro = [.ref C, .ref C', .type "Exception", .type "BaseException", .type "object"]) (hd : cd.hasDict = true)
    (hobj : mroIn K C (.type "object") = some true) (hs : findIn K (.ref C) "__setattr__" = some (some (.builtin "object.__setattr__"))) (ht : takerIn K C name = some none)
    (h : ∀ h' tk ky, h'.get? e = some { freshExc C t with dict := some s.heap.objs.size } → h'.get? s.heap.objs.size = some (dictOf [⟨PyData.keyHash w.params name, .str name ky, v⟩] 1) → (∀ b o, b ≠ e → s.heap.get? b = some o → h'.get? b = some o) → Q () { s with heap := h', toks := tk }) :
    wpAny (model prog w) A (setAttr (.ref e) name v) Q E s := by
  have I : InstAt s.heap e (freshExc C t) C none := ⟨he, rfl, rfl, trivial⟩
  refine set_plain X I hs (exc_osa (s := { s with toks := s.toks + 1 }) X I hc hm hobj ht fun b => ?_)
  unfold storeInOwnDict
  refine wpAny_bind (wpAny_pure (wpAny_bind (wpAny_bind (wpAny_loadPart he (wpAny_bind (Looks.here (s := { s with toks := s.toks + 1 }) (looks_clsIn X hc) ?_))))))
  rw [hd]
  show wpAny _ _ (alloc { cls := .type "dict", data := .dict #[] } >>= _) _ _ _
  refine wpAny_bind (wpAny_alloc ?_)
  refine wpAny_bind (wpAny_updatePart (Heap.get?_push_of_some _ he) ?_)
  have ne : e ≠ s.heap.objs.size := Nat.ne_of_lt (Heap.lt_size he)
  have he' : ((s.heap.push { cls := .type "dict", data := .dict #[] }).update e fun o => { o with dict := some s.heap.objs.size }).get? e = some { freshExc C t with dict := some s.heap.objs.size } :=
    Heap.get?_update_self _ (Heap.get?_push_of_some _ he) rfl
  have D : ((s.heap.push { cls := .type "dict", data := .dict #[] }).update e fun o => { o with dict := some s.heap.objs.size }).get? s.heap.objs.size = some (dictOf [] 0) :=
    (Heap.get?_update_other _ _ ne).trans (Heap.get?_push_size _ rfl)
  refine wpAny_pure ?_
  refine store_dict (s := { s with heap := (s.heap.push { cls := .type "dict", data := .dict #[] }).update e fun o => { o with dict := some s.heap.objs.size }, toks := s.toks + 1 }) D rfl (by simp) fun h' D' hb => ?_
  exact h h' _ _ (hb.extBut e _ ne he') D' fun b o be eb => hb.extBut b o (Nat.ne_of_lt (Heap.lt_size eb)) ((Heap.get?_update_other _ _ (Ne.symm be)).trans (Heap.get?_push_of_some _ eb))
theorem exc_set2 {oe : Obj} {d n : Nat} {es : List DictEntry} {cd : ClassData} {name : Str} {v : Value} {Q : Unit → Shared → Prop} (X : K.In s.heap) (he : s.heap.get? e = some oe) (hcls : oe.cls = .ref C) (hno : notCls oe = true) (hdi : oe.dict = some d) (D : s.heap.get? d = some (dictOf es n)) (hes : es.all (fun x => !x.refKey) = true) (hz : es.length ≤ 1000)
    (hc : clsIn K C = some cd) (hm : cd.mro = [.ref C, .ref C', .type "Exception", .type "BaseException", .type "object"]) (hd : cd.hasDict = true)
    (hobj : mroIn K C (.type "object") = some true) (hs : findIn K (.ref C) "__setattr__" = some (some (.builtin "object.__setattr__"))) (ht : takerIn K C name = some none)
    (h : ∀ h' tk ky, h'.get? d = some (dictOf (putL name (PyData.keyHash w.params name) (.str name ky) v es) (putN name es n)) → Heap.SameBut d s.heap h' → Q () { s with heap := h', toks := tk }) :
    wpAny (model prog w) A (setAttr (.ref e) name v) Q E s := by
  have I : InstAt s.heap e oe C (some (dictOf es n)) := ⟨he, hcls, hno, by rw [hdi]; exact D⟩
  refine set_plain X I hs (exc_osa (s := { s with toks := s.toks + 1 }) X I hc hm hobj ht fun b => ?_)
  obtain ⟨oc, odi, oda, osl⟩ := oe
  dsimp only at hcls hdi
  subst hcls hdi
  unfold storeInOwnDict
  refine wpAny_bind (wpAny_pure (wpAny_bind (wpAny_bind (wpAny_loadPart he (wpAny_bind (Looks.here (s := { s with toks := s.toks + 1 }) (looks_clsIn X hc) ?_))))))
  rw [hd]
  refine wpAny_pure (a := some d) ?_
  exact store_dict (s := { s with toks := s.toks + 1 }) D hes hz fun h' D' hb => h h' _ _ D' hb
end
end Mine
end
section
open PySem PySem.W PySem.Spec PySem.Calls PyProof.Rows
set_option maxRecDepth 100000
namespace Mine
variable {Kf : Params → Frag} {W : Wd Kf} {cs : Scope} {k : Nat} {hd : Option Value} {m : Loc} {σ : Store} {E : Int → Store → Prop} {Q : V → Store → Prop} {pos : Pos}
inductive FaultExc (K : Frag) (C : Nat) : Prop
  | mk : ∀ nm q N bs bm hdct sn sub ab col dd k0 k1 k2 k3 k5, K.lookup C = some (excClassObj nm q C N bs bm hdct sn sub ab col dd k0 k1 k2 k3 k5 "Exception.__new__") → ExcCls bm → FaultExc K C
inductive FaultInit (K : Frag) (C : Nat) : Prop
  | mk : ∀ fI, findIn K (.ref C) "__init__" = some (some (.ref fI)) → isFn K (.ref fI) = true → ∀ name qual params scope dV kV doc pm cdv ct oc an od osl p1 p2 p3 p4 p5 p6 p7 p8, K.lookup fI = some ⟨oc, od, .func (fnOf name qual params [.Assign [.Attribute (.Name "self" p1) "message" p2] (.Name "message" p3) p4, .Assign [.Attribute (.Name "self" p5) "place" p6] (.Name "place" p7) p8] scope dV kV doc pm an cdv ct), osl⟩ →
    codeIn K cdv qual = true →
    (∀ (s : Shared) (a b c : Value), BindsTo s (fnOf name qual params [.Assign [.Attribute (.Name "self" p1) "message" p2] (.Name "message" p3) p4, .Assign [.Attribute (.Name "self" p5) "place" p6] (.Name "place" p7) p8] scope dV kV doc pm an cdv ct) ⟨[a, b, c], []⟩ [("self", a), ("message", b), ("place", c)]) →
    (scope.names.all fun x => x.2 != .cell) = true →
    scope.isCoroutine = false →
    scope.isGenerator = false →
    scope.kind = .function →
    scope.names.lookup ("self" : Str) = some .local →
    scope.names.lookup ("message" : Str) = some .local →
    scope.names.lookup ("place" : Str) = some .local → FaultInit K C
theorem FaultInit.fn {K : Frag} {C : Nat} (F : FaultInit K C) : ∃ fI, findIn K (.ref C) "__init__" = some (some (.ref fI)) ∧ isFn K (.ref fI) = true := by
  cases F; exact ⟨_, by assumption, by assumption⟩
structure FaultCls (K : Frag) (C : Nat) : Prop where
  exc : FaultExc K C
  cls : ∃ cd C', clsIn K C = some cd ∧ cd.mro = [.ref C, .ref C', .type "Exception", .type "BaseException", .type "object"] ∧ cd.hasDict = true
  obj : mroIn K C (.type "object") = some true
  setattr : findIn K (.ref C) "__setattr__" = some (some (.builtin "object.__setattr__"))
  call : specialIn K (.ref C) "__call__" = some (some (.builtin "type.__call__"))
  tm : takerIn K C "message" = some none
  tp : takerIn K C "place" = some none
  init : FaultInit K C
noncomputable abbrev doneExc (C t d : Nat) : Obj := { freshExc C t with dict := some d }
noncomputable def twoEnts (hm hp : Int) (k1 k2 : Tok) (v1 v2 : Value) : List DictEntry := [⟨hm, .str "message" k1, v1⟩, ⟨hp, .str "place" k2, v2⟩]
theorem exc_init {s : Shared} {A : Around} {R : Result → Shared → Prop} {C e t : Nat} {v1 v2 : Value} (Fc : FaultCls (Kf W.w.params) C) (hb : ∀ b o, W.b.get? b = some o → s.heap.get? b = some o) (he : s.heap.get? e = some (freshExc C t)) (heb : W.b.get? e = none) (above : W.b.objs.size ≤ s.heap.objs.size) (hroom : A.depth < recursionLimit) {fI : Nat} (hfI : findIn (Kf W.w.params) (.ref C) "__init__" = some (some (.ref fI)))
    (h : ∀ h' tk d hm hp k1 k2, s.heap.get? d = none → h'.get? e = some (doneExc C t d) → h'.get? d = some (dictOf (twoEnts hm hp k1 k2 v1 v2) 2) → (∀ b o, b ≠ e → s.heap.get? b = some o → h'.get? b = some o) → R (.ok (.ret .none)) { s with heap := h', toks := tk }) :
    codeAny (model W.prog W.w) A (.call (.ref fI) ⟨[.ref e, v1, v2], []⟩) R s := by
  obtain ⟨cd, C', hcd1, hmro, hdict⟩ := Fc.cls
  have hobj := Fc.obj; have hset := Fc.setattr; have htm := Fc.tm; have htp := Fc.tp
  obtain ⟨fI', hfI', _, name, qual, params, scope, dV, kV, doc, pm, cdv, ct, oc, an, od, osl, p1, p2, p3, p4, p5, p6, p7, p8, ho, hcd, hbind, hcell, hco, hgen, hk, l1, l2, l3⟩ := Fc.init
  rw [hfI] at hfI'
  cases hfI'
  have X : (Kf W.w.params).In s.heap := W.X.keeps hb
  refine codeAny_call_def (fd := fnOf name qual params _ scope dV kV doc pm an cdv ct) hroom (X _ _ ho) rfl (W.T.nolimit.keeps hb) (codeRec_of X hcd) rfl (hbind _ _ _ _) (fun x hx => by simpa using List.all_eq_true.mp hcell x hx) (fun x hx => ?_) (fun h₁ hn hkeep => ?_) hco hgen hk
  · simp only [List.mem_cons, List.not_mem_nil, or_false] at hx
    rcases hx with rfl | rfl | rfl <;> assumption
  · have F : Fr W.b s.heap.objs.size h₁ (fun x => ([(("self" : Str), Value.ref e), ("message", v1), ("place", v2)] : List (Str × Value)).reverse.lookup x) := ⟨hn, fun b o q => hkeep b o (hb b o q), above⟩
    have eL : e ≠ s.heap.objs.size := Nat.ne_of_lt (Heap.lt_size he)
    refine wpAny_execs_cons (plainObj_wpAny_Assign_Attribute (ld F (v := v1) (by rfl) (ld F (v := .ref e) (by rfl) ?_ hk l1) hk l2))
    refine exc_set1 (s := { s with heap := h₁, toks := s.toks + 3 }) (W.X.keeps F.keep) (hkeep _ _ he) hcd1 hmro hdict hobj hset htm fun h₂ tk2 ky2 e2 d2 k2 => ?_
    have F2 : Fr W.b s.heap.objs.size h₂ _ := ⟨Ns.upTo F.ns fun o q => ⟨o.slots, k2 _ _ (Ne.symm eL) q⟩, fun b o q => k2 b o (fun z => by rw [z, heb] at q; cases q) (F.keep b o q), F.above⟩
    refine wpAny_execs_cons (plainObj_wpAny_Assign_Attribute (ld F2 (v := v2) (by rfl) (ld F2 (v := .ref e) (by rfl) ?_ hk l1) hk l3))
    refine exc_set2 (s := { s with heap := h₂, toks := tk2 }) (oe := doneExc C t _) (W.X.keeps F2.keep) e2 rfl rfl rfl d2 rfl (by simp) hcd1 hmro hdict hobj hset htp fun h₃ tk3 ky3 d3 hs3 => ?_
    refine wpAny_execs_nil ?_
    have dn : h₁.objs.size ≠ e := fun z => by have := Heap.lt_size (hkeep _ _ he); rw [← z] at this; exact Nat.lt_irrefl _ this
    refine h h₃ tk3 h₁.objs.size _ _ ky2 ky3 ?_ (hs3.extBut e _ (Ne.symm dn) e2) (by rw [d3]; rfl) fun b o be q => ?_
    · cases z : s.heap.get? h₁.objs.size with
      | none => rfl
      | some o => exact absurd (Heap.lt_size (hkeep _ _ z)) (Nat.lt_irrefl _)
    · have q1 := hkeep b o q
      exact hs3.extBut b o (Nat.ne_of_lt (Heap.lt_size q1)) (k2 b o be q1)
end Mine
end
section
open PySem PySem.W PySem.Spec PySem.Calls PyProof.Rows
set_option maxRecDepth 100000
namespace Mine
variable {Kf : Params → Frag} {W : Wd Kf} {cs : Scope} {k : Nat} {hd : Option Value} {m : Loc} {σ : Store} {E : Int → Store → Prop} {Q : V → Store → Prop} {pos : Pos}
theorem St.alloc2 {c : Cx} {h h' : Heap} {a : Nat} {cl : Cell} (s : St W c σ m h) (hL : ∀ mm, h.Ns c.L mm → h'.Ns c.L mm) (hkM : ∀ b o, Mut σ b → h.get? b = some o → h'.get? b = some o) (hkB : ∀ b o, W.b.get? b = some o → h'.get? b = some o)
    (hkE : ∀ b o, h.get? b = some o → ¬ Mut σ b → b ≠ c.L → ∃ sl, h'.get? b = some { o with slots := sl } ∧ ((∀ es n, o.data ≠ .dict es n) → sl = o.slots)) (ha : h.get? a = none) (hm : ∀ d ∈ cl.more, h.get? d = none ∧ d ≠ a)
    (new : Ext c.L σ h (upd σ a cl) h' → CellAt h' (upd σ a cl) a cl) : St W c (upd σ a cl) m h' ∧ Ext c.L σ h (upd σ a cl) h' := by
  have dead : ∀ {b}, h.get? b = none → ¬ Mut σ b := fun e q => by obtain ⟨o, z⟩ := s.alive q; rw [e] at z; cases z
  have notL : ∀ {b}, h.get? b = none → b ≠ c.L := fun e q => by
    obtain ⟨mm, o, _, _, ho, _⟩ := s.ns
    rw [q, ho] at e; cases e
  have mutB : ∀ b, Mut (upd σ a cl) b → Mut σ b ∨ (h.get? b = none ∧ (b = a ∨ b ∈ cl.more)) := fun b q => by
    rcases q with ⟨x, q⟩ | ⟨y, x, q, hmm⟩
    · by_cases ba : b = a
      · exact .inr ⟨ba ▸ ha, .inl ba⟩
      · rw [upd_ne _ _ ba] at q; exact .inl (mut_at q)
    · by_cases ya : y = a
      · subst ya; rw [upd_self] at q; cases q; exact .inr ⟨(hm b hmm).1, .inr hmm⟩
      · rw [upd_ne _ _ ya] at q; exact .inl (mut_more q hmm)
  have x : Ext c.L σ h (upd σ a cl) h' := ⟨fun b o eb n l => hkE b o eb n l, fun b q => (mutB b q).imp id fun z => ⟨z.1, notL z.1⟩⟩
  obtain ⟨mm, hn⟩ := s.ns
  have sa : σ a = none := by
    cases z : σ a with
    | none => rfl
    | some q => exact absurd (mut_at z) (dead ha)
  refine ⟨s.move x hL hkB (fun b cb eb => ?_) (fun b q nq => ?_) (fun y cy d q hmd => ?_), x⟩
  · by_cases ba : b = a
    · subst ba; rw [upd_self] at eb; cases eb; exact new x
    · rw [upd_ne _ _ ba] at eb
      obtain ⟨⟨ob, hb⟩, hm'⟩ := s.own eb
      exact (s.cells b cb eb).move x hn ((hkM b ob (mut_at eb) hb).trans hb.symm) fun d hd => let ⟨od, e⟩ := hm' d hd; (hkM d od (mut_more eb hd) e).trans e.symm
  · rcases mutB b q with z | z
    · exact absurd z nq
    · refine ⟨?_, fun hb => ?_⟩
      · cases zz : W.b.get? b with
        | none => rfl
        | some o => have := s.stays _ _ zz; rw [z.1] at this; cases this
      · obtain ⟨_, o, ho, _⟩ := s.ff.mem hb
        rw [z.1] at ho; cases ho
  · by_cases ya : y = a
    · subst ya; rw [upd_self] at q; cases q
      obtain ⟨hd0, hda⟩ := hm d hmd
      refine ⟨?_, fun y' c' q' hm' => ?_⟩
      · rw [upd_ne _ _ hda]
        cases z : σ d with
        | none => rfl
        | some q => exact absurd (mut_at z) (dead hd0)
      · by_cases yy : y' = y
        · exact yy
        · rw [upd_ne _ _ yy] at q'; exact absurd (mut_more q' hm') (dead hd0)
    · rw [upd_ne _ _ ya] at q
      obtain ⟨z1, z2⟩ := s.sep y cy d q hmd
      obtain ⟨od, ed⟩ := (s.own q).2 d hmd
      have da : d ≠ a := fun z => by rw [z, ha] at ed; cases ed
      refine ⟨by rw [upd_ne _ _ da]; exact z1, fun y' c' q' hm' => ?_⟩
      by_cases yy : y' = a
      · subst yy; rw [upd_self] at q'; cases q'
        have := (hm d hm').1; rw [ed] at this; cases this
      · rw [upd_ne _ _ yy] at q'; exact z2 y' c' q' hm'
section
variable {M : Model} {A : Around} {EE : Value → Shared → Prop} {env : Env}
variable {nm q : Str} {C N : Addr} {bs bm : List Value} {hdct : Bool} {sn : List Str} {sub : List Value} {ab : Bool} {col : Option Bool} {dd : Option Addr} {k0 k1 k2 k3 k5 : Option Value} {newId : String}
theorem raise_made {s : Shared} {x : Sem Value} {Q : Flow → Shared → Prop} (hbase : bm.contains (.type "BaseException") = true) (hh : A.handled = none)
    (h : wpAny M A x (fun v s₁ => ∃ e t d, v = .ref e ∧ s₁.heap.get? C = some (excClassObj nm q C N bs bm hdct sn sub ab col dd k0 k1 k2 k3 k5 newId) ∧ s₁.heap.get? e = some (doneExc C t d) ∧ EE (.ref e) s₁) EE s) :
    wpAny M A (raiseStmt env (some x) none) Q EE s := by
  have hcB : (Value.ref C :: bm).contains (.type "BaseException") = true := by rw [List.contains_cons, hbase, Bool.or_true]
  unfold raiseStmt
  refine wpAny_bind (wpAny_mono h (fun v s₁ h₁ => ?_) fun _ _ x => x)
  obtain ⟨e, t, d, rfl, hC, he, hE⟩ := h₁
  obtain ⟨hp, g, d, tk, os⟩ := s₁
  repeat (first | with_reducible refine wpAny_loadPart_at he ?_ | with_reducible refine wpAny_loadPart_at hC ?_ | (with_reducible refine wpAny_isSubtype_exc hC ?_; rw [hcB]) | wp_step)
  exact wpAny_raiseNew_none hh hE
end
end Mine
end
section
open PySem PySem.W PySem.Spec PySem.Calls PyProof.Rows
set_option maxRecDepth 100000
namespace Mine
variable {Kf : Params → Frag} {W : Wd Kf} {cs : Scope} {k : Nat} {hd : Option Value} {m : Loc} {σ : Store} {E : Int → Store → Prop} {Q : V → Store → Prop} {pos : Pos}
theorem note0 {M : Model} {A : Around} {EE : Value → Shared → Prop} {Q : Unit → Shared → Prop} {outer : List Env} {env : Env} {b₀ : Heap} {S₀ : Shared} {h : Heap} {tk e C t d L : Nat} (hA : A.frames = some (env :: outer)) (hfr : env.frame = some L) (fr : h.FunFrames b₀ (env :: outer)) (he : h.get? e = some (doneExc C t d))
    (q : ∀ (h₁ F : Heap) (ob : Obj) (ts : Array Value), (∀ b, b ∉ (env :: outer).filterMap (·.frame) → h.get? b = h₁.get? b) → (∀ b o, h.get? b = some o → ∃ sl, h₁.get? b = some { o with slots := sl }) →
      ob.cls = .type "traceback" → ob.data = .fields ts → 3 < ts.size → F.get? h₁.objs.size = some ob → F.get? e = some { doneExc C t d with data := .fields #[.ref t, .ref h₁.objs.size, .none, .none, .bool false, .none] } → (∀ b o, b ≠ e → h₁.get? b = some o → F.get? b = some o) →
      Q () { S₀ with heap := F, toks := tk }) : wpAny M A (noteFrame (.ref e) env) Q EE { S₀ with heap := h, toks := tk } := by
  unfold noteFrame
  simp only [hfr]
  refine wpAny_bind (wpAny_field he rfl (x := .none) rfl ?_)
  rw [if_neg (show ¬ ((Value.none != Value.none) = true) from by simp)]
  refine wpAny_bind ?_
  refine wpAny_frameOf_fun hA fr hfr fun h₁ hs₁ => ?_
  refine wpAny_bind (wpAny_entryPlaceOf fun pl hpl => ?_)
  unfold EntryCells.newEntry newFields
  refine wpAny_bind (wpAny_newObj_type ?_ (hpl.sizeOk5 _ _ _ _ _))
  have nf : e ∉ (env :: outer).filterMap (·.frame) := fun hb => by
    obtain ⟨_, o, ho, hnf⟩ := fr.mem hb
    rw [he] at ho; cases ho; exact hnf _ rfl
  have he1 : h₁.get? e = some (doneExc C t d) := (hs₁.2.1 e nf).trans he
  refine wpAny_setField (Heap.get?_push_of_some _ he1) rfl (by simp) ?_
  have hen : h₁.objs.size ≠ e := fun z => by have := Heap.lt_size he1; rw [z] at this; exact Nat.lt_irrefl _ this
  refine q h₁ _ { cls := .type "traceback", data := .fields ([Value.none, .ref L, .none, rawInt L, .none] ++ (if pl.isEmpty = true then List.replicate 6 Value.none else pl)).toArray } ([Value.none, .ref L, .none, rawInt L, .none] ++ (if pl.isEmpty = true then List.replicate 6 Value.none else pl)).toArray (fun b hb => (hs₁.2.1 b hb).symm) hs₁.2.2 ?_ ?_ ?_ ((Heap.get?_update_other _ _ (Ne.symm hen)).trans (Heap.get?_push_size _ ?_)) (Heap.get?_update_self _ (Heap.get?_push_of_some _ he1) rfl) fun b o be eb => (Heap.get?_update_other _ _ (Ne.symm be)).trans (Heap.get?_push_of_some _ eb)
  · rfl
  · rfl
  · simp only [List.size_toArray, List.length_append, List.length_cons, List.length_nil]; omega
  · rfl
theorem CO.raise {f : Nat} {vs : List V} {name qual : Str} {params : Arguments} {x : Str} {np cpos rpos : Pos} {args : List Expr} {scope : Scope} {dV kV doc pm cdv ct oc : Value} {an od : Option Addr} {osl : Array (Option Value)} {ns : List Str}
    (Fc : FaultCls (Kf W.w.params) 63) (hX : nsIn (Kf W.w.params) mainGlobals x = some (some (.ref 63))) (hx : scope.names.lookup x = some .globalImplicit) (hkp : keepIn (Kf W.w.params) (.ref 63) = true) (hpl : plainArgs args = true)
    (ho : (Kf W.w.params).lookup f = some ⟨oc, od, .func (fnOf name qual params [.Raise (some (.Call (.Name x np) args [] cpos)) none rpos] scope dV kV doc pm an cdv ct), osl⟩) (hcd : codeIn (Kf W.w.params) cdv qual = true)
    (hbind : ∀ (s : Shared) (vals : List Value), (Kf W.w.params).In s.heap → VRs s.heap σ vs vals → BindsTo s (fnOf name qual params [.Raise (some (.Call (.Name x np) args [] cpos)) none rpos] scope dV kV doc pm an cdv ct) ⟨vals, []⟩ (ns.zip vals)) (hloc : (ns.all fun y => scope.names.lookup y == some .local) = true)
    (hnd : ns.Nodup) (hcell : (scope.names.all fun x => x.2 != .cell) = true) (hco : scope.isCoroutine = false) (hgen : scope.isGenerator = false) (hk : scope.kind = .function)
    (h : TEs W scope (k + 2) none args cpos (ns.zip vs) σ (fun us σ' => ∃ msg p, us = [msg, .int p] ∧ FgE E p σ') (FgE E)) (hdb : (x == ("__debug__" : Str)) = false := by decide) : CO W (k + 3) f vs σ Q E := by
  intro c S₀ hp tk m vals hh ok s r
  refine codeAny_call_def (fd := fnOf name qual params _ scope dV kV doc pm an cdv ct) (binds := ns.zip vals) (Nat.lt_of_le_of_lt (Nat.le_add_right _ _) ok.dp) (s.X _ _ ho) rfl (W.T.nolimit.keeps s.stays) (codeRec_of s.X hcd) rfl (hbind _ _ s.X r)
    (fun x hx => by simpa using List.all_eq_true.mp hcell x hx) (fun x hx => by have := List.all_eq_true.mp hloc x.1 (List.of_mem_zip (a := x.1) (b := x.2) hx).1; simpa using this) (fun h₁ hn hkeep => ?_) hco hgen hk
  obtain ⟨st, ex⟩ := s.enter (f := f) (qual := qual) (scope := scope) (cdv := cdv) ok.fn hnd r hn hkeep
  have ok' : (c.call hp.objs.size f qual scope cdv).Ok (k + 2) := ⟨by have := ok.dp; show c.dp + 1 + (k + 2) < _; omega, by have := ok.un; show c.un + 3 + 8 * (k + 2) + 8 < _; omega, hk⟩
  obtain ⟨nm, q, N, bs, bm, hdct, sn, sub, ab, col, dd, k0, k1, k2, k3, k5, hC63, Fx⟩ := Fc.exc
  obtain ⟨fI, hfI, hfn⟩ := Fc.init.fn
  have hcall := Fc.call
  have out : ∀ (e t d : Nat) (S₂ : Store) (h₂ h₃ : Heap) (tk₃ : Nat) (msg : V) (p : Int) (w1 w2 : Value) (a1 a2 : Int) (b1 b2 : Tok), St W (c.call hp.objs.size f qual scope cdv) S₂ (ns.zip vs) h₂ → Ext hp.objs.size σ h₁ S₂ h₂ → VR h₂ S₂ msg w1 → VR h₂ S₂ (.int p) w2 → FgE E p S₂ →
      h₂.get? e = none → h₂.get? d = none → e ≠ d → h₃.get? e = some (doneExc 63 t d) → h₃.get? d = some (dictOf (twoEnts a1 a2 b1 b2 w1 w2) 2) → (∀ b o, h₂.get? b = some o → h₃.get? b = some o) →
      wpAny (model W.prog W.w) (c.call hp.objs.size f qual scope cdv).A (leaving (c.call hp.objs.size f qual scope cdv).env (.ref e)) (fun _ s'' => ExcP W c S₀ σ hp m E (.ref e) s'') (fun e' s'' => ExcP W c S₀ σ hp m E e' s'') { S₀ with heap := h₃, toks := tk₃ } := by
    intro e t d S₂ h₂ h₃ tk₃ msg p w1 w2 a1 a2 b1 b2 st2 x2 r1 r2 q2 ne nd ned e3 d3 k3'
    have fr2 := st2.frames hk
    have fr3 : h₃.FunFrames W.b ((c.call hp.objs.size f qual scope cdv).env :: (c.call hp.objs.size f qual scope cdv).outer) := fr2.of_keeps fun b o hb _ => ⟨o, k3' b o hb, rfl⟩
    unfold leaving
    refine wpAny_bind (note0 (C := 63) (L := hp.objs.size) rfl rfl fr3 e3 fun h4 F ob ts hs1 hs2 oc1 oc2 oc3 fT fe hk5 => ?_)
    generalize hT : h4.objs.size = T at fT fe
    have eAl : ∃ o, h4.get? e = some o := let ⟨sl, z⟩ := hs2 _ _ e3; ⟨_, z⟩
    have dAl : ∃ o, h4.get? d = some o := let ⟨sl, z⟩ := hs2 _ _ d3; ⟨_, z⟩
    have alive4 : ∀ b o, h4.get? b = some o → b ≠ T := fun b o z => by rw [← hT]; exact Nat.ne_of_lt (Heap.lt_size z)
    have eT : e ≠ T := let ⟨o, z⟩ := eAl; alive4 _ _ z
    have dT : d ≠ T := let ⟨o, z⟩ := dAl; alive4 _ _ z
    have alive2 : ∀ b o, h₂.get? b = some o → b ≠ e ∧ b ≠ d ∧ b ≠ T := fun b o z => ⟨fun q => (by rw [q, ne] at z; cases z), fun q => (by rw [q, nd] at z; cases z), let ⟨sl, w⟩ := hs2 _ _ (k3' b o z); alive4 _ _ w⟩
    have T2 : h₂.get? T = none := by
      cases z : h₂.get? T with
      | none => rfl
      | some o => exact absurd rfl (alive2 _ _ z).2.2
    unfold setFlight
    refine wpAny_bind (wpAny_field fe rfl (x := .ref T) rfl ?_)
    rw [if_pos (show (Value.ref T != Value.none) = true from by simp)]
    refine wpAny_setField fT oc2 oc3 ?_
    have own := Heap.get?_update_self (Obj.mapFields (·.setIfInBounds 3 Value.none)) fT (Obj.isFreed_of_fields (Obj.data_mapFields oc2 _))
    have other : ∀ b, b ≠ T → (F.update T (Obj.mapFields (·.setIfInBounds 3 Value.none))).get? b = F.get? b := fun b hb => Heap.get?_update_other _ _ (Ne.symm hb)
    show ExcP W c S₀ σ hp m E (.ref e) { S₀ with heap := F.update T (Obj.mapFields (·.setIfInBounds 3 Value.none)), toks := tk₃ }
    generalize hG : F.update T (Obj.mapFields (·.setIfInBounds 3 Value.none)) = G at own other
    have step : ∀ b o, h₂.get? b = some o → (b ∉ ((c.call hp.objs.size f qual scope cdv).env :: (c.call hp.objs.size f qual scope cdv).outer).filterMap (·.frame) → G.get? b = some o) ∧ ∃ sl, G.get? b = some { o with slots := sl } := fun b o z => by
      obtain ⟨be, bd, bT⟩ := alive2 b o z
      have z3 := k3' b o z
      refine ⟨fun nf => ?_, ?_⟩
      · rw [other b bT]; exact hk5 b o be ((hs1 b nf).symm.trans z3)
      · obtain ⟨sl, z4⟩ := hs2 b o z3
        exact ⟨sl, by rw [other b bT]; exact hk5 b _ be z4⟩
    have eG : G.get? e = some { doneExc 63 t d with data := .fields #[.ref t, .ref T, .none, .none, .bool false, .none] } := (other e eT).trans fe
    have nfd : d ∉ ((c.call hp.objs.size f qual scope cdv).env :: (c.call hp.objs.size f qual scope cdv).outer).filterMap (·.frame) := fun hb => by
      obtain ⟨_, o, ho, _⟩ := fr2.mem hb
      rw [nd] at ho; cases ho
    have dG : G.get? d = some (dictOf (twoEnts a1 a2 b1 b2 w1 w2) 2) := (other d dT).trans (hk5 d _ (Ne.symm ned) ((hs1 d nfd).symm.trans d3))
    have mutF : ∀ b, Mut S₂ b → b ∉ ((c.call hp.objs.size f qual scope cdv).env :: (c.call hp.objs.size f qual scope cdv).outer).filterMap (·.frame) := fun b q hb => by
      obtain ⟨g1, g2, g3⟩ := st2.fresh b q
      rw [List.filterMap_cons] at hb
      rcases List.mem_cons.mp hb with z | z
      · exact g2 z
      · exact g3 z
    have nonD : ∀ b o, h₂.get? b = some o → (∀ es n, o.data ≠ .dict es n) → b ∉ ((c.call hp.objs.size f qual scope cdv).env :: (c.call hp.objs.size f qual scope cdv).outer).filterMap (·.frame) := fun b o z nd' hb => by
      rw [List.filterMap_cons] at hb
      rcases List.mem_cons.mp hb with y | y
      · obtain ⟨mm, hns⟩ := st2.ns
        exact ne_of_ns hns z nd' y
      · obtain ⟨es, n, q⟩ := st2.fd b y o z
        exact nd' es n q
    obtain ⟨mm2, hn2⟩ := st2.ns
    obtain ⟨st3, x3⟩ := st2.alloc2 (a := e) (cl := faultOf d T msg p) (h' := G) (fun mm hns => Ns.upTo hns fun o z => (step _ o z).2) (fun b o q z => (step b o z).1 (mutF b q)) (fun b o z => (step b o (st2.stays _ _ z)).1 fun hb => by rw [(fr2.mem hb).1] at z; cases z)
      (fun b o z _ _ => by
        obtain ⟨sl, w⟩ := (step b o z).2
        by_cases hb : b ∈ ((c.call hp.objs.size f qual scope cdv).env :: (c.call hp.objs.size f qual scope cdv).outer).filterMap (·.frame)
        · exact ⟨sl, w, fun q => absurd hb (nonD b o z q)⟩
        · exact ⟨o.slots, (step b o z).1 hb, fun _ => rfl⟩) ne (fun y hy => by
        rcases hy with _ | ⟨_, _ | ⟨_, hy⟩⟩
        · exact ⟨nd, Ne.symm ned⟩
        · exact ⟨T2, Ne.symm eT⟩
        · cases hy) fun x3 => ⟨⟨_, _, eG, rfl, rfl, rfl, rfl⟩, ⟨_, _, own, (Obj.cls_mapFields ..).trans oc1, Obj.data_mapFields oc2 _, by simpa using oc3⟩, _, _, dG, ⟨b1, rfl⟩, r1.ext x3 hn2, ⟨b2, rfl⟩, r2.ext x3 hn2, trivial⟩
    obtain ⟨st4, x4⟩ := s.back hkeep st3 (x2.trans x3)
    refine ExcP.sub ⟨G, tk₃, S₂, e, d, T, msg, p, rfl, st4, x4, rfl, ⟨_, _, own, Obj.data_mapFields oc2 _, .inl (by simp [oc3])⟩, ?_, q2⟩
    cases z : S₂ e with
    | none => rfl
    | some cl => obtain ⟨o, w⟩ := st2.alive (mut_at z); rw [ne] at w; cases w
  have hh' : (c.call hp.objs.size f qual scope cdv).hd = none := hh
  have outE : ∀ (S₂ : Store) (h₂ : Heap) (val : Value) (s' : Shared), Ext hp.objs.size σ h₁ S₂ h₂ → ExcP W (c.call hp.objs.size f qual scope cdv) S₀ S₂ h₂ (ns.zip vs) (FgE E) val s' →
      wpAny (model W.prog W.w) (c.call hp.objs.size f qual scope cdv).A (leaving (c.call hp.objs.size f qual scope cdv).env val) (fun _ s'' => ExcP W c S₀ σ hp m E val s'') (fun e' s'' => ExcP W c S₀ σ hp m E e' s'') s' := by
    intro S₂ h₂ val s' x y
    obtain ⟨h', tk', σ', e, d, T, msg, p, rfl, st', x', rfl, fl, he, q⟩ := y.lift x
    refine wp_leave (c := c.call hp.objs.size f qual scope cdv) hk rfl st' he fl fun h2 T2 st2 x2 t => ?_
    obtain ⟨st3, x3⟩ := s.back hkeep st2 (x'.trans x2)
    obtain ⟨oT, ts, g1, g2, g3⟩ := t
    exact ExcP.sub ⟨h2, tk', σ', e, d, T2, msg, p, rfl, st3, x3, rfl, ⟨oT, ts, g1, g2, .inl g3⟩, he, q⟩
  refine wpAny_execs_cons ?_
  rw [arm_exec_Raise]
  simp only [evalOpt, Option.map]
  refine wpAny_bind (wpAny_standAt (raise_made (C := 63) (nm := nm) (q := q) (N := N) (bs := bs) (bm := bm) (hdct := hdct) (sn := sn) (sub := sub) (ab := ab) (col := col) (dd := dd) (k0 := k0) (k1 := k1) (k2 := k2) (k3 := k3) (k5 := k5) (newId := "Exception.__new__") Fx.base hh' ?_))
  refine wpAny_bind (wpAny_mono (Q := fun v s₁ => ∃ e t d, v = Value.ref e ∧ s₁.heap.get? 63 = some (excClassObj nm q 63 N bs bm hdct sn sub ab col dd k0 k1 k2 k3 k5 "Exception.__new__") ∧ s₁.heap.get? e = some (doneExc 63 t d) ∧ wpAny (model W.prog W.w) (c.call hp.objs.size f qual scope cdv).A (leaving (c.call hp.objs.size f qual scope cdv).env (.ref e)) (fun _ s'' => ExcP W c S₀ σ hp m E (.ref e) s'') (fun e' s'' => ExcP W c S₀ σ hp m E e' s'') s₁) ?_ (fun v s₃ h₃ => wpAny_bind (wpAny_standAt (wpAny_pure h₃))) fun _ _ x => x)
  refine wpAny_Call_ofName (wpAny_mono (TE.global (m := ns.zip vs) (σ := σ) (W := W) (k := k + 2) (cs := scope) (hd := none) (E := FgE E) (Q := fun v σ' => v = .obj 63 ∧ σ' = σ) hX (fun _ _ => .obj 63) hx ⟨rfl, rfl⟩ hdb (c.call hp.objs.size f qual scope cdv) S₀ h₁ _ rfl hh ok' st) (fun v s₁ z => ?_) fun _ _ z => ?_)
  · obtain ⟨h2, tk2, σ2, v2, rfl, st2, x2, r2, rfl, rfl⟩ := z
    cases r2
    refine wp_callWith (c := c.call hp.objs.size f qual scope cdv) (.ref hkp) (plainArgs_any hpl _ _) (wpAny_mono (h (c.call hp.objs.size f qual scope cdv) S₀ h2 tk2 rfl hh ok' st2) (fun vals2 s₂ z => ?_) fun val s' z => ?_)
    · obtain ⟨h3, tk3, σ3, us, rfl, st3, x3, r3, msg, p, rfl, q3⟩ := z
      refine ⟨st3.X, ?_⟩
      cases r3 with
      | @cons _ w1 _ _ r31 r3 =>
      cases r3 with
      | @cons _ w2 _ _ r32 r3 =>
      cases r3
      refine wpAny_call (exc_make (K := Kf W.w.params) Fx st3.X (st3.X _ _ hC63) hfI hfn hcall (by rw [sizeLine_eq]; simp) ?_)
      have keep : ∀ b o, h3.get? b = some o → ((h3.push { cls := .type "tuple", data := .seq ([w1, w2] : List Value).toArray }).push (freshExc 63 h3.objs.size)).get? b = some o := fun b o z => Heap.get?_push_of_some _ (Heap.get?_push_of_some _ z)
      have small : ∀ b o, h3.get? b = some o → b ≠ h3.objs.size + 1 := fun b o z => Nat.ne_of_lt (Nat.lt_succ_of_lt (Heap.lt_size z))
      have hx : ((h3.push { cls := .type "tuple", data := .seq ([w1, w2] : List Value).toArray }).push (freshExc 63 h3.objs.size)).get? (h3.objs.size + 1) = some (freshExc 63 h3.objs.size) := by heap_get
      have wb : W.b.objs.size ≤ h3.objs.size := by
        obtain ⟨mm, F3, _⟩ := st3.fr
        exact Nat.le_trans F3.above (Nat.le_of_lt F3.ns.lt)
      refine exc_init (e := h3.objs.size + 1) (t := h3.objs.size) Fc (fun b o z => keep b o (st3.stays b o z)) hx ?_ ?_ ?_ hfI fun h5 tk5 d5 hm5 hp5 ky1 ky2 dn e5 d5' k5' => ?_
      · cases z : W.b.get? (h3.objs.size + 1) with
        | none => rfl
        | some o => exact absurd rfl (small _ _ (st3.stays _ _ z))
      · refine Nat.le_trans wb ?_
        rw [Heap.size_push, Heap.size_push]
        exact Nat.le_add_right _ 2
      · have := ok'.dp
        show (c.call hp.objs.size f qual scope cdv).dp + 1 < recursionLimit
        omega
      · have ne3 : h3.get? (h3.objs.size + 1) = Option.none := Heap.get?_none_of_le (Nat.le_succ _)
        have nd3 : h3.get? d5 = Option.none := by
          cases z : h3.get? d5 with
          | none => rfl
          | some o => have dn' := dn; have := (keep _ _ z).symm.trans dn'; cases this
        have ned : h3.objs.size + 1 ≠ d5 := fun z => by have dn' := dn; rw [← z] at dn'; have := hx.symm.trans dn'; cases this
        refine ⟨rfl, _, _, d5, rfl, k5' _ _ (small _ _ (st3.X _ _ hC63)) (keep _ _ (st3.X _ _ hC63)), e5, ?_⟩
        exact out _ _ d5 σ3 h3 h5 _ msg p w1 w2 _ _ _ _ st3 ((ex.trans x2).trans x3 |> fun _ => x2.trans x3) r31 r32 q3 ne3 nd3 ned e5 d5' fun b o z => k5' b o (small b o z) (keep b o z)
    · exact outE _ _ _ _ (x2) z
  · exact outE _ _ _ _ .refl z
end Mine
end
section
open PySem PySem.W PySem.Spec PySem.Calls PyProof.Rows
set_option maxRecDepth 100000
namespace Mine
variable {Kf : Params → Frag} {W : Wd Kf} {cs : Scope} {k : Nat} {hd : Option Value} {m : Loc} {σ : Store} {E : Int → Store → Prop} {Q : V → Store → Prop} {pos : Pos}
section
variable {Qn : Loc → Store → Prop} {Qr : V → Store → Prop} {ES : Int → Loc → Store → Prop}
theorem T1.tryQuiet {body : List Stmt} {h₀ : ExceptHandler} {hs : List ExceptHandler} (h : TS W cs k hd body m σ Qn Qr (fun _ _ _ => False)) : T1 W cs k hd (.Try body (h₀ :: hs) [] [] pos) m σ Qn Qr ES := by
  intro c S₀ hp tk hc hh ok s
  refine wpAny_Try_except (wpAny_mono (h c S₀ hp tk hc hh ok s) (fun f s₁ z => ?_) fun e s₁ z => ?_)
  · obtain ⟨h1, tk1, σ1, m1, rfl, st1, x1, q1⟩ := z
    cases f with
    | next => exact wpAny_execs_nil ⟨h1, tk1, σ1, m1, rfl, st1, x1, q1⟩
    | ret v => exact ⟨h1, tk1, σ1, m1, rfl, st1, x1, q1⟩
    | brk => exact q1.elim
    | cont => exact q1.elim
  · obtain ⟨m', h', tk', σ', e, d, T, msg, p, rfl, st', x', rfl, fl, he, q⟩ := z
    exact q.elim
noncomputable def delV (m : Loc) (x : Str) : Loc := m.filter fun p => !(p.1 == x)
theorem getV_delV (m : Loc) (x y : Str) {v : V} (e : getV (delV m x) y = some v) : y ≠ x ∧ getV m y = some v := by
  induction m with
  | nil => cases e
  | cons p r ih =>
    obtain ⟨z, u⟩ := p
    unfold delV at e
    rw [List.filter_cons] at e
    by_cases hz : z = x
    · subst hz
      simp only [BEq.rfl, Bool.not_true, Bool.false_eq_true, if_false] at e
      obtain ⟨a, b⟩ := ih e
      exact ⟨a, by simp only [getV, Ne.symm a, if_false]; exact b⟩
    · have hb : (z == x) = false := by simpa using hz
      simp only [hb, Bool.not_false, if_true, getV] at e
      by_cases hy : z = y
      · subst hy
        simp only [if_true] at e
        exact ⟨hz, by simp only [getV, if_true]; exact e⟩
      · simp only [hy, if_false] at e
        obtain ⟨a, b⟩ := ih e
        exact ⟨a, by simp only [getV, hy, if_false]; exact b⟩
theorem T1.tryCatch {body suite : List Stmt} {b₀ : Stmt} {X n : Str} {xp hpos : Pos} {hs : List ExceptHandler} (hh : hd = none) (hX : nsIn (Kf W.w.params) mainGlobals X = some (some (.ref 63))) (hx : cs.names.lookup X = some .globalImplicit) (hn : cs.names.lookup n = some .local)
    (hm : exmOne (Kf W.w.params) (.ref 63) (.ref 63) = some true)
    (h : TS W cs k none body m σ Qn Qr (fun p m' σ' => ∀ e d T msg, σ' e = none → TS W cs k (some (.ref e)) (b₀ :: suite) (setV m' n (.obj e)) (upd σ' e (faultOf d T msg p)) (fun _ _ => False) Qr (fun _ _ _ => False)))
    (hdb : (X == ("__debug__" : Str)) = false := by decide) :
    T1 W cs k hd (.Try body (.ExceptHandler (some (.Name X xp)) (some n) (b₀ :: suite) hpos :: hs) [] [] pos) m σ Qn Qr ES := by
  intro c S₀ hp tk hc hh' ok s
  have hcn : c.hd = none := hh'.trans hh
  refine wpAny_Try_except (wpAny_mono (h c S₀ hp tk hc hcn ok s) (fun f s₁ z => ?_) fun e s₁ z => ?_)
  · obtain ⟨h1, tk1, σ1, m1, rfl, st1, x1, q1⟩ := z
    cases f with
    | next => exact wpAny_execs_nil ⟨h1, tk1, σ1, m1, rfl, st1, x1, q1⟩
    | ret v => exact ⟨h1, tk1, σ1, m1, rfl, st1, x1, q1⟩
    | brk => exact q1.elim
    | cont => exact q1.elim
  · obtain ⟨m', h', tk', σ', e, d, T, msg, p, rfl, st', x', rfl, fl, he, q⟩ := z
    have hA : c.A.frames = some (c.env :: c.outer) := rfl
    refine wp_note ok.fn hA st' he fl fun h2 T2 st2 x2 _ => ?_
    refine wp_flight (fl := none) st2 fun h3 st3 x3 t3 => ?_
    let c' : Cx := { c with hd := some (.ref e) }
    have mk : ∀ {σ : Store} {m : Loc} {h : Heap}, St W c σ m h → St W c' σ m h := fun s => ⟨s.fr, s.ff, s.cells, s.fresh, s.lnew, s.fd, s.sep⟩
    have un : ∀ {σ : Store} {m : Loc} {h : Heap}, St W c' σ m h → St W c σ m h := fun s => ⟨s.fr, s.ff, s.cells, s.fresh, s.lnew, s.fd, s.sep⟩
    have ok' : c'.Ok k := ⟨ok.dp, ok.un, ok.fn⟩
    refine wpAny_handleBy_cons (codeAny_handlers_test (wpAny_mono (TE.global (m := m') (σ := upd σ' e (faultOf d T2 msg p)) (W := W) (k := k) (cs := cs) (hd := some (.ref e)) (E := fun _ _ => False) (Q := fun v σ'' => v = .obj 63 ∧ σ'' = upd σ' e (faultOf d T2 msg p)) hX (fun _ _ => .obj 63) hx ⟨rfl, rfl⟩ hdb c' S₀ h3 _ hc rfl ok' (mk st3)) (fun v s₁ z => ?_) fun val s' z => ?_)) (by intro q; cases q)
    · obtain ⟨h4, tk4, σ4, v4, rfl, st4, x4, r4, rfl, rfl⟩ := z
      cases r4
      obtain ⟨⟨oe, vs, hoe, hcls, hdict, hdat, h1⟩, _⟩ := st4.cells e _ (upd_self ..)
      have LT : Looks (model W.prog W.w) h4 (typeOf (.ref e)) (.ref 63) := by
        have := (Looks.ld (M := model W.prog W.w) (part := some headPart) hoe)
        exact hcls ▸ (this.andThen .now)
      refine (exm_one (M := model W.prog W.w) st4.X LT hm).here ?_
      show codeAny _ _ _ _ _
      refine codeAny_handlers_suite_as ?_
      refine wp_flight (c := c') (fl := none) st4 fun h5 st5 x5 _ => ?_
      refine wp_store (c := c') ok' st5 (.obj e) (hc ▸ hn) fun h6 st6 x6 => ?_
      refine wpAny_mono (q e d T2 msg he c' S₀ h6 _ hc rfl ok' st6) (fun f s₃ z => ?_) fun val s₃ z => ?_
      · obtain ⟨h7, tk7, σ7, m7, rfl, st7, x7, q7⟩ := z
        cases f with
        | next => exact q7.elim
        | brk => exact q7.elim
        | cont => exact q7.elim
        | ret v =>
          have s7 := un st7
          obtain ⟨mm, F, R⟩ := id s7.fr
          refine wpAny_nameGoes_keeps (env := c.env) (hc ▸ hn : c.cs.names.lookup n = some .local) F.ns (by show (c.cs.kind == .class || (c.cs.kind == .module && c.L != mainGlobals)) = false; rw [ok.fn]; rfl) fun h8 v8 hn8 hs8 => ?_
          have ex : Ext c.L σ7 h7 σ7 h8 := ⟨fun a ob e _ l => ⟨ob.slots, (hs8.2 a l).trans e, fun _ => rfl⟩, fun _ y => .inl y⟩
          have st8 : St W c σ7 (delV m7 n) h8 := ⟨⟨_, F.set hn8 hs8, fun y u ev => by
              obtain ⟨a, b⟩ := getV_delV m7 n y ev
              obtain ⟨val, c1, c2⟩ := R y u b
              exact ⟨val, by rw [if_neg a]; exact c1, c2.ext ex F.ns⟩⟩, s7.outer_keep ex, fun a cl e => (s7.cells a cl e).move ex F.ns (hs8.2 a (s7.fresh a (mut_at e)).2.1) fun d hd => hs8.2 d (s7.fresh d (mut_more e hd)).2.1, s7.fresh, s7.lnew, s7.outer_dict ex, s7.sep⟩
          obtain ⟨v', r', q7'⟩ := q7
          exact ⟨h8, _, σ7, _, rfl, st8, ((((((x'.trans x2).trans x3).trans x4).trans x5).trans x6).trans x7).trans ex, v', r'.ext ex F.ns, q7'⟩
      · obtain ⟨m9, h9, tk9, σ9, e9, d9, T9, msg9, p9, rfl, st9, x9, rfl, fl9, he9, q9⟩ := z
        exact q9.elim
    · obtain ⟨h5, tk5, σ5, e5, d5, T5, msg5, p5, rfl, st5, x5, rfl, fl5, he5, q5⟩ := z
      exact q5.elim
end
end Mine
end
section
open PySem PySem.W PySem.Spec PySem.Calls PyProof.Rows
set_option maxRecDepth 100000
namespace Mine
section
open PySem.Builtin PySem.Builtin.ObjectAttr
variable {prog : Program} {w : World} {A : Around} {K : Frag} {C e : Nat} {s : Shared} {E : Value → Shared → Prop}
theorem exc_get {oe : Obj} {od : Option Obj} {name : Str} {v : Value} {expr : Bool} {Q : Value → Shared → Prop} (X : K.In s.heap) (I : InstAt s.heap e oe C od) (hga : findIn K (.ref C) "__getattribute__" = some (some (.builtin "BaseException.__getattribute__"))) (hgn : findIn K (.ref C) "__getattr__" = some none)
    (hb : mroIn K C (.type "BaseException") = some true) (hf : findObj K C od name = some (.value v)) (hh : handedIn v = true) (h : Q v { s with toks := s.toks + 1 }) : wpAny (model prog w) A (getAttr (.ref e) name expr) Q E s := by
  obtain ⟨hp, g, d, t, os⟩ := s
  have FB := PySem.F.attrBase_Exception
  have L0 := I.type (M := model prog w)
  have L1 := looks_findIn (M := model prog w) X hga
  have L2 := looks_hook (M := model prog w) (mc := .ref C) X (r := none) (by rw [if_pos (show onTheHeap (Value.ref C) = true from rfl)]; exact hgn)
  have L3 := looks_find (M := model prog w) X I hf
  have S1 : Looks (model prog w) hp (isInstance (.ref e) (.type "BaseException")) true := L0.andThen (looks_mroIn X hb)
  unfold getAttr getAttrBy
  refine wpAny_bind (wpAny_mkText (wpAny_holding (wpAny_bind (L0.at (wpAny_bind (L1.at ?_))))))
  have hx1 : (onTheHeap (Value.ref C) && Value.builtin "BaseException.__getattribute__" == Value.builtin "object.__getattribute__") = false := by
    rw [show (Value.builtin "BaseException.__getattribute__" == Value.builtin "object.__getattribute__") = false from by decide +kernel]; rfl
  dsimp only
  rw [hx1]
  simp only [Bool.false_eq_true, if_false]
  unfold getAttrByItsOwn
  refine wpAny_bind (L2.at ?_)
  have hx0 : (expr && onTheHeap (Value.builtin "BaseException.__getattribute__")) = false := by cases expr <;> rfl
  refine wpAny_bind (wpAny_attempt (wpAny_holding ?_))
  unfold callGetattribute
  rw [hx0]
  simp only [Bool.false_eq_true, if_false]
  unfold boundAndCalled
  rw [FB.ga.bind]
  refine wpAny_bind (wpAny_pure ?_)
  refine wpAny_call ?_
  have hk : builtinKind "BaseException.__getattribute__" = some .slot := by decide +kernel
  have hsplit : splitId "BaseException.__getattribute__" = some ("BaseException", "__getattribute__") := by decide +kernel
  refine codeAny_call_builtin FB.ga.plain F.entry_bexc_ga (@check_slot (model prog w) _ _ ⟨hp, g, d, t + 1, os⟩ "BaseException.__getattribute__" "BaseException" "__getattribute__" (.ref e) [.str name t] [] _ hk hsplit S1 (F.args_bexc_ga (.ref e) (.str name t)) ?_)
  unfold Builtin.«object.__getattribute__»
  refine wpAny_bind (wpAny_pure ?_)
  refine wpAny_bind (wpAny_pure ?_)
  refine wpAny_bind (L0.at (wpAny_bind (L3.at ?_)))
  refine wpAny_pure ?_
  show wpAny _ _ (handedOut v) _ _ _
  rw [handedOut_of hh]; exact wpAny_pure h
end
variable {Kf : Params → Frag} {W : Wd Kf} {cs : Scope} {k : Nat} {hd : Option Value} {m : Loc} {σ : Store} {E : Int → Store → Prop} {Q : V → Store → Prop} {pos : Pos}
theorem TO.getExc {a d T : Nat} {fs : List (Str × V)} {name : Str} {v : V} (e : σ a = some (.exc 63 d T fs)) (hga : findIn (Kf W.w.params) (.ref 63) "__getattribute__" = some (some (.builtin "BaseException.__getattribute__"))) (hgn : findIn (Kf W.w.params) (.ref 63) "__getattr__" = some Option.none)
    (hb : mroIn (Kf W.w.params) 63 (.type "BaseException") = some true) (hdi : hasDictIn (Kf W.w.params) 63 = true) (ha : findIn (Kf W.w.params) (.ref 63) name = some Option.none) (hl : getV fs name = some v) (q : Q v σ) : TO W k hd (o1 fun v => getAttr v name true) [.obj a] σ Q E := by
  intro c S₀ h tk m vals hh ok s r
  cases r with
  | cons r rs =>
    cases r; cases rs
    obtain ⟨⟨oe, vs, hoe, hcls, hdict, hdat, h1⟩, _, es, n, hdd, en⟩ := s.cells a _ e
    obtain ⟨val, hv, r⟩ := en.get hl
    have I : InstAt h a oe 63 (some (dictOf es n)) := ⟨hoe, hcls, by unfold notCls; rw [hdat], by rw [hdict]; exact hdd⟩
    exact exc_get s.X I hga hgn hb (findObj_own hdi ha rfl hv) (by cases r <;> rfl) (.here s r q)
end Mine
end
section
open PySem PySem.W PySem.Spec PySem.Calls PyProof.Rows
set_option maxRecDepth 100000
namespace Mine
variable {Kf : Params → Frag} {W : Wd Kf} {cs : Scope} {k : Nat} {hd : Option Value} {m : Loc} {σ : Store} {E : Int → Store → Prop} {Q : V → Store → Prop} {pos : Pos}
theorem TO.mono {t : List Value → Sem Value} {vs : List V} {Q' : V → Store → Prop} {E' : Int → Store → Prop} (h : TO W k hd t vs σ Q E) (hq : ∀ v s, Q v s → Q' v s) (he : ∀ v s, E v s → E' v s) : TO W k hd t vs σ Q' E' :=
  fun c S₀ hp tk m vals a b s r => wpAny_mono (h c S₀ hp tk m vals a b s r) (fun _ _ ⟨h', tk', σ', v, r, x, y, z, q⟩ => ⟨h', tk', σ', v, r, x, y, z, hq _ _ q⟩) (fun _ _ ⟨h', tk', σ', e, d, T, msg, p, r, x, y, z, f, g, q⟩ => ⟨h', tk', σ', e, d, T, msg, p, r, x, y, z, f, g, he _ _ q⟩)
theorem CO.mono {f : Nat} {vs : List V} {Q' : V → Store → Prop} {E' : Int → Store → Prop} (h : CO W k f vs σ Q E) (hq : ∀ v s, Q v s → Q' v s) (he : ∀ v s, E v s → E' v s) : CO W k f vs σ Q' E' := by
  intro c S₀ hp tk m vals a b s r
  refine codeAny_mono (h c S₀ hp tk m vals a b s r) fun r s' z => ?_
  rcases r with e | (v | _ | _ | _)
  · obtain ⟨h', tk', σ', e, d, T, msg, p, r, x, y, z, f, g, q⟩ := z
    exact ⟨h', tk', σ', e, d, T, msg, p, r, x, y, z, f, g, he _ _ q⟩
  · exact z.elim
  · exact z.elim
  · exact z.elim
  · obtain ⟨h', tk', σ', v, r, x, y, z, q⟩ := z
    exact ⟨h', tk', σ', v, r, x, y, z, hq _ _ q⟩
theorem CO.use {f : Nat} {vs : List V} {Q' : V → Store → Prop} {E' : Int → Store → Prop} (h : CO W k f vs σ Q E) (hq : ∀ v s, Q v s → Q' v s) (he : ∀ v s, E v s → E' v s) : TO W k Option.none (fun vals => PySem.call (.ref f) vals) vs σ Q' E' := h.to.mono hq he
theorem TO.notB {b : Bool} (q : Q (.bool (!b)) σ) : TO W k hd (o1 (unaryOp .Not)) [.bool b] σ Q E := .of1 fun c S₀ hp tk m x hh ok s r => by
  cases r; exact not_of (wpAny_truthy_bool (RetP.here (tk' := tk) s (.bool _) q))
noncomputable def TV (W : Wd Kf) (cs : Scope) (k : Nat) (hd : Option Value) (pos : Pos) (op : BoolOp) (es : List Expr) (m : Loc) (σ : Store) (Q : V → Store → Prop) (E : Int → Store → Prop) : Prop :=
  ∀ (c : Cx) (S₀ : Shared) (h : Heap) (tk : Nat), c.cs = cs → c.hd = hd → c.Ok k → St W c σ m h →
    wpAny (model W.prog W.w) c.A (boolOp pos op (evalEach es c.env)) (RetP W c S₀ σ h m Q) (ExcP W c S₀ σ h m E) { S₀ with heap := h, toks := tk }
theorem TE.bools {op : BoolOp} {es : List Expr} (h : TV W cs k hd pos op es m σ Q E) : TE W cs k hd (.BoolOp op es pos) m σ Q E := fun c S₀ hp tk hc hh ok s => by rw [arm_eval_BoolOp]; exact h c S₀ hp tk hc hh ok s
theorem TV.one {op : BoolOp} {e : Expr} (h : TE W cs k hd e m σ Q E) : TV W cs k hd pos op [e] m σ Q E := h
theorem TV.and {e e' : Expr} {es : List Expr} (h : TE W cs k hd e m σ (fun v σ₁ => Tru W k hd v σ₁ (fun b σ₂ => (b = true → TV W cs k hd pos .And (e' :: es) m σ₂ Q E) ∧ (b = false → Q v σ₂))) E) : TV W cs k hd pos .And (e :: e' :: es) m σ Q E := by
  intro c S₀ hp tk hc hh ok s
  show wpAny _ _ (do
    let v ← eval e c.env
    standAt pos
    let t ← holding [v] (truthy v)
    match BoolOp.And, t with
    | .And, false | .Or, true => pure v
    | _, _ => boolOp pos .And (evalEach (e' :: es) c.env)) _ _ _
  refine wpAny_bind (wpAny_mono (h c S₀ hp tk hc hh ok s) (fun v s₁ z => wpAny_bind (wpAny_standAt (wpAny_bind (wpAny_holding ?_)))) fun _ _ z => z)
  obtain ⟨h1, tk1, σ1, v1, rfl, st1, x1, r1, q1⟩ := z
  refine wpAny_mono (q1 c S₀ h1 tk1 m v _ hh ok st1 r1) (fun b s₂ z => ?_) fun _ _ z => z
  obtain ⟨tk2, rfl, q2⟩ := z
  cases b with
  | true => exact wpAny_mono (q2.1 rfl c S₀ h1 tk2 hc hh ok st1) (fun _ _ z => z.lift x1) fun _ _ z => z.lift x1
  | false => exact wpAny_pure ⟨h1, tk2, σ1, v1, rfl, st1, x1, r1, q2.2 rfl⟩
section
variable {Qn : Loc → Store → Prop} {Qr : V → Store → Prop} {ES : Int → Loc → Store → Prop} {tpos : Pos} {elts : List Expr} {kk : Nat} {value : Expr}
theorem T1.assignT (hs : ∀ env, swapsWithSole [.Tuple elts kk tpos] value pos.line env = pure false) (hw : ∀ cn L a ccd, swappedStores [.Tuple elts kk tpos] value (envOf cn cs L a ccd) = pure none)
    (h : TE W cs k hd value m σ (fun v σ' => TA W cs k hd (.Tuple elts kk tpos) v m σ' (fun m' => Qn m' σ')) (fun p σ' => ES p m σ')) : T1 W cs k hd (.Assign [.Tuple elts kk tpos] value pos) m σ Qn Qr ES := by
  intro c S₀ hp tk hc hh ok s
  refine Assign_Tuple (wpAny_mono (h c S₀ hp tk hc hh ok s) (fun v s₁ z => ?_) fun _ _ z => ⟨m, z⟩) (hs _) (by rw [← hw c.cn c.L c.a c.ccd, ← hc]; rfl)
  obtain ⟨h1, tk1, σ1, v1, rfl, st1, x1, r1, q1⟩ := z
  refine wpAny_mono (q1 c S₀ h1 tk1 v _ hc hh ok st1 r1) (fun _ s₂ z => ?_) fun _ _ z => z
  obtain ⟨h2, tk2, m2, rfl, st2, x2, q2⟩ := z
  exact ⟨h2, tk2, σ1, m2, rfl, st2, x1.trans x2, q2⟩
theorem T1.cut {st : Stmt} (P : Loc → Store → Prop) (h : T1 W cs k hd st m σ P Qr ES) (h2 : ∀ m' σ', P m' σ' → Qn m' σ') : T1 W cs k hd st m σ Qn Qr ES := by
  intro c S₀ hp tk hc hh ok s
  refine wpAny_mono (h c S₀ hp tk hc hh ok s) (fun f s₁ z => ?_) fun _ _ z => z
  obtain ⟨h1, tk1, σ1, m1, rfl, st1, x1, q1⟩ := z
  cases f with
  | next => exact ⟨h1, tk1, σ1, m1, rfl, st1, x1, h2 _ _ q1⟩
  | ret v => exact ⟨h1, tk1, σ1, m1, rfl, st1, x1, q1⟩
  | brk => exact q1.elim
  | cont => exact q1.elim
end
theorem mulOk_left {a b : Int} (h : a.natAbs < 2 ^ 64) : IntMulOk a b := IntMulOk.of_left (by
  unfold Builtin.Int.intBits
  split
  · omega
  · rename_i h0
    have : a.natAbs.log2 < 64 := (Nat.log2_lt (by simpa using h0)).mpr h
    omega)
theorem mulOk_right {a b : Int} (h : b.natAbs < 2 ^ 64) : IntMulOk a b := IntMulOk.of_right (by
  unfold Builtin.Int.intBits
  split
  · omega
  · rename_i h0
    have : b.natAbs.log2 < 64 := (Nat.log2_lt (by simpa using h0)).mpr h
    omega)
end Mine
end
section
open PySem PySem.W PySem.Spec PySem.Calls PyProof.Rows
set_option maxRecDepth 100000
namespace Mine
theorem log_small {n : Nat} (h : n < 2 ^ 64) : n.log2 < 9000 := by
  by_cases h0 : n = 0
  · subst h0; decide
  · exact Nat.lt_trans ((Nat.log2_lt h0).mpr h) (by decide)
theorem seqIx {n len : Nat} (h : n < len) : seqIndex? (n : Int) len = some n := by
  unfold seqIndex?
  have h0 : ¬ ((n : Int) < 0) := by omega
  have h1 : (decide (0 ≤ (n : Int)) && decide ((n : Int) < len)) = true := by
    rw [Bool.and_eq_true]; exact ⟨decide_eq_true (by omega), decide_eq_true (by omega)⟩
  simp only [h0, if_false, h1, if_true, Int.toNat_natCast]
theorem seqLast {len : Nat} (h : 0 < len) : seqIndex? (-1) len = some (len - 1) := by
  unfold seqIndex?
  have h0 : ((-1 : Int) < 0) := by omega
  have h1 : (decide (0 ≤ -1 + (len : Int)) && decide (-1 + (len : Int) < len)) = true := by
    rw [Bool.and_eq_true]; exact ⟨decide_eq_true (by omega), decide_eq_true (by omega)⟩
  simp only [h0, if_true, h1, Option.some.injEq]
  omega
theorem sz {n : Nat} (h : n ≤ 1000000) : n ≤ sizeLine := by rw [sizeLine_eq]; omega
end Mine
end
section
open PySem PySem.W PySem.Spec PySem.Calls PyProof.Rows
set_option maxRecDepth 100000
namespace Mine
noncomputable def D : List Nat := [48, 49, 50, 51, 52, 53, 54, 55, 56, 57]
noncomputable def isDig (c : Nat) : Bool := decide (c ∈ D)
noncomputable def hasAt (t : List Nat) (n : Nat) (s : List Nat) : Bool := match t[n]? with
  | some c => decide (c ∈ s)
  | none => false
noncomputable def oneAt (t : List Nat) (n : Nat) (s : List Nat) : List Nat := match t[n]? with
  | some c => if c ∈ s then [c] else []
  | none => []
noncomputable def tw (t : List Nat) (n : Nat) : List Nat := (t.drop n).takeWhile isDig
noncomputable def wholeOf (ds : List Nat) : Int := ds.foldl (fun (n : Int) d => n * 10 + ((d - 48 : Nat) : Int)) 0
theorem hasAt_false {t : List Nat} {n : Nat} {s : List Nat} (h : hasAt t n s = false) : oneAt t n s = [] := by
  unfold hasAt at h; unfold oneAt
  cases e : t[n]? with
  | none => rfl
  | some c => rw [e] at h; simp only [decide_eq_false_iff_not] at h; simp [h]
theorem hasAt_true {t : List Nat} {n : Nat} {s : List Nat} (h : hasAt t n s = true) : ∃ c, t[n]? = some c ∧ n < t.length ∧ c ∈ s ∧ oneAt t n s = [c] := by
  unfold hasAt at h; unfold oneAt
  cases e : t[n]? with
  | none => rw [e] at h; cases h
  | some c => rw [e] at h; simp only [decide_eq_true_eq] at h; exact ⟨c, rfl, (List.getElem?_eq_some_iff.mp e).1, h, by simp [h]⟩
theorem tw_lt {p : Nat → Bool} : ∀ {l : List Nat} {j : Nat}, j < (l.takeWhile p).length → ∃ c, l[j]? = some c ∧ p c = true
  | [], j, h => by simp at h
  | x :: l, j, h => by
    rw [List.takeWhile_cons] at h
    cases hp : p x with
    | false => rw [hp] at h; simp at h
    | true =>
      rw [hp] at h
      cases j with
      | zero => exact ⟨x, rfl, hp⟩
      | succ j => exact tw_lt (l := l) (j := j) (by simpa using h)
theorem tw_end {p : Nat → Bool} : ∀ {l : List Nat} {c : Nat}, l[(l.takeWhile p).length]? = some c → p c = false
  | [], c, h => by simp at h
  | x :: l, c, h => by
    rw [List.takeWhile_cons] at h
    cases hp : p x with
    | false => rw [hp] at h; simp at h; rw [← h]; exact hp
    | true =>
      rw [hp] at h
      exact tw_end (l := l) (by simpa using h)
theorem tw_len {p : Nat → Bool} (l : List Nat) : (l.takeWhile p).length ≤ l.length := (List.takeWhile_sublist p).length_le
theorem hasAt_tw {t : List Nat} {n j : Nat} (hj : j ≤ (tw t n).length) : hasAt t (n + j) D = decide (j < (tw t n).length) := by
  unfold tw at *
  unfold hasAt
  by_cases h : j < ((t.drop n).takeWhile isDig).length
  · obtain ⟨c, e, hp⟩ := tw_lt h
    rw [List.getElem?_drop] at e
    rw [e, decide_eq_true h]; exact hp
  · have hj' : j = ((t.drop n).takeWhile isDig).length := by omega
    rw [decide_eq_false h]
    cases e : t[n + j]? with
    | none => rfl
    | some c =>
      rw [← List.getElem?_drop, hj'] at e
      exact tw_end e
theorem take_tw (t : List Nat) (n : Nat) : (t.drop n).take (n + (tw t n).length - n) = tw t n := by
  rw [Nat.add_sub_cancel_left]
  unfold tw
  induction t.drop n with
  | nil => rfl
  | cons x l ih =>
    rw [List.takeWhile_cons]
    cases isDig x with
    | false => rfl
    | true => simp only [if_true, List.length_cons, List.take_succ_cons, ih]
theorem tw_place (t : List Nat) (n : Nat) (h : n ≤ t.length) : n + (tw t n).length ≤ t.length := by
  have := tw_len (p := isDig) (t.drop n)
  rw [List.length_drop] at this
  unfold tw; omega
theorem tw_dig {t : List Nat} {n : Nat} : ∀ c ∈ tw t n, isDig c = true := fun c hc => by
  unfold tw at hc
  have := List.all_takeWhile (p := isDig) (l := t.drop n)
  exact List.all_eq_true.mp this c hc
theorem oneAt_le {t : List Nat} {n : Nat} {s : List Nat} (h : n ≤ t.length) : n + (oneAt t n s).length ≤ t.length := by
  cases e : hasAt t n s with
  | false => rw [hasAt_false e]; simpa using h
  | true => obtain ⟨c, _, hl, _, e'⟩ := hasAt_true e; rw [e']; simp; omega
theorem dig_idx {d : Nat} (h : isDig d = true) : ∃ rest, PySem.Builtin.Str.occurrences (S D) (S [d]) 0 (S D).length 1 = (d - 48) :: rest := by
  have : d ∈ D := by simpa [isDig] using h
  simp only [D, List.mem_cons, List.not_mem_nil, or_false] at this
  rcases this with rfl | rfl | rfl | rfl | rfl | rfl | rfl | rfl | rfl | rfl <;> exact ⟨[], by decide +kernel⟩
noncomputable def expAt (t : List Nat) (n : Nat) : Option (Int × Nat) :=
  let x := oneAt t n [101, 69]
  if x = [] then some (0, n) else
  let s := oneAt t (n + 1) [43, 45]
  let n2 := n + 1 + s.length
  let ds := tw t n2
  if ds = [] ∨ 9 < ds.length ∨ 300 < wholeOf ds then none else some (if s = [45] then -wholeOf ds else wholeOf ds, n2 + ds.length)
noncomputable def fracF (a b : Int) : Int × Int := (a.fdiv (Nat.gcd a.natAbs b.natAbs : Nat), b.fdiv (Nat.gcd a.natAbs b.natAbs : Nat))
noncomputable def fAt (t : List Nat) (n : Nat) : List Nat := if oneAt t n [46] = [] then [] else tw t (n + 1)
noncomputable def signed (s : List Nat) (x : Int) : Int := if s = [45] then -x else x
noncomputable def readNum (t s w f : List Nat) (x : Int) (n4 : Nat) : Option (Int × Int) :=
  if w ++ f = [] ∨ n4 < t.length ∨ x - f.length < -18 ∨ 18 < x - f.length then none else
    if x - f.length < 0 then some (fracF (signed s (wholeOf (w ++ f))) (10 ^ (-(x - f.length)).toNat)) else some (signed s (wholeOf (w ++ f)) * 10 ^ (x - f.length).toNat, 1)
noncomputable def readTail (t s w f : List Nat) : Option (Int × Nat) → Option (Int × Int)
  | none => none
  | some (x, n4) => readNum t s w f x n4
noncomputable def readDec (t : List Nat) : Option (Int × Int) :=
  readTail t (oneAt t 0 [43, 45]) (tw t (oneAt t 0 [43, 45]).length) (fAt t ((oneAt t 0 [43, 45]).length + (tw t (oneAt t 0 [43, 45]).length).length))
    (expAt t ((oneAt t 0 [43, 45]).length + (tw t (oneAt t 0 [43, 45]).length).length + (oneAt t ((oneAt t 0 [43, 45]).length + (tw t (oneAt t 0 [43, 45]).length).length) [46]).length + (fAt t ((oneAt t 0 [43, 45]).length + (tw t (oneAt t 0 [43, 45]).length).length)).length))
theorem readTail_some {t s w f : List Nat} {x : Int} {n4 : Nat} {r : Int × Int} (h : readNum t s w f x n4 = some r) : w ++ f ≠ [] ∧ t.length ≤ n4 ∧ -18 ≤ x - f.length ∧ x - f.length ≤ 18 ∧
    r = if x - f.length < 0 then fracF (signed s (wholeOf (w ++ f))) (10 ^ (-(x - f.length)).toNat) else (signed s (wholeOf (w ++ f)) * 10 ^ (x - f.length).toNat, 1) := by
  unfold readNum at h
  by_cases hc : w ++ f = [] ∨ n4 < t.length ∨ x - f.length < -18 ∨ 18 < x - f.length
  · rw [if_pos hc] at h; cases h
  · rw [if_neg hc] at h
    simp only [not_or] at hc
    refine ⟨hc.1, by omega, by omega, by omega, ?_⟩
    by_cases h2 : x - f.length < 0
    · rw [if_pos h2] at h ⊢; exact (Option.some.inj h).symm
    · rw [if_neg h2] at h ⊢; exact (Option.some.inj h).symm
end Mine
end
section
open PySem PySem.W PySem.Spec PySem.Calls PyProof.Rows
set_option maxRecDepth 100000
namespace Mine
theorem lit2 : (Str.ofString "0123456789").cps.toList = [48, 49, 50, 51, 52, 53, 54, 55, 56, 57] := by decide
theorem lit4 : (Str.ofString " \t\n\r\x0c").cps.toList = [32, 9, 10, 13, 12] := by decide
theorem lit5 : (Str.ofString "MmLlHhVvCcSsQqTtAaZz").cps.toList = [77, 109, 76, 108, 72, 104, 86, 118, 67, 99, 83, 115, 81, 113, 84, 116, 65, 97, 90, 122] := by decide
theorem lit9 : (Str.ofString "").cps.toList = [] := by decide
theorem lit10 : (Str.ofString "-").cps.toList = [45] := by decide
theorem lit11 : (Str.ofString "0.").cps.toList = [48, 46] := by decide
theorem lit12 : (Str.ofString "-0.").cps.toList = [45, 48, 46] := by decide
theorem lit14 : (Str.ofString "eE").cps.toList = [101, 69] := by decide
theorem lit15 : (Str.ofString "+-").cps.toList = [43, 45] := by decide
theorem lit16 : (Str.ofString "an exponent that is not read").cps.toList = [97, 110, 32, 101, 120, 112, 111, 110, 101, 110, 116, 32, 116, 104, 97, 116, 32, 105, 115, 32, 110, 111, 116, 32, 114, 101, 97, 100] := by decide
theorem lit17 : (Str.ofString ".").cps.toList = [46] := by decide
theorem lit18 : (Str.ofString "0").cps.toList = [48] := by decide
theorem lit19 : (Str.ofString ",").cps.toList = [44] := by decide
theorem lit20 : (Str.ofString "M").cps.toList = [77] := by decide
theorem lit21 : (Str.ofString "L").cps.toList = [76] := by decide
theorem lit22 : (Str.ofString "H").cps.toList = [72] := by decide
theorem lit23 : (Str.ofString "V").cps.toList = [86] := by decide
theorem lit24 : (Str.ofString "C").cps.toList = [67] := by decide
theorem lit25 : (Str.ofString "S").cps.toList = [83] := by decide
theorem lit26 : (Str.ofString "Q").cps.toList = [81] := by decide
theorem lit27 : (Str.ofString "T").cps.toList = [84] := by decide
theorem lit28 : (Str.ofString "A").cps.toList = [65] := by decide
theorem lit29 : (Str.ofString "Z").cps.toList = [90] := by decide
theorem lit31 : (Str.ofString "Zz").cps.toList = [90, 122] := by decide
theorem lit32 : (Str.ofString " ").cps.toList = [32] := by decide
theorem lit33 : (Str.ofString "no number: ").cps.toList = [110, 111, 32, 110, 117, 109, 98, 101, 114, 58, 32] := by decide
theorem lit34 : (Str.ofString "e").cps.toList = [101] := by decide
theorem lit35 : (Str.ofString "E").cps.toList = [69] := by decide
theorem lit36 : (Str.ofString "+").cps.toList = [43] := by decide
theorem lit37 : (Str.ofString "a number is missing").cps.toList = [97, 32, 110, 117, 109, 98, 101, 114, 32, 105, 115, 32, 109, 105, 115, 115, 105, 110, 103] := by decide
theorem lit38 : (Str.ofString "1").cps.toList = [49] := by decide
theorem lit39 : (Str.ofString "a flag is missing").cps.toList = [97, 32, 102, 108, 97, 103, 32, 105, 115, 32, 109, 105, 115, 115, 105, 110, 103] := by decide
theorem lit40 : (Str.ofString "a command is missing").cps.toList = [97, 32, 99, 111, 109, 109, 97, 110, 100, 32, 105, 115, 32, 109, 105, 115, 115, 105, 110, 103] := by decide
theorem lit41 : (Str.ofString "m").cps.toList = [109] := by decide
theorem lit42 : (Str.ofString "l").cps.toList = [108] := by decide
theorem lit43 : (Str.ofString "Aa").cps.toList = [65, 97] := by decide
theorem lit44 : (Str.ofString "Mm").cps.toList = [77, 109] := by decide
theorem lit45 : (Str.ofString "a path begins with a move").cps.toList = [97, 32, 112, 97, 116, 104, 32, 98, 101, 103, 105, 110, 115, 32, 119, 105, 116, 104, 32, 97, 32, 109, 111, 118, 101] := by decide
theorem lit46 : (Str.ofString "\n").cps.toList = [10] := by decide
theorem lit47 : (Str.ofString " , ").cps.toList = [32, 44, 32] := by decide
theorem lit48 : (Str.ofString "\t").cps.toList = [9] := by decide
theorem lit49 : (Str.ofString "MmZz").cps.toList = [77, 109, 90, 122] := by decide
theorem lit50 : (Str.ofString "  L1 2").cps.toList = [32, 32, 76, 49, 32, 50] := by decide
theorem lit51 : (Str.ofString "M1 2").cps.toList = [77, 49, 32, 50] := by decide
theorem lit52 : (Str.ofString "x").cps.toList = [120] := by decide
theorem lit53 : (Str.ofString "#").cps.toList = [35] := by decide
theorem lit54 : (Str.ofString "M1 2x").cps.toList = [77, 49, 32, 50, 120] := by decide
theorem lit55 : (Str.ofString "M 1 2 ,z").cps.toList = [77, 32, 49, 32, 50, 32, 44, 122] := by decide
theorem lit56 : (Str.ofString "+-.").cps.toList = [43, 45, 46] := by decide
theorem lit57 : (Str.ofString "e-").cps.toList = [101, 45] := by decide
theorem lit58 : (Str.ofString "0123456789.").cps.toList = [48, 49, 50, 51, 52, 53, 54, 55, 56, 57, 46] := by decide
theorem lit59 : (Str.ofString "M1,2").cps.toList = [77, 49, 44, 50] := by decide
theorem lit60 : (Str.ofString ".0").cps.toList = [46, 48] := by decide
theorem lit61 : (Str.ofString "LlLlHhVvCcSsQqTtAaZzMm").cps.toList = [76, 108, 76, 108, 72, 104, 86, 118, 67, 99, 83, 115, 81, 113, 84, 116, 65, 97, 90, 122, 77, 109] := by decide
end Mine
end
section
open PySem PySem.W PySem.Spec PySem.Calls PyProof.Rows
set_option maxRecDepth 100000
namespace Mine
variable {Kf : Params → Frag} {W : Wd Kf} {cs : Scope} {k : Nat} {hd : Option Value} {m : Loc} {σ : Store} {E : Int → Store → Prop} {Q : V → Store → Prop} {pos : Pos}
theorem TO.range {n : Int} (q : Q (.rng n) σ) : TO W k hd (fun vals => PySem.call (.type "range") vals) [.int n] σ Q E := .ofc1 fun c S₀ hp tk m u hh ok s r => by
  cases r
  refine call_range_1 ?_
  obtain ⟨st1, x1⟩ := s.push { cls := .type "range", dict := none, data := .fields #[.int 0 tk, .int n _, .int 1 (tk + 1)], slots := #[] }
  exact ⟨_, tk + 1 + 1, σ, .rng n, rfl, st1, x1, .rng (Heap.get?_push_size _ rfl) (s.notMutNew get_size), q⟩
end Mine
end
section
open PySem PySem.W PySem.Spec PySem.Calls PyProof.Rows
set_option maxRecDepth 100000
namespace Mine
variable {Kf : Params → Frag} {W : Wd Kf} {cs : Scope} {k : Nat} {hd : Option Value} {m : Loc} {σ : Store} {E : Int → Store → Prop} {Q : V → Store → Prop} {pos : Pos}
noncomputable def LS (m₀ m : Loc) : Prop := ∀ x v, getV m₀ x = some v → getV m x = some v
theorem LS.nil : LS [] m := fun x v h => by cases h
theorem LS.cons {y : Str} {u : V} {m₀ : Loc} (h : getV m y = some u) (t : LS m₀ m) : LS ((y, u) :: m₀) m := fun x v e => by
  unfold getV at e
  split at e
  · rename_i hxy; cases e; exact hxy ▸ h
  · exact t x v e
theorem LS.refl : LS m m := fun _ _ h => h
theorem LS.set {m₀ m : Loc} (h : LS m₀ m) (x : Str) (v : V) : LS (setV m₀ x v) (setV m x v) := fun y u e => by
  rw [getV_setV] at e ⊢
  split at e
  · rename_i hy; rw [if_pos hy]; exact e
  · rename_i hy; rw [if_neg hy]; exact h y u e
theorem St.less {c : Cx} {h : Heap} {m₀ : Loc} (s : St W c σ m h) (l : LS m₀ m) : St W c σ m₀ h := let ⟨mm, F, R⟩ := s.fr; { s with fr := ⟨mm, F, fun x v e => R x v (l x v e)⟩ }
theorem TS.less {ss : List Stmt} {m₀ : Loc} {Qn : Loc → Store → Prop} {Qr : V → Store → Prop} {ES : Int → Loc → Store → Prop} (l : LS m₀ m) (h : TS W cs k hd ss m₀ σ Qn Qr ES) : TS W cs k hd ss m σ Qn Qr ES :=
  fun c S₀ hp tk hc hh ok s => h c S₀ hp tk hc hh ok (s.less l)
end Mine
end
section
open PySem PySem.W PySem.Spec PySem.Calls PyProof.Rows
set_option maxRecDepth 100000
namespace Mine
variable {Kf : Params → Frag} {W : Wd Kf} {cs : Scope} {k : Nat} {hd : Option Value} {m : Loc} {σ : Store} {E : Int → Store → Prop} {pos : Pos}
theorem TB.mono {e : Expr} {Q Q' : Bool → Store → Prop} (h : TB W cs k hd e m σ Q E) (hq : ∀ b σ, Q b σ → Q' b σ) : TB W cs k hd e m σ Q' E :=
  fun c S₀ hp tk hc hh ho s => wpAny_mono (h c S₀ hp tk hc hh ho s) (fun b s₁ ⟨h', tk', σ', a1, a2, a3, a4⟩ => ⟨h', tk', σ', a1, a2, a3, hq _ _ a4⟩) fun _ _ x => x
theorem T1.ifBy {Qn : Loc → Store → Prop} {Qr : V → Store → Prop} {ES : Int → Loc → Store → Prop} {test : Expr} {body orelse : List Stmt} (Q : Bool → Store → Prop) (h : TB W cs k hd test m σ Q (fun p σ' => ES p m σ'))
    (h1 : ∀ σ', Q true σ' → TS W cs k hd body m σ' Qn Qr ES) (h2 : ∀ σ', Q false σ' → TS W cs k hd orelse m σ' Qn Qr ES) : T1 W cs k hd (.If test body orelse pos) m σ Qn Qr ES :=
  T1.if (h.mono fun b σ' q => ⟨fun e => h1 σ' (e ▸ q), fun e => h2 σ' (e ▸ q)⟩)
end Mine
end
section
open PySem PySem.W PySem.Spec PySem.Calls PyProof.Rows
set_option maxRecDepth 100000
namespace Mine
variable {Kf : Params → Frag} {W : Wd Kf} {cs : Scope} {k : Nat} {hd : Option Value} {m : Loc} {σ : Store} {E : Int → Store → Prop} {pos np apos : Pos}
theorem CO.useEq {f : Nat} {vs : List V} {v0 : V} {s0 : Store} {Q' : V → Store → Prop} (h : CO W k f vs σ (fun v s => v = v0 ∧ s = s0) E) (hq : Q' v0 s0) : TO W k Option.none (fun vals => PySem.call (.ref f) vals) vs σ Q' E :=
  h.use (fun _ _ x => x.1.symm ▸ x.2.symm ▸ hq) fun _ _ h => h
section binds
variable {s : Shared} {fd : FuncData} {ns : List Str} {v1 v2 v3 : V} {vals : List Value}
theorem binds1 (q : ∀ a, BindsTo s fd ⟨[a], []⟩ (ns.zip [a])) (r : VRs s.heap σ [v1] vals) : BindsTo s fd ⟨vals, []⟩ (ns.zip vals) := by
  cases r with | cons r0 r => cases r; exact q _
theorem binds2 (q : ∀ a b, BindsTo s fd ⟨[a, b], []⟩ (ns.zip [a, b])) (r : VRs s.heap σ [v1, v2] vals) : BindsTo s fd ⟨vals, []⟩ (ns.zip vals) := by
  cases r with | cons r0 r => cases r with | cons r1 r => cases r; exact q _ _
theorem binds3 (q : ∀ a b c, BindsTo s fd ⟨[a, b, c], []⟩ (ns.zip [a, b, c])) (r : VRs s.heap σ [v1, v2, v3] vals) : BindsTo s fd ⟨vals, []⟩ (ns.zip vals) := by
  cases r with | cons r0 r => cases r with | cons r1 r => cases r with | cons r2 r => cases r; exact q _ _ _
end binds
section args
variable {Q : List V → Store → Prop} {rest : List Expr} {x : Str} {v : V}
theorem TEs.L (he : plainArgs (.Name x np :: rest) = true) (hv : getV m x = some v) (hx : cs.names.lookup x = some .local) (q : TEs W cs k hd rest pos m σ (fun as σ₂ => Q (v :: as) σ₂) E) (hdb : (x == ("__debug__" : Str)) = false := by decide) :
    TEs W cs k hd (.Name x np :: rest) pos m σ Q E := TEs.cons' he (TE.local hv hx q hdb)
theorem TEs.L1 (he : plainArgs [.Name x np] = true) (hv : getV m x = some v) (hx : cs.names.lookup x = some .local) (q : Q [v] σ) (hdb : (x == ("__debug__" : Str)) = false := by decide) :
    TEs W cs k hd [.Name x np] pos m σ Q E := TEs.cons' he (TE.local hv hx (.nil q) hdb)
theorem TEs.S {l : List Nat} {kk : Nat} (he : plainArgs (.Constant (.str x) kk np :: rest) = true) (e : x.cps.toList = l) (q : TEs W cs k hd rest pos m σ (fun as σ₂ => Q (.str l :: as) σ₂) E) :
    TEs W cs k hd (.Constant (.str x) kk np :: rest) pos m σ Q E := TEs.cons' he (TE.str e q)
theorem TEs.S1 {l : List Nat} {kk : Nat} (he : plainArgs [.Constant (.str x) kk np] = true) (e : x.cps.toList = l) (q : Q [.str l] σ) :
    TEs W cs k hd [.Constant (.str x) kk np] pos m σ Q E := TEs.cons' he (TE.str e (.nil q))
theorem TEs.I {i : Int} {kk : Nat} (he : plainArgs (.Constant (.int i) kk np :: rest) = true) (q : TEs W cs k hd rest pos m σ (fun as σ₂ => Q (.int i :: as) σ₂) E) :
    TEs W cs k hd (.Constant (.int i) kk np :: rest) pos m σ Q E := TEs.cons' he (TE.int q)
theorem TEs.I1 {i : Int} {kk : Nat} (he : plainArgs [.Constant (.int i) kk np] = true) (q : Q [.int i] σ) :
    TEs W cs k hd [.Constant (.int i) kk np] pos m σ Q E := TEs.cons' he (TE.int (.nil q))
end args
section steps
variable {Q : V → Store → Prop} {x name : Str} {args : List Expr}
theorem TE.mI {a C d f : Nat} {fs : List (Str × V)} {pl : Env → Sem Bool}
    (he : ∀ env, eval (.Call (.Attribute (.Name x np) name apos) args [] pos) env = (do
      let ov ← eval (.Name x np) env
      standAt apos.atName
      let (f, first) ← holding [ov] (getMethod ov name (pl env))
      callWith pos f first (backTo pos (starEach args env)) (backToKw pos (keywordEach [] env)))) (hpl : plainArgs args = true)
    (hv : getV m x = some (.obj a)) (hx : cs.names.lookup x = some .local)
    (e : σ a = some (.inst C d fs)) (hg : plainGet (Kf W.w.params) C name = true) (hf : findIn (Kf W.w.params) (.ref C) name = some (some (.ref f))) (ht : isFn (Kf W.w.params) (.ref f) = true)
    (hkp : keepIn (Kf W.w.params) (.ref f) = true) (hl : getV fs name = Option.none)
    (h : TEs W cs k hd args pos m σ (fun vs σ₂ => TO W k hd (fun vals => PySem.call (.ref f) vals) (.obj a :: vs) σ₂ Q E) E) (hdb : (x == ("__debug__" : Str)) = false := by decide) :
    TE W cs k hd (.Call (.Attribute (.Name x np) name apos) args [] pos) m σ Q E :=
  TE.method he hpl (TE.local hv hx ⟨_, GM.inst e hg hf ht hkp hl, h⟩ hdb)
theorem TE.mI0 {a C d f : Nat} {fs : List (Str × V)} {pl : Env → Sem Bool}
    (he : ∀ env, eval (.Call (.Attribute (.Name x np) name apos) [] [] pos) env = (do
      let ov ← eval (.Name x np) env
      standAt apos.atName
      let (f, first) ← holding [ov] (getMethod ov name (pl env))
      callWith pos f first (backTo pos (starEach [] env)) (backToKw pos (keywordEach [] env))))
    (hv : getV m x = some (.obj a)) (hx : cs.names.lookup x = some .local)
    (e : σ a = some (.inst C d fs)) (hg : plainGet (Kf W.w.params) C name = true) (hf : findIn (Kf W.w.params) (.ref C) name = some (some (.ref f))) (ht : isFn (Kf W.w.params) (.ref f) = true)
    (hkp : keepIn (Kf W.w.params) (.ref f) = true) (hl : getV fs name = Option.none)
    (h : TO W k hd (fun vals => PySem.call (.ref f) vals) [.obj a] σ Q E) (hdb : (x == ("__debug__" : Str)) = false := by decide) :
    TE W cs k hd (.Call (.Attribute (.Name x np) name apos) [] [] pos) m σ Q E :=
  TE.mI he rfl hv hx e hg hf ht hkp hl (.nil h) hdb
theorem TE.attrI {a C d : Nat} {fs : List (Str × V)} {v : V} {attr : Option Value} (hnt : ∀ ov r, letTemporaryGo (.Name x np) ov r = pure ()) (hb : ∀ env whole, attributeBase (.Name x np) name env whole = whole)
    (hv : getV m x = some (.obj a)) (hx : cs.names.lookup x = some .local)
    (e : σ a = some (.inst C d fs)) (hg : plainGet (Kf W.w.params) C name = true) (hdi : hasDictIn (Kf W.w.params) C = true)
    (ha : findIn (Kf W.w.params) (.ref C) name = some attr) (hn : noGet (Kf W.w.params) attr = true) (hl : getV fs name = some v) (q : Q v σ) (hdb : (x == ("__debug__" : Str)) = false := by decide) :
    TE W cs k hd (.Attribute (.Name x np) name pos) m σ Q E := TE.attr hnt hb (TE.local hv hx (TO.getInst e hg hdi ha hn hl q) hdb)
theorem TE.attrL {v : V} (hnt : ∀ ov r, letTemporaryGo (.Name x np) ov r = pure ()) (hb : ∀ env whole, attributeBase (.Name x np) name env whole = whole) (hv : getV m x = some v) (hx : cs.names.lookup x = some .local)
    (h : TO W k hd (o1 fun v => getAttr v name true) [v] σ Q E) (hdb : (x == ("__debug__" : Str)) = false := by decide) : TE W cs k hd (.Attribute (.Name x np) name pos) m σ Q E := TE.attr hnt hb (TE.local hv hx h hdb)
theorem TE.callBL1 {y : Str} {v : V} {fv : Value} (e : nsIn (Kf W.w.params) mainGlobals x = some Option.none) (hb : bootBuiltins x = some fv) (hn : x ≠ "__name__") (hx : cs.names.lookup x = some .globalImplicit) (hf : Cal (Kf W.w.params) fv)
    (hpl : plainArgs [.Name y apos] = true) (hv : getV m y = some v) (hy : cs.names.lookup y = some .local) (h : TO W k hd (fun vals => PySem.call fv vals) [v] σ Q E) (hdb : (x == ("__debug__" : Str)) = false := by decide) (hdy : (y == ("__debug__" : Str)) = false := by decide) :
    TE W cs k hd (.Call (.Name x np) [.Name y apos] [] pos) m σ Q E := TE.callB e hb hn hx hf hpl (TEs.L1 hpl hv hy h hdy) hdb
theorem TE.callL1 {y : Str} {v : V} {f : Nat} (e : nsIn (Kf W.w.params) mainGlobals x = some (some (.ref f))) (hx : cs.names.lookup x = some .globalImplicit) (hf : keepIn (Kf W.w.params) (.ref f) = true)
    (hpl : plainArgs [.Name y apos] = true) (hv : getV m y = some v) (hy : cs.names.lookup y = some .local) (h : TO W k hd (fun vals => PySem.call (.ref f) vals) [v] σ Q E) (hdb : (x == ("__debug__" : Str)) = false := by decide) (hdy : (y == ("__debug__" : Str)) = false := by decide) :
    TE W cs k hd (.Call (.Name x np) [.Name y apos] [] pos) m σ Q E := TE.call e hx hf hpl (TEs.L1 hpl hv hy h hdy) hdb
theorem TE.callL {y : Str} {v : V} {f : Nat} (e : nsIn (Kf W.w.params) mainGlobals x = some (some (.ref f))) (hx : cs.names.lookup x = some .globalImplicit) (hf : keepIn (Kf W.w.params) (.ref f) = true)
    (hpl : plainArgs (.Name y apos :: args) = true) (hv : getV m y = some v) (hy : cs.names.lookup y = some .local) (h : TEs W cs k hd args pos m σ (fun vs σ₁ => TO W k hd (fun vals => PySem.call (.ref f) vals) (v :: vs) σ₁ Q E) E) (hdb : (x == ("__debug__" : Str)) = false := by decide) (hdy : (y == ("__debug__" : Str)) = false := by decide) :
    TE W cs k hd (.Call (.Name x np) (.Name y apos :: args) [] pos) m σ Q E := TE.call e hx hf hpl (TEs.L hpl hv hy h hdy) hdb
theorem TE.binL {y : Str} {u : V} {r : Expr} {op : Operator} (hv : getV m y = some u) (hy : cs.names.lookup y = some .local) (h : TE W cs k hd r m σ (fun b σ₂ => TO W k hd (o2 (binaryOp op)) [u, b] σ₂ Q E) E) (hdb : (y == ("__debug__" : Str)) = false := by decide) :
    TE W cs k hd (.BinOp (.Name y np) op r pos) m σ Q E := TE.binop (TE.local hv hy h hdb)
theorem TE.binLI {y : Str} {u : V} {i : Int} {kk : Nat} {op : Operator} (hv : getV m y = some u) (hy : cs.names.lookup y = some .local) (h : TO W k hd (o2 (binaryOp op)) [u, .int i] σ Q E) (hdb : (y == ("__debug__" : Str)) = false := by decide) :
    TE W cs k hd (.BinOp (.Name y np) op (.Constant (.int i) kk apos) pos) m σ Q E := TE.binL hv hy (TE.int h) hdb
theorem TE.binLL {y z : Str} {u w : V} {op : Operator} (hv : getV m y = some u) (hy : cs.names.lookup y = some .local) (hw : getV m z = some w) (hz : cs.names.lookup z = some .local) (h : TO W k hd (o2 (binaryOp op)) [u, w] σ Q E) (hdb : (y == ("__debug__" : Str)) = false := by decide) (hdz : (z == ("__debug__" : Str)) = false := by decide) :
    TE W cs k hd (.BinOp (.Name y np) op (.Name z apos) pos) m σ Q E := TE.binL hv hy (TE.local hw hz h hdz) hdb
theorem TE.itemL {y : Str} {u : V} {slice : Expr} (hs : ∀ o i, subscripted slice false o i = operate [o, i] (getItem o i)) (hv : getV m y = some u) (hy : cs.names.lookup y = some .local)
    (h : TE W cs k hd slice m σ (fun i σ₂ => SubV σ₂ u ∧ TO W k hd (o2 getItem) [u, i] σ₂ Q E) E) (hdb : (y == ("__debug__" : Str)) = false := by decide) : TE W cs k hd (.Subscript (.Name y np) slice pos) m σ Q E := TE.item hs (TE.local hv hy h hdb)
theorem TE.itemLI {y : Str} {u : V} {i : Int} {kk : Nat} (hs : ∀ o j, subscripted (.Constant (.int i) kk apos) false o j = operate [o, j] (getItem o j)) (hv : getV m y = some u) (hy : cs.names.lookup y = some .local)
    (h : SubV σ u ∧ TO W k hd (o2 getItem) [u, .int i] σ Q E) (hdb : (y == ("__debug__" : Str)) = false := by decide) : TE W cs k hd (.Subscript (.Name y np) (.Constant (.int i) kk apos) pos) m σ Q E := TE.itemL hs hv hy (TE.int h) hdb
end steps
theorem testB {b : Bool} {A B : Prop} (h1 : b = true → A) (h2 : b = false → B) : ∃ b', V.bool b = .bool b' ∧ (b' = true → A) ∧ (b' = false → B) := ⟨b, rfl, h1, h2⟩
section tests
variable {Q : Bool → Store → Prop} {y z : Str} {u w : V} {r : Expr} {op : CmpOp}
theorem TB.cmpL (hm : behindInMarks op r = false) (hv : getV m y = some u) (hy : cs.names.lookup y = some .local) (h : TE W cs k hd r m σ (fun b σ₂ => TO W k hd (o2 (compareOp op)) [u, b] σ₂ (fun v σ₃ => ∃ b, v = .bool b ∧ Q b σ₃) E) E) (hdb : (y == ("__debug__" : Str)) = false := by decide) :
    TB W cs k hd (.Compare (.Name y np) [op] [r] pos) m σ Q E := TB.compare hm (TE.local hv hy h hdb)
theorem TB.cmpLS {x : Str} {l : List Nat} {kk : Nat} (hm : behindInMarks op (.Constant (.str x) kk apos) = false) (hv : getV m y = some u) (hy : cs.names.lookup y = some .local) (e : x.cps.toList = l) (h : TO W k hd (o2 (compareOp op)) [u, .str l] σ (fun v σ₃ => ∃ b, v = .bool b ∧ Q b σ₃) E) (hdb : (y == ("__debug__" : Str)) = false := by decide) :
    TB W cs k hd (.Compare (.Name y np) [op] [.Constant (.str x) kk apos] pos) m σ Q E := TB.cmpL hm hv hy (TE.str e h) hdb
theorem TB.cmpLI {i : Int} {kk : Nat} (hm : behindInMarks op (.Constant (.int i) kk apos) = false) (hv : getV m y = some u) (hy : cs.names.lookup y = some .local) (h : TO W k hd (o2 (compareOp op)) [u, .int i] σ (fun v σ₃ => ∃ b, v = .bool b ∧ Q b σ₃) E) (hdb : (y == ("__debug__" : Str)) = false := by decide) :
    TB W cs k hd (.Compare (.Name y np) [op] [.Constant (.int i) kk apos] pos) m σ Q E := TB.cmpL hm hv hy (TE.int h) hdb
end tests
section stmts
variable {Qn : Loc → Store → Prop} {Qr : V → Store → Prop} {ES : Int → Loc → Store → Prop} {x : Str} {rest body orelse : List Stmt} {e o : Expr} {p2 : Pos}
theorem TS.assign (hs : ∀ env : Env, swapsWith e (some (.Name x np)) pos.line env = pure false) (hx : cs.names.lookup x = some .local)
    (h : TE W cs k hd e m σ (fun v σ₁ => TS W cs k hd rest (setV m x v) σ₁ Qn Qr ES) (fun p σ' => ES p m σ')) : TS W cs k hd (.Assign [.Name x np] e pos :: rest) m σ Qn Qr ES := TS.cons (T1.assign hs hx h)
theorem TS.ret (h : TE W cs k hd e m σ Qr (fun p σ' => ES p m σ')) : TS W cs k hd (.Return (some e) pos :: rest) m σ Qn Qr ES := TS.cons (T1.ret h)
theorem TS.expr (hi : ∀ cn L a ccd, interactive (envOf cn cs L a ccd) = false) (hs : ∀ env, swapsWith e Option.none pos.line env = pure false) (h : TE W cs k hd e m σ (fun _ σ' => TS W cs k hd rest m σ' Qn Qr ES) (fun p σ' => ES p m σ')) :
    TS W cs k hd (.Expr e pos :: rest) m σ Qn Qr ES := TS.cons (T1.exprAny hi hs h)
theorem TS.if (h : TB W cs k hd e m σ (fun b σ₁ => (b = true → TS W cs k hd body m σ₁ (fun m' σ' => TS W cs k hd rest m' σ' Qn Qr ES) Qr ES) ∧ (b = false → TS W cs k hd orelse m σ₁ (fun m' σ' => TS W cs k hd rest m' σ' Qn Qr ES) Qr ES)) (fun p σ' => ES p m σ')) :
    TS W cs k hd (.If e body orelse pos :: rest) m σ Qn Qr ES := TS.cons (T1.if h)
theorem setTo {a C d : Nat} {fs : List (Str × V)} {name : Str} {v : V} (e : σ a = some (.inst C d fs)) (h1 : findIn (Kf W.w.params) (.ref C) "__setattr__" = some (some (.builtin "object.__setattr__"))) (h2 : plainOver (Kf W.w.params) C = true)
    (h3 : takerIn (Kf W.w.params) C name = some none) (h4 : hasDictIn (Kf W.w.params) C = true) (h5 : fs.length < 1000) (h : TS W cs k hd rest m (upd σ a (.inst C d (setV fs name v))) Qn Qr ES) :
    ∃ a' C d fs, V.obj a = .obj a' ∧ σ a' = some (.inst C d fs) ∧ findIn (Kf W.w.params) (.ref C) "__setattr__" = some (some (.builtin "object.__setattr__")) ∧ plainOver (Kf W.w.params) C = true ∧
      takerIn (Kf W.w.params) C name = some none ∧ hasDictIn (Kf W.w.params) C = true ∧ fs.length < 1000 ∧ TS W cs k hd rest m (upd σ a' (.inst C d (setV fs name v))) Qn Qr ES := ⟨a, C, d, fs, rfl, e, h1, h2, h3, h4, h5, h⟩
theorem TS.assignAttr {name : Str} (hs : ∀ env : Env, swapsWith e (some (.Attribute o name p2)) pos.line env = pure false)
    (h : TE W cs k hd e m σ (fun v σ₁ => TE W cs k hd o m σ₁ (fun ov σ₂ => ∃ a C d fs, ov = .obj a ∧ σ₂ a = some (.inst C d fs) ∧ findIn (Kf W.w.params) (.ref C) "__setattr__" = some (some (.builtin "object.__setattr__")) ∧ plainOver (Kf W.w.params) C = true ∧
      takerIn (Kf W.w.params) C name = some none ∧ hasDictIn (Kf W.w.params) C = true ∧ fs.length < 1000 ∧ TS W cs k hd rest m (upd σ₂ a (.inst C d (setV fs name v))) Qn Qr ES) (fun p σ' => ES p m σ')) (fun p σ' => ES p m σ')) :
    TS W cs k hd (.Assign [.Attribute o name p2] e pos :: rest) m σ Qn Qr ES := TS.cons (T1.assignAttr hs h)
end stmts
end Mine
end
section
open PySem PySem.W PySem.Spec PySem.Calls PyProof.Rows
set_option maxRecDepth 100000
namespace Mine
theorem small4300 {a : Int} (h : a.natAbs < 10 ^ 20) : a.natAbs < 10 ^ 4300 := Nat.lt_of_lt_of_le h (Nat.pow_le_pow_right (by decide) (by decide))
theorem fdivN (a b : Nat) : ((a : Int)).fdiv (b : Int) = ((a / b : Nat) : Int) := by rw [Int.fdiv_eq_ediv_of_nonneg _ (by omega), Int.natCast_ediv]
theorem fmodN (a b : Nat) : ((a : Int)).fmod (b : Int) = ((a % b : Nat) : Int) := by rw [Int.fmod_eq_emod_of_nonneg _ (by omega), Int.natCast_emod]
noncomputable def strip (l : List Nat) : List Nat := (l.reverse.dropWhile (· == 48)).reverse
theorem strip_last {l : List Nat} (h : l[l.length - 1]? = some 48) : strip l.dropLast = strip l := by
  have hne : l ≠ [] := by rintro rfl; simp at h
  have e : l = l.dropLast ++ [48] := by
    have := List.dropLast_concat_getLast hne
    rw [List.getLast_eq_getElem] at this
    have h' : l[l.length - 1]'(by have := List.length_pos_iff.mpr hne; omega) = 48 := by
      rw [List.getElem?_eq_getElem (by have := List.length_pos_iff.mpr hne; omega)] at h
      exact Option.some.inj h
    rw [h'] at this
    exact this.symm
  conv => rhs; rw [e]
  unfold strip
  simp
theorem strip_end {l : List Nat} {c : Nat} (h : l[l.length - 1]? = some c) (hc : c ≠ 48) : strip l = l := by
  have hne : l ≠ [] := by rintro rfl; simp at h
  have e : l = l.dropLast ++ [c] := by
    have := List.dropLast_concat_getLast hne
    rw [List.getLast_eq_getElem] at this
    have h' : l[l.length - 1]'(by have := List.length_pos_iff.mpr hne; omega) = c := by
      rw [List.getElem?_eq_getElem (by have := List.length_pos_iff.mpr hne; omega)] at h
      exact Option.some.inj h
    rw [h'] at this
    exact this.symm
  rw [e]
  unfold strip
  simp [hc]
theorem strip_le (l : List Nat) : (strip l).length ≤ l.length := by
  unfold strip
  rw [List.length_reverse]
  have := (List.dropWhile_sublist (fun x : Nat => x == 48) (l := l.reverse)).length_le
  simpa using this
noncomputable def wdS (p : Int) (q : Nat) : Nat := (2 * p.natAbs * 1000000 + q) / (2 * q)
noncomputable def wdP (p : Int) (q : Nat) : List Nat := (digs ((1000000 + wdS p q % 1000000 : Nat) : Int)).drop 1
noncomputable def wdT (p : Int) (q : Nat) : List Nat := digs ((wdS p q / 1000000 : Nat) : Int) ++ (if 0 < wdS p q % 1000000 then [46] ++ strip (wdP p q) else [])
noncomputable def wdF (p : Int) (q : Nat) : List Nat := if p < 0 ∧ 0 < wdS p q then [45] ++ wdT p q else wdT p q
noncomputable def wdOk (p : Int) (q : Nat) : Bool := decide ((digs ((wdS p q / 1000000 : Nat) : Int)).length ≤ 1000) && decide ((wdP p q).length ≤ 1000) && decide ((digs ((1000000 + wdS p q % 1000000 : Nat) : Int)).length ≤ 1000) && (decide (wdS p q % 1000000 = 0) || (wdP p q).any (· != 48))
end Mine
end
section
open PySem PySem.W PySem.Spec PySem.Calls PyProof.Rows
set_option maxRecDepth 100000
namespace Mine
noncomputable def Bl : List Nat := [32, 9, 10, 13, 12]
noncomputable def Le : List Nat := [77, 109, 76, 108, 72, 104, 86, 118, 67, 99, 83, 115, 81, 113, 84, 116, 65, 97, 90, 122]
noncomputable def tws (s : List Nat) (t : List Nat) (n : Nat) : List Nat := (t.drop n).takeWhile fun c => decide (c ∈ s)
noncomputable def pk (t : List Nat) (n : Nat) : List Nat := (t.drop n).take 1
theorem pk_some {t : List Nat} {n c : Nat} (h : t[n]? = some c) : pk t n = [c] := by
  unfold pk
  obtain ⟨hl, e⟩ := List.getElem?_eq_some_iff.mp h
  rw [List.drop_eq_getElem_cons hl, e]; rfl
theorem pk_none {t : List Nat} {n : Nat} (h : t.length ≤ n) : pk t n = [] := by unfold pk; rw [List.drop_of_length_le h]; rfl
theorem pk_cases (t : List Nat) (n : Nat) : (t.length ≤ n ∧ t[n]? = none ∧ pk t n = []) ∨ ∃ c, n < t.length ∧ t[n]? = some c ∧ pk t n = [c] := by
  by_cases h : n < t.length
  · exact .inr ⟨t[n], h, List.getElem?_eq_getElem h, pk_some (List.getElem?_eq_getElem h)⟩
  · exact .inl ⟨by omega, List.getElem?_eq_none (by omega), pk_none (by omega)⟩
theorem pk_any (t : List Nat) (n a b : Nat) : [V.str [a], V.str [b]].any (strIs (pk t n)) = hasAt t n [a, b] := by
  rcases pk_cases t n with ⟨_, h1, h2⟩ | ⟨c, _, h1, h2⟩
  · rw [h2]; unfold hasAt; rw [h1]; simp [strIs]
  · rw [h2]; unfold hasAt; rw [h1]; simp [strIs, eq_comm, Bool.decide_or, List.any]; rfl
theorem pk_eq (t : List Nat) (n a : Nat) : (pk t n == [a]) = hasAt t n [a] := by
  rcases pk_cases t n with ⟨_, h1, h2⟩ | ⟨c, _, h1, h2⟩
  · rw [h2]; unfold hasAt; rw [h1]; rfl
  · rw [h2]; unfold hasAt; rw [h1]
    by_cases h : c = a <;> simp [h]
theorem tws_place (s t : List Nat) (n : Nat) (h : n ≤ t.length) : n + (tws s t n).length ≤ t.length := by
  have := tw_len (p := fun c => decide (c ∈ s)) (t.drop n)
  rw [List.length_drop] at this
  unfold tws; omega
theorem hasAt_tws {s t : List Nat} {n j : Nat} (hj : j ≤ (tws s t n).length) : hasAt t (n + j) s = decide (j < (tws s t n).length) := by
  unfold tws at *
  unfold hasAt
  by_cases h : j < ((t.drop n).takeWhile fun c => decide (c ∈ s)).length
  · obtain ⟨c, e, hp⟩ := tw_lt h
    rw [List.getElem?_drop] at e
    rw [e, decide_eq_true h]; exact hp
  · have hj' : j = ((t.drop n).takeWhile fun c => decide (c ∈ s)).length := by omega
    rw [decide_eq_false h]
    cases e : t[n + j]? with
    | none => rfl
    | some c =>
      rw [← List.getElem?_drop, hj'] at e
      exact tw_end e
noncomputable def sepF (t : List Nat) (n : Nat) : Bool × Nat :=
  if hasAt t (n + (tws Bl t n).length) [44] then (true, n + (tws Bl t n).length + 1 + (tws Bl t (n + (tws Bl t n).length + 1)).length) else (false, n + (tws Bl t n).length)
noncomputable def looksF (t : List Nat) (n : Nat) : Bool := hasAt t n ([43, 45, 46] ++ D)
noncomputable def expSkip (t : List Nat) (n : Nat) : Nat :=
  if hasAt t n [101, 69] then (if tw t (n + 1 + (oneAt t (n + 1) [43, 45]).length) = [] then n else n + 1 + (oneAt t (n + 1) [43, 45]).length + (tw t (n + 1 + (oneAt t (n + 1) [43, 45]).length)).length) else n
noncomputable def numW (t : List Nat) (n : Nat) : List Nat := tw t (n + (oneAt t n [43, 45]).length)
noncomputable def numP (t : List Nat) (n : Nat) : Nat := n + (oneAt t n [43, 45]).length + (numW t n).length
noncomputable def numE (t : List Nat) (n : Nat) : Nat := expSkip t (numP t n + (oneAt t (numP t n) [46]).length + (fAt t (numP t n)).length)
noncomputable def numF (t : List Nat) (n : Nat) : Option ((Int × Int) × Nat) :=
  if (numW t n).length + (fAt t (numP t n)).length = 0 then none else (readDec ((t.drop n).take (numE t n - n))).map fun r => (r, numE t n)
theorem one_len {t : List Nat} {n : Nat} {s : List Nat} : (oneAt t n s).length = if hasAt t n s then 1 else 0 := by
  cases h : hasAt t n s with
  | false => rw [hasAt_false h]; rfl
  | true => obtain ⟨c, _, _, _, e⟩ := hasAt_true h; rw [e]; rfl
theorem Fg.fresh {Q : V → Store → Prop} {v : V} {σ : Store} {a : Nat} {c : Cell} (h : σ a = none) (q : Q v σ) : Fg Q v (upd σ a c) := ⟨σ, fun b d e => by
  by_cases hb : b = a
  · subst hb; rw [h] at e; cases e
  · rw [upd_ne _ _ hb]; exact e, q⟩
end Mine
end
section
open PySem PySem.W PySem.Spec PySem.Calls PyProof.Rows
set_option maxRecDepth 100000
namespace Mine
theorem upd_comm (σ : Store) {a b : Nat} (x y : Cell) (h : a ≠ b) : upd (upd σ a x) b y = upd (upd σ b y) a x := by
  funext i; unfold upd; by_cases h1 : i = a <;> by_cases h2 : i = b <;> simp_all
noncomputable def manyF (c : Nat) : Nat := if c ∈ [77, 109, 76, 108, 84, 116] then 2 else if c ∈ [72, 104, 86, 118] then 1 else if c ∈ [67, 99] then 6 else if c ∈ [83, 115, 81, 113] then 4 else if c ∈ [65, 97] then 7 else 0
noncomputable def behF (c : Nat) : Nat := if c = 77 then 76 else if c = 109 then 108 else c
noncomputable def arcF (c : Nat) : Bool := decide (c ∈ [65, 97])
noncomputable def cmdV (c : Nat) (gs : List V) : V := .tup [.str [c], .tup gs]
noncomputable def preF (t : List Nat) (i n : Nat) : Nat := if 0 < i then (sepF t n).2 else n
noncomputable def flagAt (arc : Bool) (i : Nat) : Bool := arc && (decide (i = 3) || decide (i = 4))
inductive Step (t : List Nat) (arc : Bool) (i n : Nat) : V → Nat → Prop
  | flag (b : Nat) : b < 2 → flagAt arc i = true → pk t (preF t i n) = [48 + b] → Step t arc i n (.int b) (preF t i n + 1)
  | num {p q : Int} {n' : Nat} : flagAt arc i = false → numF t (preF t i n) = some ((p, q), n') → Step t arc i n (.tup [.int p, .int q]) n'
inductive Grp (t : List Nat) (arc : Bool) : Nat → Nat → Nat → List V → Nat → Prop
  | nil {i n : Nat} : Grp t arc i 0 n [] n
  | cons {i r n n1 n2 : Nat} {v : V} {vs : List V} : Step t arc i n v n1 → n1 ≤ t.length → Grp t arc (i + 1) r n1 vs n2 → Grp t arc i (r + 1) n (v :: vs) n2
mutual
inductive RunA (t : List Nat) : Bool → Nat → List V → Option Nat → Prop
  | fin {fst : Bool} {n : Nat} : n ≤ t.length → n + (tws Bl t n).length = t.length → RunA t fst n [] none
  | bad {fst : Bool} {n c : Nat} : n ≤ t.length → t[n + (tws Bl t n).length]? = some c → c ∉ Le → RunA t fst n [] (some (n + (tws Bl t n).length))
  | go {fst : Bool} {n c : Nat} {vs : List V} {o : Option Nat} : n ≤ t.length → t[n + (tws Bl t n).length]? = some c → c ∈ Le → RunL t fst c (n + (tws Bl t n).length + 1) vs o → RunA t fst n vs o
inductive RunL (t : List Nat) : Bool → Nat → Nat → List V → Option Nat → Prop
  | nomove {c n : Nat} : c ∉ [77, 109] → RunL t true c (n + 1) [] (some n)
  | z {c n : Nat} {vs : List V} {o : Option Nat} : c ∈ [90, 122] → RunA t false n vs o → RunL t false c n (cmdV c [] :: vs) o
  | cmd {fst : Bool} {c n n2 : Nat} {gs vs : List V} {o : Option Nat} : (fst = true → c ∈ [77, 109]) → c ∉ [90, 122] → Grp t (arcF c) 0 (manyF c) (n + (tws Bl t n).length) gs n2 → RunB t (behF c) n2 vs o → RunL t fst c n (cmdV c gs :: vs) o
inductive RunB (t : List Nat) : Nat → Nat → List V → Option Nat → Prop
  | more {l n n2 : Nat} {gs vs : List V} {o : Option Nat} : n ≤ t.length → looksF t (sepF t n).2 = true → Grp t (arcF l) 0 (manyF l) (sepF t n).2 gs n2 → RunB t l n2 vs o → RunB t l n (cmdV l gs :: vs) o
  | stop {l n : Nat} {vs : List V} {o : Option Nat} : n ≤ t.length → looksF t (sepF t n).2 = false → (sepF t n).1 = false → RunA t false (sepF t n).2 vs o → RunB t l n vs o
  | comma {l n : Nat} : n ≤ t.length → looksF t (sepF t n).2 = false → (sepF t n).1 = true → RunB t l n [] (some (sepF t n).2)
end
theorem sepF_le {t : List Nat} {n : Nat} (h : n ≤ t.length) : (sepF t n).2 ≤ t.length := by
  have h1 := tws_place Bl t n h
  unfold sepF
  by_cases hc : hasAt t (n + (tws Bl t n).length) [44] = true
  · rw [if_pos hc]
    exact tws_place Bl t _ (hasAt_true hc).choose_spec.2.1
  · rw [if_neg hc]; exact h1
theorem preF_le {t : List Nat} {i n : Nat} (h : n ≤ t.length) : preF t i n ≤ t.length := by
  unfold preF; split
  · exact sepF_le h
  · exact h
noncomputable def isItem : V → Bool
  | .int _ => true
  | .tup [.int _, .int _] => true
  | _ => false
noncomputable def isCmd : V → Bool
  | .tup [.str [c], .tup gs] => decide (c < 128) && gs.all isItem
  | _ => false
theorem Step.item {t : List Nat} {arc : Bool} {i n n1 : Nat} {v : V} (h : Step t arc i n v n1) : isItem v = true := by cases h <;> rfl
theorem Grp.items {t : List Nat} {arc : Bool} {i r n n2 : Nat} {vs : List V} (h : Grp t arc i r n vs n2) : vs.all isItem = true ∧ vs.length = r := by
  induction h with
  | nil => exact ⟨rfl, rfl⟩
  | cons a _ _ ih => exact ⟨by rw [List.all_cons, a.item, ih.1]; rfl, by rw [List.length_cons, ih.2]⟩
theorem Grp.le {t : List Nat} {arc : Bool} {i r n n2 : Nat} {vs : List V} (h : Grp t arc i r n vs n2) (hn : n ≤ t.length) : n2 ≤ t.length := by
  induction h with
  | nil => exact hn
  | cons a hl _ ih => exact ih hl
theorem items_data : ∀ {vs : List V}, vs.all isItem = true → ∃ ds, V.datas vs = some ds ∧ PyData.canLayAll0 ds = true ∧ PyData.depthAll ds ≤ 1
  | [], _ => ⟨[], rfl, rfl, Nat.zero_le _⟩
  | v :: vs, h => by
    rw [List.all_cons, Bool.and_eq_true] at h
    obtain ⟨ds, e1, e2, e3⟩ := items_data h.2
    have hv := h.1
    unfold isItem at hv
    split at hv
    · rename_i i
      exact ⟨.int i :: ds, by unfold V.datas; rw [e1]; rfl, by unfold PyData.canLayAll0; rw [e2]; rfl, by unfold PyData.depthAll; simp [PyData.depth]; exact e3⟩
    · rename_i i j
      refine ⟨.tuple [.int i, .int j] :: ds, by unfold V.datas; rw [e1]; rfl, by unfold PyData.canLayAll0; rw [e2]; rfl, ?_⟩
      unfold PyData.depthAll
      simp [PyData.depth, PyData.depthAll]; omega
    · cases hv
theorem strOk_sign {c : Nat} (h : c < 128) : (PyData.str (S [c])).canLay0 = true := by
  show PyData.strOk (S [c]) = true
  unfold PyData.strOk
  have : c < 1114112 := by omega
  simp [S, this]
theorem cmds_data : ∀ {vs : List V}, vs.all isCmd = true → ∃ ds, V.datas vs = some ds ∧ PyData.canLayAll0 ds = true ∧ PyData.depthAll ds ≤ 3 ∧ (ds = [] ↔ vs = [])
  | [], _ => ⟨[], rfl, rfl, Nat.zero_le _, by simp⟩
  | v :: vs, h => by
    rw [List.all_cons, Bool.and_eq_true] at h
    obtain ⟨ds, e1, e2, e3, _⟩ := cmds_data h.2
    have hv := h.1
    unfold isCmd at hv
    split at hv
    · rename_i c gs
      rw [Bool.and_eq_true, decide_eq_true_eq] at hv
      obtain ⟨es, f1, f2, f3⟩ := items_data hv.2
      refine ⟨.tuple [.str (S [c]), .tuple es] :: ds, ?_, ?_, ?_, by simp⟩
      · unfold V.datas; rw [e1]
        have : (V.tup [.str [c], .tup gs]).data = some (.tuple [.str (S [c]), .tuple es]) := by
          simp only [V.data, V.datas, f1]; rfl
        rw [this]
      · unfold PyData.canLayAll0; rw [e2]
        show ((PyData.str (S [c])).canLay0 && (PyData.canLayAll0 es && true)) && true = true
        rw [strOk_sign hv.1, f2]; rfl
      · unfold PyData.depthAll
        simp only [PyData.depth, PyData.depthAll]
        omega
    · cases hv
end Mine
end
section
open PySem PySem.W PySem.Spec PySem.Calls PyProof.Rows
set_option maxRecDepth 100000
namespace Mine
noncomputable def shortF (w : List Nat) : List Nat := if w.take 2 = [48, 46] then w.drop 1 else if w.take 3 = [45, 48, 46] then 45 :: w.drop 2 else w
noncomputable def wantsF (ahead text : List Nat) : Bool := if ahead = [] then false else if text.take 1 = [45] then false else !(decide (text.take 1 = [46]) && decide (46 ∈ ahead))
structure Pr where
  ps : List (List Nat)
  l : List Nat
  la : List Nat
noncomputable def putL (c : Nat) (s : Pr) : Pr :=
  if [c] ≠ s.l ∨ c ∈ [90, 122] then ⟨s.ps ++ [[c]], if c ∈ [90, 122] then [] else [behF c], []⟩ else ⟨s.ps, if c ∈ [90, 122] then [] else [behF c], s.la⟩
noncomputable def putT (text : List Nat) (s : Pr) : Pr := ⟨s.ps ++ ((if wantsF s.la text then [[32]] else []) ++ [text]), s.l, text⟩
noncomputable def putB (b : Nat) (s : Pr) : Pr := ⟨s.ps ++ ((if s.la ≠ [] then [[32]] else []) ++ [[48 + b]]), s.l, []⟩
noncomputable def putV : V → Pr → Pr
  | .tup [.int p, .int q], s => putT (shortF (wdF p q.toNat)) s
  | .int b, s => putB b.toNat s
  | _, s => s
noncomputable def putVs : List V → Pr → Pr
  | [], s => s
  | v :: vs, s => putVs vs (putV v s)
noncomputable def putC : V → Pr → Pr
  | .tup [.str [c], .tup gs], s => putVs gs (putL c s)
  | _, s => s
noncomputable def putCs : List V → Pr → Pr
  | [], s => s
  | v :: vs, s => putCs vs (putC v s)
end Mine
end
section
open PySem PySem.W PySem.Spec PySem.Calls PyProof.Rows
set_option maxRecDepth 100000
namespace Mine
noncomputable def tops : List Int := [0, 1, -1, 5, -25, 50, 125, -1375, 70000]
noncomputable def absF (top : Int) : Int := if top ≥ 0 then top else 0 - top
noncomputable def sizeF (top : Int) (pl : Nat) : List Nat := List.replicate (pl + 1 - (digs (absF top)).length) 48 ++ digs (absF top)
noncomputable def pointedF (top : Int) (pl : Nat) : List Nat := (if top < 0 then [45] else []) ++ (sizeF top pl).take ((sizeF top pl).length - pl) ++ [46] ++ (sizeF top pl).drop ((sizeF top pl).length - pl)
noncomputable def gcdF (top : Int) (pl : Nat) : Nat := Nat.gcd top.natAbs (10 ^ pl)
noncomputable def numPF (top : Int) (pl : Nat) : Int := top.fdiv (gcdF top pl : Nat)
noncomputable def numQF (top : Int) (pl : Nat) : Nat := 10 ^ pl / gcdF top pl
noncomputable def toldF (top : Int) (pl : Nat) : List (List Nat) :=
  if pl = 0 then (if top ≥ 0 then [digs top, [43] ++ digs top, [48] ++ digs top] else [digs top, digs top ++ [46, 48]])
  else [digs top ++ [101, 45] ++ digs pl, pointedF top pl]
end Mine
end
section
open PySem PySem.W PySem.Spec PySem.Calls PyProof.Rows
set_option maxRecDepth 100000
set_option maxHeartbeats 2000000
namespace Mine
section
variable {W : Wd Mine.hd.heap_39} {k : Nat} {σ : Store} {E : Int → Store → Prop}
theorem common_divisor_ok {a b : Int} (hb : 0 ≤ b) : CO W (k+1) 72 [.int a, .int b] σ (fun v σ' => v = .int (Nat.gcd a.natAbs b.natAbs : Nat) ∧ σ' = σ) E := by
  refine' CO.def (ns := ["one", "other"]) ?ho ?hcd ?hb ?hl ?hn ?hc ?h1 ?h2 ?h3 ?h
  case ho => exact rfl
  case hcd => exact rfl
  case hb => first | exact fun s vals X r => binds2 (fun a b => BindsTo.of_eq rfl) r | exact fun s vals X r => binds2 (fun a b => binds_K X rfl rfl rfl rfl rfl) r
  case hl => rfl
  case hn => decide
  case hc => rfl
  case h1 => rfl
  case h2 => rfl
  case h3 => rfl
  case h =>
    with_reducible refine TS.cons ?_
    refine T1.assignTup (names := ["first", "second"]) rfl (by intros; rfl) (by intros; with_unfolding_all rfl) (by rfl) ?_
    with_reducible refine TE.tuple ?_
    refine TEs.cons' rfl ?_
    (refine' TE.callBL1 ?zze ?zzv ?zzn ?zzx ?zzc rfl rfl rfl ?_ ?zzd; (case zze => rfl); (case zzv => boot_fast); (case zzn => decide); (case zzx => rfl); (case zzc => exact .builtin _); (case zzd => decide))
    with_reducible refine TO.abs ?_
    refine TEs.L1 rfl rfl rfl ?_
    refine ⟨by simp [sizeLine_eq], _, rfl, rfl, ?_⟩
    with_reducible refine TS.cons ?_
    refine T1.while b.natAbs (fun n m' σ' => ∃ x y : Nat, m' = ([("one", .int a), ("other", .int b), ("second", .int y), ("first", .int x)] : Loc) ∧ σ' = σ ∧ Nat.gcd x y = Nat.gcd a.natAbs b.natAbs ∧ n = y) ⟨a.natAbs, b.natAbs, ?_, rfl, rfl, rfl⟩ ?_
    · have e1 : (if a < 0 then -a else a) = (a.natAbs : Int) := by split <;> omega
      have e2 : b = (b.natAbs : Int) := by omega
      rw [e1, ← e2]; rfl
    · rintro n m' σ' ⟨x, y, rfl, rfl, hg, rfl⟩
      refine TB.cmpLI rfl rfl rfl ?_
      with_reducible refine TO.gtI ?_
      refine testB (fun h => ?_) (fun h => ?_)
      · have hy : 0 < n := by simpa using h
        with_reducible refine TS.cons ?_
        refine T1.assignTup (names := ["first", "second"]) rfl (by intros; rfl) (by intros; with_unfolding_all rfl) (by rfl) ?_
        with_reducible refine TE.tuple ?_
        refine TEs.L rfl rfl rfl ?_
        refine TEs.cons' rfl ?_
        refine TE.binLL rfl rfl rfl rfl ?_
        refine TO.fmod (by omega) ?_
        with_reducible refine TEs.nil ?_
        refine ⟨by simp [sizeLine_eq], _, rfl, rfl, ?_⟩
        with_reducible refine TS.nil ?_
        refine ⟨x % n, Nat.mod_lt _ hy, n, x % n, ?_, rfl, ?_, rfl⟩
        · have : (x : Int).fmod n = ((x % n : Nat) : Int) := by rw [Int.fmod_eq_emod_of_nonneg _ (by omega)]; rfl
          rw [this]; rfl
        · rw [← hg, Nat.gcd_comm n, ← Nat.gcd_rec, Nat.gcd_comm]
      · have hy : n = 0 := by simpa using h
        subst hy
        with_reducible refine TS.ret ?_
        refine TE.local rfl rfl ?_
        exact .here ⟨by rw [← hg]; simp, rfl⟩
noncomputable def nt (d : Nat) (t : List Nat) (n : Nat) : Cell := .inst 118 d [("text", .str t), ("at", .int n)]
theorem fraction_ok {a b : Int} (hb : 0 < b) (hs : b.natAbs < 2 ^ 64) : CO W (k+2) 80 [.int a, .int b] σ (fun v σ' => v = .tup [.int (fracF a b).1, .int (fracF a b).2] ∧ σ' = σ) E := by
  refine' CO.def (ns := ["top", "bottom"]) ?ho ?hcd ?hb ?hl ?hn ?hc ?h1 ?h2 ?h3 ?h
  case ho => exact rfl
  case hcd => exact rfl
  case hb => first | exact fun s vals X r => binds2 (fun a b => BindsTo.of_eq rfl) r | exact fun s vals X r => binds2 (fun a b => binds_K X rfl rfl rfl rfl rfl) r
  case hl => rfl
  case hn => decide
  case hc => rfl
  case h1 => rfl
  case h2 => rfl
  case h3 => rfl
  case h =>
    with_reducible refine TS.if ?_
    refine TB.cmpLI rfl rfl rfl ?_
    with_reducible refine TO.eqI ?_
    refine testB (fun h => absurd h (by simp; omega)) (fun _ => ?_)
    with_reducible refine TS.nil ?_
    with_reducible refine TS.if ?_
    refine TB.cmpLI rfl rfl rfl ?_
    with_reducible refine TO.ltI ?_
    refine testB (fun h => absurd h (by simp; omega)) (fun _ => ?_)
    with_reducible refine TS.nil ?_
    refine TS.assign (by intros; rfl) rfl ?_
    refine TE.callL rfl rfl rfl rfl rfl rfl ?_
    refine TEs.L1 rfl rfl rfl ?_
    refine (common_divisor_ok (by omega)).useEq ?_
    have hg : 0 < Nat.gcd a.natAbs b.natAbs := Nat.gcd_pos_of_pos_right _ (by omega)
    have hl : ((Nat.gcd a.natAbs b.natAbs : Nat) : Int).natAbs.log2 < 9000 := by
      rw [Int.natAbs_natCast]
      exact log_small (Nat.lt_of_le_of_lt (Nat.gcd_le_right _ (by omega)) hs)
    with_reducible refine TS.ret ?_
    with_reducible refine TE.tuple ?_
    refine TEs.cons' rfl ?_
    refine TE.binLL rfl rfl rfl rfl ?_
    refine TO.fdiv (by omega) hl ?_
    refine TEs.cons' rfl ?_
    refine TE.binLL rfl rfl rfl rfl ?_
    refine TO.fdiv (by omega) hl ?_
    with_reducible refine TEs.nil ?_
    exact ⟨by simp [sizeLine_eq], .here ⟨rfl, rfl⟩⟩
theorem nt_init {x d : Nat} {t : List Nat} : CO W (k+1) 94 [.obj x, .str t] (upd σ x (.inst 118 d [])) (fun v σ' => v = .none ∧ σ' = upd σ x (nt d t 0)) E := by
  refine' CO.def (ns := ["self", "text"]) ?ho ?hcd ?hb ?hl ?hn ?hc ?h1 ?h2 ?h3 ?h
  case ho => exact rfl
  case hcd => exact rfl
  case hb => first | exact fun s vals X r => binds2 (fun a b => BindsTo.of_eq rfl) r | exact fun s vals X r => binds2 (fun a b => binds_K X rfl rfl rfl rfl rfl) r
  case hl => rfl
  case hn => decide
  case hc => rfl
  case h1 => rfl
  case h2 => rfl
  case h3 => rfl
  case h =>
    refine TS.assignAttr (by intros; rfl) ?_
    refine TE.local rfl rfl ?_
    refine TE.local rfl rfl ?_
    refine setTo (C := 118) (upd_self _ _ _) rfl rfl rfl rfl (by simp) ?_
    rw [upd_upd]
    refine TS.assignAttr (by intros; rfl) ?_
    with_reducible refine TE.int ?_
    refine TE.local rfl rfl ?_
    refine setTo (C := 118) (upd_self _ _ _) rfl rfl rfl rfl (by simp [setV]) ?_
    rw [upd_upd]
    with_reducible refine TS.nil ?_
    exact .here ⟨rfl, rfl⟩
theorem nt_is_one_of {a d n : Nat} {t s : List Nat} (e : σ a = some (nt d t n)) (hn : n ≤ t.length) (hz : t.length ≤ 1000000) : CO W (k+1) 101 [.obj a, .str s] σ (fun v σ' => v = .bool (hasAt t n s) ∧ σ' = σ) E := by
  refine' CO.def (ns := ["self", "signs"]) ?ho ?hcd ?hb ?hl ?hn ?hc ?h1 ?h2 ?h3 ?h
  case ho => exact rfl
  case hcd => exact rfl
  case hb => first | exact fun s vals X r => binds2 (fun a b => BindsTo.of_eq rfl) r | exact fun s vals X r => binds2 (fun a b => binds_K X rfl rfl rfl rfl rfl) r
  case hl => rfl
  case hn => decide
  case hc => rfl
  case h1 => rfl
  case h2 => rfl
  case h3 => rfl
  case h =>
    unfold nt at e
    with_reducible refine TS.ret ?_
    with_reducible refine TE.bools ?_
    with_reducible refine TV.and ?_
    refine TE.compare rfl ?_
    refine TE.attrI (by intros; rfl) (by intros; rfl) rfl rfl (by first | assumption | exact upd_self _ _ _) rfl rfl rfl rfl rfl ?_
    (refine' TE.callB ?zze ?zzv ?zzn ?zzx ?zzc rfl ?_ ?zzd; (case zze => rfl); (case zzv => boot_fast); (case zzn => decide); (case zzx => rfl); (case zzc => exact .builtin _); (case zzd => decide))
    refine TEs.cons' rfl ?_
    refine TE.attrI (by intros; rfl) (by intros; rfl) rfl rfl (by first | assumption | exact upd_self _ _ _) rfl rfl rfl rfl rfl ?_
    with_reducible refine TEs.nil ?_
    refine TO.lenS (by rw [sizeLine_eq]; omega) ?_
    with_reducible refine TO.ltI ?_
    with_reducible refine Tru.bool ?_
    refine ⟨fun h => ?_, fun h => ?_⟩
    · have hl : n < t.length := by simpa using h
      with_reducible refine TV.one ?_
      refine TE.compare rfl ?_
      refine TE.item (by intros; rfl) ?_
      refine TE.attrI (by intros; rfl) (by intros; rfl) rfl rfl (by first | assumption | exact upd_self _ _ _) rfl rfl rfl rfl rfl ?_
      refine TE.attrI (by intros; rfl) (by intros; rfl) rfl rfl (by first | assumption | exact upd_self _ _ _) rfl rfl rfl rfl rfl ?_
      refine ⟨trivial, TO.itemStr (j := n) (x := t[n]) (by omega) (by omega) (seqIx hl) (by simp [hl]) ?_⟩
      refine TE.local rfl rfl ?_
      with_reducible refine TO.inS ?_
      exact .here ⟨by simp [hasAt, hl], rfl⟩
    · have hl : ¬ n < t.length := by simpa using h
      exact .here ⟨by simp [hasAt, hl], rfl⟩
theorem nt_skip {a d n : Nat} {t s : List Nat} (e : σ a = some (nt d t n)) (hn : n ≤ t.length) (hz : t.length ≤ 1000000) : CO W (k+2) 108 [.obj a, .str s] σ (fun v σ' => v = .str (oneAt t n s) ∧ σ' = upd σ a (nt d t (n + (oneAt t n s).length))) E := by
  refine' CO.def (ns := ["self", "signs"]) ?ho ?hcd ?hb ?hl ?hn ?hc ?h1 ?h2 ?h3 ?h
  case ho => exact rfl
  case hcd => exact rfl
  case hb => first | exact fun s vals X r => binds2 (fun a b => BindsTo.of_eq rfl) r | exact fun s vals X r => binds2 (fun a b => binds_K X rfl rfl rfl rfl rfl) r
  case hl => rfl
  case hn => decide
  case hc => rfl
  case h1 => rfl
  case h2 => rfl
  case h3 => rfl
  case h =>
    have e0 := e
    unfold nt at e
    with_reducible refine TS.if ?_
    with_reducible refine TB.not ?_
    refine TB.value (by intros; rfl) ?_
    refine TE.mI (by intros; rfl) rfl rfl rfl (by first | assumption | exact upd_self _ _ _) rfl rfl rfl rfl rfl ?_
    refine TEs.L1 rfl rfl rfl ?_
    refine (nt_is_one_of e0 hn hz).useEq ?_
    with_reducible refine Tru.bool ?_
    refine ⟨fun h => ?_, fun h => ?_⟩
    · have h' : hasAt t n s = false := by simpa using h
      with_reducible refine TS.ret ?_
      refine TE.str lit9 ?_
      refine .here ⟨by rw [hasAt_false h'], ?_⟩
      rw [hasAt_false h', List.length_nil, Nat.add_zero, upd_same _ e0]
    · have h' : hasAt t n s = true := by simpa using h
      obtain ⟨c, hc, hl, hm, ho⟩ := hasAt_true h'
      with_reducible refine TS.nil ?_
      with_reducible refine TS.cons ?_
      refine T1.augAttr ?_
      refine TE.local rfl rfl ?_
      refine TO.getInst (by first | assumption | exact upd_self _ _ _) rfl rfl rfl rfl rfl ?_
      with_reducible refine TE.int ?_
      with_reducible refine TO.iadd ?_
      refine setTo (C := 118) (e) rfl rfl rfl rfl (by simp) ?_
      with_reducible refine TS.ret ?_
      refine TE.item (by intros; rfl) ?_
      refine TE.attrI (by intros; rfl) (by intros; rfl) rfl rfl (by first | assumption | exact upd_self _ _ _) rfl rfl rfl rfl rfl ?_
      with_reducible refine TE.binop ?_
      refine TE.attrI (by intros; rfl) (by intros; rfl) rfl rfl (by first | assumption | exact upd_self _ _ _) rfl rfl rfl rfl rfl ?_
      with_reducible refine TE.int ?_
      with_reducible refine TO.sub ?_
      rw [show (n : Int) + 1 - 1 = (n : Int) from by omega]
      refine ⟨trivial, TO.itemStr (j := n) (x := c) (by omega) (by omega) (seqIx hl) hc ?_⟩
      exact .here ⟨by rw [ho], by rw [ho]; rfl⟩
theorem nt_digits {a d n : Nat} {t : List Nat} (e : σ a = some (nt d t n)) (hn : n ≤ t.length) (hz : t.length ≤ 1000000) : CO W (k+2) 115 [.obj a] σ (fun v σ' => v = .str (tw t n) ∧ σ' = upd σ a (nt d t (n + (tw t n).length))) E := by
  refine' CO.def (ns := ["self"]) ?ho ?hcd ?hb ?hl ?hn ?hc ?h1 ?h2 ?h3 ?h
  case ho => exact rfl
  case hcd => exact rfl
  case hb => first | exact fun s vals X r => binds1 (fun a => BindsTo.of_eq rfl) r | exact fun s vals X r => binds1 (fun a => binds_K X rfl rfl rfl rfl rfl) r
  case hl => rfl
  case hn => decide
  case hc => rfl
  case h1 => rfl
  case h2 => rfl
  case h3 => rfl
  case h =>
    have e0 := e
    unfold nt at e
    have hp := tw_place t n hn
    refine TS.assign (by intros; rfl) rfl ?_
    refine TE.attrI (by intros; rfl) (by intros; rfl) rfl rfl (by first | assumption | exact upd_self _ _ _) rfl rfl rfl rfl rfl ?_
    with_reducible refine TS.cons ?_
    refine T1.while (tw t n).length (fun μ m' σ' => ∃ j, m' = ([("self", .obj a), ("begin", .int n)] : Loc) ∧ σ' = upd σ a (nt d t (n + j)) ∧ j + μ = (tw t n).length) ⟨0, rfl, (upd_same _ e0).symm, by omega⟩ ?_
    rintro μ m' σ' ⟨j, rfl, rfl, hj⟩
    refine TB.value (by intros; rfl) ?_
    refine TE.mI (by intros; rfl) rfl rfl rfl (by first | assumption | exact upd_self _ _ _) rfl rfl rfl rfl rfl ?_
    refine TEs.cons' rfl ?_
    refine TE.global (v := .str D) rfl (fun _ _ => .str D _) rfl ?_
    with_reducible refine TEs.nil ?_
    refine (nt_is_one_of (upd_self _ _ _) (by omega) hz).useEq ?_
    rw [hasAt_tw (by omega)]
    with_reducible refine Tru.bool ?_
    refine ⟨fun h => ?_, fun h => ?_⟩
    · have h' : j < (tw t n).length := by simpa using h
      with_reducible refine TS.cons ?_
      refine T1.augAttr ?_
      refine TE.local rfl rfl ?_
      refine TO.getInst (by first | assumption | exact upd_self _ _ _) rfl rfl rfl rfl rfl ?_
      with_reducible refine TE.int ?_
      with_reducible refine TO.iadd ?_
      refine setTo (C := 118) (upd_self _ _ _) rfl rfl rfl rfl (by simp) ?_
      with_reducible refine TS.nil ?_
      exact ⟨μ - 1, by omega, j + 1, rfl, by rw [upd_upd]; rfl, by omega⟩
    · have h' : j = (tw t n).length := by
        have : ¬ j < (tw t n).length := by simpa using h
        omega
      subst h'
      with_reducible refine TS.ret ?_
      with_reducible refine TE.slice ?_
      refine TE.attrI (by intros; rfl) (by intros; rfl) rfl rfl (by first | assumption | exact upd_self _ _ _) rfl rfl rfl rfl rfl ?_
      with_reducible refine TP.some ?_
      refine TE.local rfl rfl ?_
      refine ⟨_, rfl, ?_⟩
      with_reducible refine TP.some ?_
      refine TE.attrI (by intros; rfl) (by intros; rfl) rfl rfl (by first | assumption | exact upd_self _ _ _) rfl rfl rfl rfl rfl ?_
      refine ⟨_, rfl, t, rfl, sz hz, .here ⟨?_, rfl⟩⟩
      rw [cut_two, take_tw]
theorem whole_of_ok {ds : List Nat} (hd : ∀ c ∈ ds, isDig c = true) : CO W (k+1) 129 [.str ds] σ (fun v σ' => v = .int (wholeOf ds) ∧ σ' = σ) E := by
  refine' CO.def (ns := ["digits"]) ?ho ?hcd ?hb ?hl ?hn ?hc ?h1 ?h2 ?h3 ?h
  case ho => exact rfl
  case hcd => exact rfl
  case hb => first | exact fun s vals X r => binds1 (fun a => BindsTo.of_eq rfl) r | exact fun s vals X r => binds1 (fun a => binds_K X rfl rfl rfl rfl rfl) r
  case hl => rfl
  case hn => decide
  case hc => rfl
  case h1 => rfl
  case h2 => rfl
  case h3 => rfl
  case h =>
    refine TS.assign (by intros; rfl) rfl ?_
    with_reducible refine TE.int ?_
    with_reducible refine TS.cons ?_
    refine T1.for rfl (by intros; rfl) ?_
    refine TE.local rfl rfl ?_
    refine ⟨_, fun i m' σ' => σ' = σ ∧ getV m' "digits" = some (.str ds) ∧ getV m' "number" = some (.int (wholeOf (ds.take i))), .str ds ?_, ⟨rfl, rfl, rfl⟩, ?_, ?_⟩
    · rw [List.all_eq_true]
      intro c hc
      have : c ∈ D := by simpa [isDig] using hd c hc
      simp only [D, List.mem_cons, List.not_mem_nil, or_false] at this
      exact decide_eq_true (by omega)
    · rintro i v m' σ' hi ⟨rfl, h1, h2⟩
      rw [List.getElem?_map] at hi
      obtain ⟨c, hc, rfl⟩ := Option.map_eq_some_iff.mp hi
      have hcd : isDig c = true := hd c (List.mem_of_getElem? hc)
      obtain ⟨rest, ho⟩ := dig_idx hcd
      refine TA.name rfl ?_
      have g1 : getV (setV m' "digit" (.str [c])) "number" = some (.int (wholeOf (ds.take i))) := by rw [getV_setV, if_neg (by decide)]; exact h2
      have g2 : getV (setV m' "digit" (.str [c])) "digit" = some (.str [c]) := by rw [getV_setV, if_pos rfl]
      have g3 : getV (setV m' "digit" (.str [c])) "digits" = some (.str ds) := by rw [getV_setV, if_neg (by decide)]; exact h1
      refine TS.assign (by intros; rfl) rfl ?_
      with_reducible refine TE.binop ?_
      with_reducible refine TE.binop ?_
      refine TE.local g1 rfl ?_
      with_reducible refine TE.int ?_
      refine TO.mul (mulOk_right (by decide)) ?_
      refine TE.method (by intros; rfl) rfl ?_
      refine TE.global (v := .str D) rfl (fun _ _ => .str D _) rfl ?_
      refine ⟨_, GM.index, ?_⟩
      refine TEs.cons' rfl ?_
      refine TE.local g2 rfl ?_
      with_reducible refine TEs.nil ?_
      refine TO.index ho ?_
      with_reducible refine TO.add ?_
      with_reducible refine TS.nil ?_
      refine ⟨rfl, ?_, ?_⟩
      · rw [getV_setV, if_neg (by decide)]; exact g3
      · rw [getV_setV, if_pos rfl, List.take_add_one, hc]
        simp [wholeOf, List.foldl_append]
    · rintro m' σ' ⟨rfl, h1, h2⟩
      rw [List.length_map, List.take_length] at h2
      with_reducible refine TS.ret ?_
      refine TE.local h2 rfl ?_
      exact .here ⟨rfl, rfl⟩
theorem read_exponent_ok {a d n : Nat} {t : List Nat} {x : Int} {n' : Nat} (e : σ a = some (nt d t n)) (hn : n ≤ t.length) (hz : t.length ≤ 1000000) (hx : expAt t n = some (x, n')) : CO W (k+3) 136 [.obj a] σ (fun v σ' => v = .int x ∧ σ' = upd σ a (nt d t n')) E := by
  refine' CO.def (ns := ["reader"]) ?ho ?hcd ?hb ?hl ?hn ?hc ?h1 ?h2 ?h3 ?h
  case ho => exact rfl
  case hcd => exact rfl
  case hb => first | exact fun s vals X r => binds1 (fun a => BindsTo.of_eq rfl) r | exact fun s vals X r => binds1 (fun a => binds_K X rfl rfl rfl rfl rfl) r
  case hl => rfl
  case hn => decide
  case hc => rfl
  case h1 => rfl
  case h2 => rfl
  case h3 => rfl
  case h =>
    unfold expAt at hx
    simp only at hx
    unfold nt at e
    with_reducible refine TS.if ?_
    refine TB.compare rfl ?_
    refine TE.mI (by intros; rfl) rfl rfl rfl (by first | assumption | exact upd_self _ _ _) rfl rfl rfl rfl rfl ?_
    refine TEs.S1 rfl lit14 ?_
    refine (nt_skip e hn hz).useEq ?_
    refine TE.str lit9 ?_
    with_reducible refine TO.eqS ?_
    refine testB (fun h => ?_) (fun h => ?_)
    · have h' : oneAt t n [101, 69] = [] := by simpa using h
      rw [if_pos h'] at hx
      cases hx
      with_reducible refine TS.ret ?_
      with_reducible refine TE.int ?_
      exact .here ⟨rfl, by rw [h']; rfl⟩
    · have h' : oneAt t n [101, 69] ≠ [] := by simpa using h
      rw [if_neg h'] at hx
      obtain ⟨c, hc, hl, hm, ho⟩ : ∃ c, t[n]? = some c ∧ n < t.length ∧ c ∈ [101, 69] ∧ oneAt t n [101, 69] = [c] := by
        cases q : hasAt t n [101, 69] with
        | false => exact absurd (hasAt_false q) h'
        | true => exact hasAt_true q
      rw [ho]
      have hn2 := oneAt_le (s := [43, 45]) (show n + 1 ≤ t.length from hl)
      have hn3 := tw_place t _ hn2
      split at hx
      · cases hx
      rename_i hcond
      cases hx
      simp only [not_or] at hcond
      obtain ⟨c1, c2, c3⟩ := hcond
      with_reducible refine TS.nil ?_
      with_reducible refine TS.cons ?_
      refine T1.assignTup (names := ["sign", "digits"]) rfl (by intros; rfl) (by intros; with_unfolding_all rfl) (by rfl) ?_
      with_reducible refine TE.tuple ?_
      refine TEs.cons' rfl ?_
      refine TE.mI (by intros; rfl) rfl rfl rfl (by first | assumption | exact upd_self _ _ _) rfl rfl rfl rfl rfl ?_
      refine TEs.S1 rfl lit15 ?_
      refine (nt_skip (n := n + 1) (upd_self _ _ _) (by omega) hz).useEq ?_
      rw [upd_upd]
      refine TEs.cons' rfl ?_
      refine TE.mI0 (by intros; rfl) rfl rfl (by first | assumption | exact upd_self _ _ _) rfl rfl rfl rfl rfl ?_
      refine (nt_digits (upd_self _ _ _) hn2 hz).useEq ?_
      rw [upd_upd]
      with_reducible refine TEs.nil ?_
      refine ⟨by simp [sizeLine_eq], _, rfl, rfl, ?_⟩
      with_reducible refine TS.if ?_
      with_reducible refine TB.boolop ?_
      with_reducible refine TAll.orCons ?_
      refine TB.cmpLS rfl rfl rfl lit9 ?_
      with_reducible refine TO.eqS ?_
      refine testB (fun h => absurd h (by simpa using c1)) (fun _ => ?_)
      with_reducible refine TAll.orCons ?_
      refine TB.compare rfl ?_
      (refine' TE.callBL1 ?zze ?zzv ?zzn ?zzx ?zzc rfl rfl rfl ?_ ?zzd; (case zze => rfl); (case zzv => boot_fast); (case zzn => decide); (case zzx => rfl); (case zzc => exact .builtin _); (case zzd => decide))
      refine TO.lenS (sz (by omega)) ?_
      with_reducible refine TE.int ?_
      with_reducible refine TO.gtI ?_
      refine testB (fun h => absurd h (by simp; omega)) (fun _ => ?_)
      with_reducible refine TAll.orCons ?_
      refine TB.compare rfl ?_
      refine TE.callL1 rfl rfl rfl rfl rfl rfl ?_
      refine (whole_of_ok tw_dig).useEq ?_
      refine TE.global (v := .int 300) rfl (fun _ _ => .int _ _) rfl ?_
      with_reducible refine TO.gtI ?_
      refine testB (fun h => absurd h (by simp; omega)) (fun _ => ?_)
      with_reducible refine TAll.orNil ?_
      refine ⟨fun h => absurd h (by simp), fun _ => ?_⟩
      with_reducible refine TS.nil ?_
      with_reducible refine TS.ret ?_
      with_reducible refine TE.ifexp ?_
      refine TB.cmpLS rfl rfl rfl lit10 ?_
      with_reducible refine TO.eqS ?_
      refine testB (fun h => ?_) (fun h => ?_)
      · have hs : oneAt t (n + 1) [43, 45] = [45] := by simpa using h
        with_reducible refine TE.unary ?_
        refine TE.callL1 rfl rfl rfl rfl rfl rfl ?_
        refine (whole_of_ok tw_dig).useEq ?_
        with_reducible refine TO.neg ?_
        exact .here ⟨by rw [if_pos hs], rfl⟩
      · have hs : oneAt t (n + 1) [43, 45] ≠ [45] := by simpa using h
        refine TE.callL1 rfl rfl rfl rfl rfl rfl ?_
        refine (whole_of_ok tw_dig).useEq ?_
        exact .here ⟨by rw [if_neg hs], rfl⟩
theorem expAt_le {t : List Nat} {n n' : Nat} {x : Int} (hn : n ≤ t.length) (h : expAt t n = some (x, n')) : n' ≤ t.length := by
  unfold expAt at h
  simp only at h
  by_cases h' : oneAt t n [101, 69] = []
  · rw [if_pos h'] at h; cases h; exact hn
  · rw [if_neg h'] at h
    have hl : n < t.length := by
      cases q : hasAt t n [101, 69] with
      | false => exact absurd (hasAt_false q) h'
      | true => exact (hasAt_true q).choose_spec.2.1
    have hn2 := oneAt_le (s := [43, 45]) (show n + 1 ≤ t.length from hl)
    have hn3 := tw_place t _ hn2
    split at h
    · cases h
    · cases h; exact hn3
end
section
variable {W : Wd Mine.hd.heap_39} {k : Nat} {σ : Store} {E : Int → Store → Prop}
theorem read_decimal_ok {t : List Nat} {p q : Int} (hz : t.length ≤ 1000000) (h : readDec t = some (p, q)) : CO W (k+4) 143 [.str t] σ (fun v σ' => v = .tup [.int p, .int q] ∧ σ' = σ) E := by
  refine' CO.def (ns := ["text"]) ?ho ?hcd ?hb ?hl ?hn ?hc ?h1 ?h2 ?h3 ?h
  case ho => exact rfl
  case hcd => exact rfl
  case hb => first | exact fun s vals X r => binds1 (fun a => BindsTo.of_eq rfl) r | exact fun s vals X r => binds1 (fun a => binds_K X rfl rfl rfl rfl rfl) r
  case hl => rfl
  case hn => decide
  case hc => rfl
  case h1 => rfl
  case h2 => rfl
  case h3 => rfl
  case h =>
    unfold readDec at h
    have hs := oneAt_le (s := [43, 45]) (show 0 ≤ t.length from Nat.zero_le _)
    rw [Nat.zero_add] at hs
    have hw := tw_place t _ hs
    have hp := oneAt_le (s := [46]) hw
    generalize hS : oneAt t 0 [43, 45] = s at *
    generalize hW : tw t s.length = w at *
    generalize hP : oneAt t (s.length + w.length) [46] = pt at *
    generalize hF : fAt t (s.length + w.length) = f at *
    unfold fAt at hF
    rw [hP] at hF
    have hf : s.length + w.length + pt.length + f.length ≤ t.length := by
      subst hF
      by_cases hp0 : pt = []
      · rw [if_pos hp0]; simpa [hp0] using hp
      · rw [if_neg hp0]
        have h1 : pt.length = 1 := by
          rw [← hP]
          cases hh : hasAt t (s.length + w.length) [46] with
          | false => rw [hasAt_false hh] at hP; exact absurd hP.symm hp0
          | true => obtain ⟨c, _, _, _, h4⟩ := hasAt_true hh; rw [h4]; rfl
        have := tw_place t _ hp
        rw [h1] at this ⊢
        exact this
    generalize hX : expAt t (s.length + w.length + pt.length + f.length) = X at h
    cases X with
    | none => cases h
    | some y =>
    obtain ⟨x, n4⟩ := y
    obtain ⟨c1, c2, c3, c4, hr⟩ := readTail_some h
    have hn4 := expAt_le hf hX
    refine TS.assign (by intros; rfl) rfl ?_
    refine TE.callL1 rfl rfl rfl rfl rfl rfl ?_
    refine TO.new (fI := 94) rfl rfl rfl fun a d ha => ?_
    refine CO.mono nt_init ?_ (fun _ _ h => h)
    rintro v σ' ⟨rfl, rfl⟩
    refine ⟨rfl, ?_⟩
    with_reducible refine TS.cons ?_
    refine T1.assignTup (names := ["sign", "whole", "parts"]) rfl (by intros; rfl) (by intros; with_unfolding_all rfl) (by rfl) ?_
    with_reducible refine TE.tuple ?_
    refine TEs.cons' rfl ?_
    refine TE.mI (by intros; rfl) rfl rfl rfl (by first | assumption | exact upd_self _ _ _) rfl rfl rfl rfl rfl ?_
    refine TEs.S1 rfl lit15 ?_
    refine (nt_skip (n := 0) (s := [43, 45]) (upd_self _ _ _) (Nat.zero_le _) hz).useEq ?_
    rw [hS, upd_upd, Nat.zero_add]
    refine TEs.cons' rfl ?_
    refine TE.mI0 (by intros; rfl) rfl rfl (by first | assumption | exact upd_self _ _ _) rfl rfl rfl rfl rfl ?_
    refine (nt_digits (upd_self _ _ _) hs hz).useEq ?_
    rw [hW, upd_upd]
    refine TEs.S1 rfl lit9 ?_
    refine ⟨by simp [sizeLine_eq], _, rfl, rfl, ?_⟩
    refine TS.cons (T1.cut (fun m' σ' => m' = ([("text", .str t), ("reader", .obj a), ("parts", .str f), ("whole", .str w), ("sign", .str s)] : Loc) ∧ σ' = upd σ a (nt d t (s.length + w.length + pt.length + f.length))) ?_ ?_)
    · with_reducible refine T1.if ?_
      refine TB.compare rfl ?_
      refine TE.mI (by intros; rfl) rfl rfl rfl (by first | assumption | exact upd_self _ _ _) rfl rfl rfl rfl rfl ?_
      refine TEs.S1 rfl lit17 ?_
      refine (nt_skip (s := [46]) (upd_self _ _ _) hw hz).useEq ?_
      rw [hP, upd_upd]
      refine TE.str lit9 ?_
      with_reducible refine TO.neS ?_
      refine testB (fun h => ?_) (fun h => ?_)
      · have hp0 : pt ≠ [] := by simpa using h
        have h1 : pt.length = 1 := by
          rw [← hP]
          cases hh : hasAt t (s.length + w.length) [46] with
          | false => rw [hasAt_false hh] at hP; exact absurd hP.symm hp0
          | true => obtain ⟨c, _, _, _, h4⟩ := hasAt_true hh; rw [h4]; rfl
        rw [if_neg hp0] at hF
        refine TS.assign (by intros; rfl) rfl ?_
        refine TE.mI0 (by intros; rfl) rfl rfl (by first | assumption | exact upd_self _ _ _) rfl rfl rfl rfl rfl ?_
        refine (nt_digits (upd_self _ _ _) hp hz).useEq ?_
        rw [upd_upd, h1, hF]
        with_reducible refine TS.nil ?_
        exact ⟨rfl, rfl⟩
      · have hp0 : pt = [] := by simpa using h
        subst hp0
        rw [if_pos rfl] at hF
        subst hF
        with_reducible refine TS.nil ?_
        exact ⟨rfl, rfl⟩
    · rintro m' σ' ⟨rfl, rfl⟩
      have hwf : ∀ c ∈ w ++ f, isDig c = true := by
        intro c hc
        rcases List.mem_append.mp hc with h | h
        · rw [← hW] at h; exact tw_dig c h
        · rw [← hF] at h
          split at h
          · cases h
          · exact tw_dig c h
      have hlen : w.length + f.length ≤ t.length := by omega
      with_reducible refine TS.if ?_
      refine TB.compare rfl ?_
      refine TE.binLL rfl rfl rfl rfl ?_
      refine TO.cat (sz (by omega)) ?_
      refine TE.str lit9 ?_
      with_reducible refine TO.eqS ?_
      refine testB (fun h => absurd h (by simpa using c1)) (fun _ => ?_)
      with_reducible refine TS.nil ?_
      refine TS.assign (by intros; rfl) rfl ?_
      with_reducible refine TE.binop ?_
      refine TE.callL1 rfl rfl rfl rfl rfl rfl ?_
      refine (read_exponent_ok (upd_self _ _ _) hf hz hX).useEq ?_
      rw [upd_upd]
      (refine' TE.callBL1 ?zze ?zzv ?zzn ?zzx ?zzc rfl rfl rfl ?_ ?zzd; (case zze => rfl); (case zzv => boot_fast); (case zzn => decide); (case zzx => rfl); (case zzc => exact .builtin _); (case zzd => decide))
      refine TO.lenS (sz (by omega)) ?_
      with_reducible refine TO.sub ?_
      with_reducible refine TS.if ?_
      refine TB.compare rfl ?_
      refine TE.attrI (by intros; rfl) (by intros; rfl) rfl rfl (by first | assumption | exact upd_self _ _ _) rfl rfl rfl rfl rfl ?_
      (refine' TE.callBL1 ?zze ?zzv ?zzn ?zzx ?zzc rfl rfl rfl ?_ ?zzd; (case zze => rfl); (case zzv => boot_fast); (case zzn => decide); (case zzx => rfl); (case zzc => exact .builtin _); (case zzd => decide))
      refine TO.lenS (sz (by omega)) ?_
      with_reducible refine TO.ltI ?_
      refine testB (fun h => absurd h (by simp; omega)) (fun _ => ?_)
      with_reducible refine TS.nil ?_
      refine TS.assign (by intros; rfl) rfl ?_
      refine TE.call rfl rfl rfl rfl ?_
      refine TEs.cons' rfl ?_
      refine TE.binLL rfl rfl rfl rfl ?_
      refine TO.cat (sz (by omega)) ?_
      with_reducible refine TEs.nil ?_
      refine (whole_of_ok hwf).useEq ?_
      with_reducible refine TS.if ?_
      refine TB.cmpLS rfl rfl rfl lit10 ?_
      with_reducible refine TO.eqS ?_
      have ten : ∀ n : Nat, n ≤ 18 → ((10 : Int) ^ n).natAbs < 2 ^ 64 ∧ (0 : Int) < 10 ^ n := fun n hn => by
        have h1 : (10 : Int) ^ n = ((10 ^ n : Nat) : Int) := by push_cast; rfl
        have h2 : (10 : Nat) ^ n ≤ 10 ^ 18 := Nat.pow_le_pow_right (by decide) hn
        have h3 : 0 < (10 : Nat) ^ n := Nat.pow_pos (by decide)
        rw [h1]
        refine ⟨?_, by omega⟩
        rw [Int.natAbs_natCast]
        exact Nat.lt_of_le_of_lt h2 (by decide)
      refine testB (fun h => ?_) (fun h => ?_)
      · have h1 : s = [45] := by simpa using h
        have e1 : -wholeOf (w ++ f) = signed s (wholeOf (w ++ f)) := by unfold signed; rw [if_pos h1]
        refine TS.assign (by intros; rfl) rfl ?_
        with_reducible refine TE.unary ?_
        refine TE.local rfl rfl ?_
        with_reducible refine TO.neg ?_
        with_reducible refine TS.nil ?_
        with_reducible refine TS.if ?_
        refine TB.cmpLI rfl rfl rfl ?_
        with_reducible refine TO.ltI ?_
        rw [e1]
        generalize signed s (wholeOf (w ++ f)) = number at *
        refine testB (fun h => ?_) (fun h => ?_)
        · have hx0 : x - f.length < 0 := by simpa using h
          rw [if_pos hx0] at hr
          with_reducible refine TS.ret ?_
          refine TE.callL rfl rfl rfl rfl rfl rfl ?_
          refine TEs.cons' rfl ?_
          with_reducible refine TE.binop ?_
          with_reducible refine TE.int ?_
          with_reducible refine TE.unary ?_
          refine TE.local rfl rfl ?_
          with_reducible refine TO.neg ?_
          refine TO.pow (by omega) (by omega) (by decide) ?_
          obtain ⟨t1, t2⟩ := ten (-(x - (f.length : Int))).toNat (by omega)
          with_reducible refine TEs.nil ?_
          refine (fraction_ok t2 t1).useEq ?_
          exact .fresh ha ⟨by rw [← hr], rfl⟩
        · have hx0 : ¬ x - f.length < 0 := by simpa using h
          rw [if_neg hx0] at hr
          cases hr
          with_reducible refine TS.nil ?_
          with_reducible refine TS.ret ?_
          with_reducible refine TE.tuple ?_
          refine TEs.cons' rfl ?_
          refine TE.binL rfl rfl ?_
          with_reducible refine TE.binop ?_
          with_reducible refine TE.int ?_
          refine TE.local rfl rfl ?_
          refine TO.pow (by omega) (by omega) (by decide) ?_
          refine TO.mul (mulOk_right (ten _ (by omega)).1) ?_
          refine TEs.I1 rfl ?_
          exact ⟨by simp [sizeLine_eq], .fresh ha ⟨rfl, rfl⟩⟩
      · have h1 : s ≠ [45] := by simpa using h
        have e1 : wholeOf (w ++ f) = signed s (wholeOf (w ++ f)) := by unfold signed; rw [if_neg h1]
        with_reducible refine TS.nil ?_
        with_reducible refine TS.if ?_
        refine TB.cmpLI rfl rfl rfl ?_
        with_reducible refine TO.ltI ?_
        rw [← e1] at hr
        generalize wholeOf (w ++ f) = number at *
        refine testB (fun h => ?_) (fun h => ?_)
        · have hx0 : x - f.length < 0 := by simpa using h
          rw [if_pos hx0] at hr
          with_reducible refine TS.ret ?_
          refine TE.callL rfl rfl rfl rfl rfl rfl ?_
          refine TEs.cons' rfl ?_
          with_reducible refine TE.binop ?_
          with_reducible refine TE.int ?_
          with_reducible refine TE.unary ?_
          refine TE.local rfl rfl ?_
          with_reducible refine TO.neg ?_
          refine TO.pow (by omega) (by omega) (by decide) ?_
          obtain ⟨t1, t2⟩ := ten (-(x - (f.length : Int))).toNat (by omega)
          with_reducible refine TEs.nil ?_
          refine (fraction_ok t2 t1).useEq ?_
          exact .fresh ha ⟨by rw [← hr], rfl⟩
        · have hx0 : ¬ x - f.length < 0 := by simpa using h
          rw [if_neg hx0] at hr
          cases hr
          with_reducible refine TS.nil ?_
          with_reducible refine TS.ret ?_
          with_reducible refine TE.tuple ?_
          refine TEs.cons' rfl ?_
          refine TE.binL rfl rfl ?_
          with_reducible refine TE.binop ?_
          with_reducible refine TE.int ?_
          refine TE.local rfl rfl ?_
          refine TO.pow (by omega) (by omega) (by decide) ?_
          refine TO.mul (mulOk_right (ten _ (by omega)).1) ?_
          refine TEs.I1 rfl ?_
          exact ⟨by simp [sizeLine_eq], .fresh ha ⟨rfl, rfl⟩⟩
end
section
variable {W : Wd Mine.hd.heap_39} {k : Nat} {σ : Store} {E : Int → Store → Prop}
inductive Wd1 (σ : Store) (p : Int) (q s μ : Nat) (m' : Loc) (σ' : Store) : Prop
  | mk (l : List Nat) : m' = ([("a", .tup [.int p, .int q]), ("places", .int 6), ("scale", .int ((1000000 : Nat) : Int)), ("scaled", .int s), ("rest", .int ((s % 1000000 : Nat) : Int)), ("told", .str (digs ((s / 1000000 : Nat) : Int))), ("parts", .str l)] : Loc) → σ' = σ → strip l = strip (wdP p q) → l.any (fun x => x != 48) = true → l.length = μ → μ ≤ 1000 → Wd1 σ p q s μ m' σ'
theorem write_decimal_ok {p : Int} {q : Nat} (hq : 0 < q) (hq' : q ≤ 1000000) (hp : p.natAbs ≤ 1000000) (ok : wdOk p q = true) : CO W (k+1) 151 [.tup [.int p, .int q], .int 6] σ (fun v σ' => v = .str (wdF p q) ∧ σ' = σ) E := by
  refine' CO.def (ns := ["a", "places"]) ?ho ?hcd ?hb ?hl ?hn ?hc ?h1 ?h2 ?h3 ?h
  case ho => exact rfl
  case hcd => exact rfl
  case hb => first | exact fun s vals X r => binds2 (fun a b => BindsTo.of_eq rfl) r | exact fun s vals X r => binds2 (fun a b => binds_K X rfl rfl rfl rfl rfl) r
  case hl => rfl
  case hn => decide
  case hc => rfl
  case h1 => rfl
  case h2 => rfl
  case h3 => rfl
  case h =>
    unfold wdOk at ok
    simp only [Bool.and_eq_true, decide_eq_true_eq, Bool.or_eq_true] at ok
    obtain ⟨⟨⟨o1, o2⟩, o3⟩, o4⟩ := ok
    have hs : ((2 * (if p < 0 then -p else p) * ((1000000 : Nat) : Int) + q).fdiv (2 * q)) = ((wdS p q : Nat) : Int) := by
      have e : (if p < 0 then -p else p) = (p.natAbs : Int) := by split <;> omega
      rw [e]
      have e3 : (2 * (p.natAbs : Int) * ((1000000 : Nat) : Int) + q) = ((2 * p.natAbs * 1000000 + q : Nat) : Int) := by rw [Int.natCast_add, Int.natCast_mul, Int.natCast_mul]; rfl
      have e4 : (2 * (q : Int)) = ((2 * q : Nat) : Int) := by rw [Int.natCast_mul]; rfl
      rw [e3, e4, fdivN]
      rfl
    have hb : wdS p q ≤ 2 * 1000000 * 1000000 + 1000000 := by
      unfold wdS
      refine Nat.le_trans (Nat.div_le_self _ _) ?_
      exact Nat.add_le_add (Nat.mul_le_mul_right _ (Nat.mul_le_mul_left _ hp)) hq'
    refine TS.assign (by intros; rfl) rfl ?_
    with_reducible refine TE.binop ?_
    with_reducible refine TE.int ?_
    refine TE.local rfl rfl ?_
    refine TO.pow (by omega) (by omega) (by decide) ?_
    refine TS.assign (by intros; rfl) rfl ?_
    with_reducible refine TE.binop ?_
    with_reducible refine TE.binop ?_
    with_reducible refine TE.binop ?_
    with_reducible refine TE.binop ?_
    with_reducible refine TE.int ?_
    (refine' TE.callB ?zze ?zzv ?zzn ?zzx ?zzc rfl ?_ ?zzd; (case zze => rfl); (case zzv => boot_fast); (case zzn => decide); (case zzx => rfl); (case zzc => exact .builtin _); (case zzd => decide))
    refine TEs.cons' rfl ?_
    refine TE.itemLI (by intros; rfl) rfl rfl ?_
    rw [show (10 : Int) ^ Int.toNat 6 = ((1000000 : Nat) : Int) from by decide]
    refine ⟨trivial, TO.itemTup (j := 0) (x := .int p) (by decide) (by decide) rfl rfl ?_⟩
    with_reducible refine TEs.nil ?_
    with_reducible refine TO.abs ?_
    refine TO.mul (mulOk_left (by decide)) ?_
    refine TE.local rfl rfl ?_
    refine TO.mul (mulOk_right (by decide)) ?_
    refine TE.itemLI (by intros; rfl) rfl rfl ?_
    refine ⟨trivial, TO.itemTup (j := 1) (x := .int q) (by decide) (by decide) rfl rfl ?_⟩
    with_reducible refine TO.add ?_
    with_reducible refine TE.binop ?_
    with_reducible refine TE.int ?_
    refine TE.itemLI (by intros; rfl) rfl rfl ?_
    refine ⟨trivial, TO.itemTup (j := 1) (x := .int q) (by decide) (by decide) rfl rfl ?_⟩
    refine TO.mul (mulOk_left (by decide)) ?_
    refine TO.fdiv (by omega) (log_small (by omega)) ?_
    rw [hs]
    generalize hS : wdS p q = s at *
    with_reducible refine TS.cons ?_
    refine T1.assignTup (names := ["told", "rest"]) rfl (by intros; rfl) (by intros; with_unfolding_all rfl) (by rfl) ?_
    with_reducible refine TE.tuple ?_
    refine TEs.cons' rfl ?_
    (refine' TE.callB ?zze ?zzv ?zzn ?zzx ?zzc rfl ?_ ?zzd; (case zze => rfl); (case zzv => boot_fast); (case zzn => decide); (case zzx => rfl); (case zzc => exact .type _); (case zzd => decide))
    refine TEs.cons' rfl ?_
    refine TE.binLL rfl rfl rfl rfl ?_
    refine TO.fdiv (by decide) (log_small (by decide)) ?_
    rw [fdivN]
    with_reducible refine TEs.nil ?_
    refine TO.strI rfl (small4300 (by rw [Int.natAbs_natCast]; have := Nat.div_le_self s 1000000; omega)) ?_
    refine TEs.cons' rfl ?_
    refine TE.binLL rfl rfl rfl rfl ?_
    refine TO.fmod (by decide) ?_
    rw [fmodN]
    with_reducible refine TEs.nil ?_
    refine ⟨by simp [sizeLine_eq], _, rfl, rfl, ?_⟩
    refine TS.cons (T1.cut (fun m' σ' => σ' = σ ∧ getV m' "told" = some (.str (wdT p q)) ∧ getV m' "a" = some (.tup [.int p, .int q]) ∧ getV m' "scaled" = some (.int s)) ?_ ?_)
    · with_reducible refine T1.if ?_
      refine TB.cmpLI rfl rfl rfl ?_
      with_reducible refine TO.gtI ?_
      refine testB (fun h => ?_) (fun h => ?_)
      · have h0 : 0 < s % 1000000 := by have : ((s % 1000000 : Nat) : Int) > 0 := by simpa using h
                                        omega
        have o4' : (wdP p q).any (fun x => x != 48) = true := by
          rcases o4 with z | z
          · omega
          · exact z
        have hP : (digs (((1000000 : Nat) : Int) + ((s % 1000000 : Nat) : Int))).drop 1 = wdP p q := by
          unfold wdP; rw [hS, Int.natCast_add]
        have hPl : (digs (((1000000 : Nat) : Int) + ((s % 1000000 : Nat) : Int))).length ≤ 1000 := by rw [← Int.natCast_add]; exact o3
        refine TS.assign (by intros; rfl) rfl ?_
        with_reducible refine TE.slice ?_
        (refine' TE.callB ?zze ?zzv ?zzn ?zzx ?zzc rfl ?_ ?zzd; (case zze => rfl); (case zzv => boot_fast); (case zzn => decide); (case zzx => rfl); (case zzc => exact .type _); (case zzd => decide))
        refine TEs.cons' rfl ?_
        refine TE.binLL rfl rfl rfl rfl ?_
        with_reducible refine TO.add ?_
        with_reducible refine TEs.nil ?_
        refine TO.strI rfl (small4300 (by omega)) ?_
        with_reducible refine TP.some ?_
        with_reducible refine TE.int ?_
        refine ⟨1, rfl, ?_⟩
        with_reducible refine TP.none ?_
        refine ⟨_, rfl, sz (by omega), ?_⟩
        rw [show (1 : Int) = ((1 : Nat) : Int) from rfl, cut_from, hP]
        with_reducible refine TS.cons ?_
        refine T1.while (wdP p q).length (Wd1 σ p q s) ⟨_, rfl, rfl, rfl, o4', rfl, o2⟩ ?_
        rintro μ m' σ' ⟨l, rfl, rfl, hst, hany, rfl, hμ⟩
        have hl0 : 0 < l.length := by
          cases l with
          | nil => simp at hany
          | cons _ _ => simp
        have hlast : l[l.length - 1]? = some (l[l.length - 1]'(by omega)) := List.getElem?_eq_getElem _
        generalize hc : l[l.length - 1]'(by omega) = c at hlast
        refine TB.compare rfl ?_
        refine TE.itemL (by intros; rfl) rfl rfl ?_
        with_reducible refine TE.unary ?_
        with_reducible refine TE.int ?_
        with_reducible refine TO.neg ?_
        refine ⟨trivial, TO.itemStr (j := l.length - 1) (x := c) (by decide) (by decide) (seqLast hl0) hlast ?_⟩
        refine TE.str lit18 ?_
        with_reducible refine TO.eqS ?_
        refine testB (fun h => ?_) (fun h => ?_)
        · have h48 : c = 48 := by simpa using h
          subst h48
          refine TS.assign (by intros; rfl) rfl ?_
          with_reducible refine TE.slice ?_
          refine TE.local rfl rfl ?_
          with_reducible refine TP.none ?_
          with_reducible refine TP.some ?_
          with_reducible refine TE.unary ?_
          with_reducible refine TE.int ?_
          with_reducible refine TO.neg ?_
          refine ⟨-1, rfl, _, rfl, sz (by omega), ?_⟩
          rw [cut_last]
          with_reducible refine TS.nil ?_
          refine ⟨l.length - 1, by omega, l.dropLast, rfl, rfl, (strip_last hlast).trans hst, ?_, by simp, by omega⟩
          have e : l = l.dropLast ++ [48] := by
            have hne : l ≠ [] := List.length_pos_iff.mp hl0
            have := List.dropLast_concat_getLast hne
            rw [List.getLast_eq_getElem, hc] at this
            exact this.symm
          rw [e] at hany
          simpa using hany
        · have h48 : c ≠ 48 := by simpa using h
          have hl : l = strip (wdP p q) := by rw [← hst, strip_end hlast h48]
          refine TS.assign (by intros; rfl) rfl ?_
          with_reducible refine TE.binop ?_
          refine TE.binL rfl rfl ?_
          refine TE.str lit17 ?_
          refine TO.cat (sz (by simp only [List.length_append, List.length_cons, List.length_nil]; omega)) ?_
          refine TE.local rfl rfl ?_
          refine TO.cat (sz (by simp only [List.length_append, List.length_cons, List.length_nil]; omega)) ?_
          with_reducible refine TS.nil ?_
          refine ⟨rfl, ?_, rfl, rfl⟩
          unfold wdT
          rw [hS, if_pos h0, ← hl, ← List.append_assoc]; rfl
      · have h0 : ¬ 0 < s % 1000000 := by have : ¬ ((s % 1000000 : Nat) : Int) > 0 := by simpa using h
                                          omega
        with_reducible refine TS.nil ?_
        refine ⟨rfl, ?_, rfl, rfl⟩
        unfold wdT
        rw [hS, if_neg h0, List.append_nil]; rfl
    · rintro m' σ' ⟨rfl, g1, g2, g3⟩
      have hlen : (wdT p q).length ≤ 3000 := by
        unfold wdT
        rw [hS, List.length_append]
        have := strip_le (wdP p q)
        split <;> simp only [List.length_append, List.length_cons, List.length_nil] <;> omega
      with_reducible refine TS.ret ?_
      with_reducible refine TE.ifexp ?_
      with_reducible refine TB.boolop ?_
      with_reducible refine TAll.andCons ?_
      refine TB.compare rfl ?_
      refine TE.item (by intros; rfl) ?_
      refine TE.local g2 rfl ?_
      with_reducible refine TE.int ?_
      refine ⟨trivial, TO.itemTup (j := 0) (x := .int p) (by decide) (by decide) rfl rfl ?_⟩
      with_reducible refine TE.int ?_
      with_reducible refine TO.ltI ?_
      refine testB (fun h => ?_) (fun h => ?_)
      · have hp0 : p < 0 := by simpa using h
        with_reducible refine TAll.andCons ?_
        refine TB.compare rfl ?_
        refine TE.local g3 rfl ?_
        with_reducible refine TE.int ?_
        with_reducible refine TO.gtI ?_
        refine testB (fun h => ?_) (fun h => ?_)
        · have hs0 : 0 < s := by have : (s : Int) > 0 := by simpa using h
                                 omega
          with_reducible refine TAll.andNil ?_
          refine ⟨fun _ => ?_, fun h => by simp at h⟩
          with_reducible refine TE.binop ?_
          refine TE.str lit10 ?_
          refine TE.local g1 rfl ?_
          refine TO.cat (sz (by simp; omega)) ?_
          exact .here ⟨by unfold wdF; rw [hS, if_pos ⟨hp0, hs0⟩], rfl⟩
        · have hs0 : ¬ 0 < s := by have : ¬ (s : Int) > 0 := by simpa using h
                                   omega
          refine ⟨fun h => by simp at h, fun _ => ?_⟩
          refine TE.local g1 rfl ?_
          exact .here ⟨by unfold wdF; rw [hS, if_neg (fun z => hs0 z.2)], rfl⟩
      · have hp0 : ¬ p < 0 := by simpa using h
        refine ⟨fun h => by simp at h, fun _ => ?_⟩
        refine TE.local g1 rfl ?_
        exact .here ⟨by unfold wdF; rw [hS, if_neg (fun z => hp0 z.1)], rfl⟩
end
section
variable {W : Wd Mine.hd.heap_39} {k : Nat} {σ : Store} {E : Int → Store → Prop}
noncomputable def sc (d : Nat) (t : List Nat) (n : Nat) : Cell := .inst 245 d [("text", .str t), ("at", .int n)]
theorem sc_init {x d : Nat} {t : List Nat} : CO W (k+1) 165 [.obj x, .str t] (upd σ x (.inst 245 d [])) (fun v σ' => v = .none ∧ σ' = upd σ x (sc d t 0)) E := by
  refine' CO.def (ns := ["self", "text"]) ?ho ?hcd ?hb ?hl ?hn ?hc ?h1 ?h2 ?h3 ?h
  case ho => exact rfl
  case hcd => exact rfl
  case hb => first | exact fun s vals X r => binds2 (fun a b => BindsTo.of_eq rfl) r | exact fun s vals X r => binds2 (fun a b => binds_K X rfl rfl rfl rfl rfl) r
  case hl => rfl
  case hn => decide
  case hc => rfl
  case h1 => rfl
  case h2 => rfl
  case h3 => rfl
  case h =>
    refine TS.assignAttr (by intros; rfl) ?_
    refine TE.local rfl rfl ?_
    refine TE.local rfl rfl ?_
    refine setTo (C := 245) (upd_self _ _ _) rfl rfl rfl rfl (by simp) ?_
    rw [upd_upd]
    refine TS.assignAttr (by intros; rfl) ?_
    with_reducible refine TE.int ?_
    refine TE.local rfl rfl ?_
    refine setTo (C := 245) (upd_self _ _ _) rfl rfl rfl rfl (by simp [setV]) ?_
    rw [upd_upd]
    with_reducible refine TS.nil ?_
    exact .here ⟨rfl, rfl⟩
section
variable {a d n : Nat} {t : List Nat}
theorem sc_is_over (e : σ a = some (sc d t n)) (hn : n ≤ t.length) (hz : t.length ≤ 1000000) : CO W (k+1) 172 [.obj a] σ (fun v σ' => v = .bool (decide (n = t.length)) ∧ σ' = σ) E := by
  refine' CO.def (ns := ["self"]) ?ho ?hcd ?hb ?hl ?hn ?hc ?h1 ?h2 ?h3 ?h
  case ho => exact rfl
  case hcd => exact rfl
  case hb => first | exact fun s vals X r => binds1 (fun a => BindsTo.of_eq rfl) r | exact fun s vals X r => binds1 (fun a => binds_K X rfl rfl rfl rfl rfl) r
  case hl => rfl
  case hn => decide
  case hc => rfl
  case h1 => rfl
  case h2 => rfl
  case h3 => rfl
  case h =>
    unfold sc at e
    with_reducible refine TS.ret ?_
    refine TE.compare rfl ?_
    refine TE.attrI (by intros; rfl) (by intros; rfl) rfl rfl (by first | assumption | exact upd_self _ _ _) rfl rfl rfl rfl rfl ?_
    (refine' TE.callB ?zze ?zzv ?zzn ?zzx ?zzc rfl ?_ ?zzd; (case zze => rfl); (case zzv => boot_fast); (case zzn => decide); (case zzx => rfl); (case zzc => exact .builtin _); (case zzd => decide))
    refine TEs.cons' rfl ?_
    refine TE.attrI (by intros; rfl) (by intros; rfl) rfl rfl (by first | assumption | exact upd_self _ _ _) rfl rfl rfl rfl rfl ?_
    with_reducible refine TEs.nil ?_
    refine TO.lenS (sz hz) ?_
    with_reducible refine TO.geI ?_
    refine .here ⟨?_, rfl⟩
    congr 1
    by_cases h : n = t.length
    · subst h; simp
    · simp only [h, decide_false, decide_eq_false_iff_not]; omega
theorem sc_peek (e : σ a = some (sc d t n)) (hn : n ≤ t.length) (hz : t.length ≤ 1000000) : CO W (k+1) 179 [.obj a] σ (fun v σ' => v = .str (pk t n) ∧ σ' = σ) E := by
  refine' CO.def (ns := ["self"]) ?ho ?hcd ?hb ?hl ?hn ?hc ?h1 ?h2 ?h3 ?h
  case ho => exact rfl
  case hcd => exact rfl
  case hb => first | exact fun s vals X r => binds1 (fun a => BindsTo.of_eq rfl) r | exact fun s vals X r => binds1 (fun a => binds_K X rfl rfl rfl rfl rfl) r
  case hl => rfl
  case hn => decide
  case hc => rfl
  case h1 => rfl
  case h2 => rfl
  case h3 => rfl
  case h =>
    unfold sc at e
    with_reducible refine TS.ret ?_
    with_reducible refine TE.slice ?_
    refine TE.attrI (by intros; rfl) (by intros; rfl) rfl rfl (by first | assumption | exact upd_self _ _ _) rfl rfl rfl rfl rfl ?_
    with_reducible refine TP.some ?_
    refine TE.attrI (by intros; rfl) (by intros; rfl) rfl rfl (by first | assumption | exact upd_self _ _ _) rfl rfl rfl rfl rfl ?_
    refine ⟨n, rfl, ?_⟩
    with_reducible refine TP.some ?_
    with_reducible refine TE.binop ?_
    refine TE.attrI (by intros; rfl) (by intros; rfl) rfl rfl (by first | assumption | exact upd_self _ _ _) rfl rfl rfl rfl rfl ?_
    with_reducible refine TE.int ?_
    with_reducible refine TO.add ?_
    refine ⟨(n : Int) + 1, rfl, t, rfl, sz hz, .here ⟨?_, rfl⟩⟩
    rw [show ((n : Int) + 1) = ((n + 1 : Nat) : Int) from rfl, cut_two, Nat.add_sub_cancel_left]
    rfl
theorem sc_spaces (e : σ a = some (sc d t n)) (hn : n ≤ t.length) (hz : t.length ≤ 1000000) : CO W (k+1) 193 [.obj a] σ (fun v σ' => v = .none ∧ σ' = upd σ a (sc d t (n + (tws Bl t n).length))) E := by
  refine' CO.def (ns := ["self"]) ?ho ?hcd ?hb ?hl ?hn ?hc ?h1 ?h2 ?h3 ?h
  case ho => exact rfl
  case hcd => exact rfl
  case hb => first | exact fun s vals X r => binds1 (fun a => BindsTo.of_eq rfl) r | exact fun s vals X r => binds1 (fun a => binds_K X rfl rfl rfl rfl rfl) r
  case hl => rfl
  case hn => decide
  case hc => rfl
  case h1 => rfl
  case h2 => rfl
  case h3 => rfl
  case h =>
    have e0 := e
    unfold sc at e
    have hp := tws_place Bl t n hn
    with_reducible refine TS.cons ?_
    refine T1.while (tws Bl t n).length (fun μ m' σ' => ∃ j, m' = ([("self", .obj a)] : Loc) ∧ σ' = upd σ a (sc d t (n + j)) ∧ j + μ = (tws Bl t n).length) ⟨0, rfl, (upd_same _ e0).symm, by omega⟩ ?_
    rintro μ m' σ' ⟨j, rfl, rfl, hj⟩
    have hh := hasAt_tws (s := Bl) (t := t) (n := n) (j := j) (by omega)
    have fin : ∀ b : Bool, b = hasAt t (n + j) Bl → b = false → Fg (fun v σ' => v = .none ∧ σ' = upd σ a (sc d t (n + (tws Bl t n).length))) .none (upd σ a (sc d t (n + j))) := fun b hb h => by
      rw [hb, hh] at h
      have : j = (tws Bl t n).length := by have : ¬ j < (tws Bl t n).length := by simpa using h
                                           omega
      rw [this]; exact .here ⟨rfl, rfl⟩
    with_reducible refine TB.boolop ?_
    with_reducible refine TAll.andCons ?_
    refine TB.compare rfl ?_
    refine TE.attrI (by intros; rfl) (by intros; rfl) rfl rfl (by first | assumption | exact upd_self _ _ _) rfl rfl rfl rfl rfl ?_
    (refine' TE.callB ?zze ?zzv ?zzn ?zzx ?zzc rfl ?_ ?zzd; (case zze => rfl); (case zzv => boot_fast); (case zzn => decide); (case zzx => rfl); (case zzc => exact .builtin _); (case zzd => decide))
    refine TEs.cons' rfl ?_
    refine TE.attrI (by intros; rfl) (by intros; rfl) rfl rfl (by first | assumption | exact upd_self _ _ _) rfl rfl rfl rfl rfl ?_
    with_reducible refine TEs.nil ?_
    refine TO.lenS (sz hz) ?_
    with_reducible refine TO.ltI ?_
    refine testB (fun h => ?_) (fun h => ?_)
    · have hl : n + j < t.length := by have : ((n + j : Nat) : Int) < t.length := by simpa using h
                                       omega
      with_reducible refine TAll.andCons ?_
      refine TB.compare rfl ?_
      refine TE.item (by intros; rfl) ?_
      refine TE.attrI (by intros; rfl) (by intros; rfl) rfl rfl (by first | assumption | exact upd_self _ _ _) rfl rfl rfl rfl rfl ?_
      refine TE.attrI (by intros; rfl) (by intros; rfl) rfl rfl (by first | assumption | exact upd_self _ _ _) rfl rfl rfl rfl rfl ?_
      refine ⟨trivial, TO.itemStr (j := n + j) (x := t[n + j]) (by omega) (by omega) (seqIx hl) (List.getElem?_eq_getElem hl) ?_⟩
      refine TE.global (v := .str Bl) rfl (fun _ _ => .str Bl _) rfl ?_
      have hb : decide (t[n + j] ∈ Bl) = hasAt t (n + j) Bl := by unfold hasAt; rw [List.getElem?_eq_getElem hl]
      with_reducible refine TO.inS ?_
      refine testB (fun h => ?_) (fun h => ?_)
      · rw [hb, hh] at h
        have hj' : j < (tws Bl t n).length := by simpa using h
        with_reducible refine TAll.andNil ?_
        refine ⟨fun _ => ?_, fun h => by simp at h⟩
        refine TS.assignAttr (by intros; rfl) ?_
        with_reducible refine TE.binop ?_
        refine TE.attrI (by intros; rfl) (by intros; rfl) rfl rfl (by first | assumption | exact upd_self _ _ _) rfl rfl rfl rfl rfl ?_
        with_reducible refine TE.int ?_
        with_reducible refine TO.add ?_
        refine TE.local rfl rfl ?_
        refine setTo (C := 245) (upd_self _ _ _) rfl rfl rfl rfl (by simp) ?_
        with_reducible refine TS.nil ?_
        exact ⟨μ - 1, by omega, j + 1, rfl, by rw [upd_upd]; rfl, by omega⟩
      · refine ⟨fun h => by simp at h, fun _ => ?_⟩
        with_reducible refine TS.nil ?_
        exact fin _ hb h
    · have hl : ¬ n + j < t.length := by have : ¬ ((n + j : Nat) : Int) < t.length := by simpa using h
                                         omega
      refine ⟨fun h => by simp at h, fun _ => ?_⟩
      with_reducible refine TS.nil ?_
      exact fin false (by unfold hasAt; rw [List.getElem?_eq_none (by omega)]) rfl
end
end
section
variable {W : Wd Mine.hd.heap_39} {k : Nat} {σ : Store} {E : Int → Store → Prop}
section
variable {a d n : Nat} {t : List Nat}
theorem sc_separator (e : σ a = some (sc d t n)) (hn : n ≤ t.length) (hz : t.length ≤ 1000000) : CO W (k+2) 200 [.obj a] σ (fun v σ' => v = .bool (sepF t n).1 ∧ σ' = upd σ a (sc d t (sepF t n).2)) E := by
  refine' CO.def (ns := ["self"]) ?ho ?hcd ?hb ?hl ?hn ?hc ?h1 ?h2 ?h3 ?h
  case ho => exact rfl
  case hcd => exact rfl
  case hb => first | exact fun s vals X r => binds1 (fun a => BindsTo.of_eq rfl) r | exact fun s vals X r => binds1 (fun a => binds_K X rfl rfl rfl rfl rfl) r
  case hl => rfl
  case hn => decide
  case hc => rfl
  case h1 => rfl
  case h2 => rfl
  case h3 => rfl
  case h =>
    have e0 := e
    unfold sc at e
    have hp := tws_place Bl t n hn
    refine TS.expr (by intros; rfl) (by intros; rfl) ?_
    refine TE.mI0 (by intros; rfl) rfl rfl (by first | assumption | exact upd_self _ _ _) rfl rfl rfl rfl rfl ?_
    refine (sc_spaces e0 hn hz).useEq ?_
    with_reducible refine TS.if ?_
    refine TB.compare rfl ?_
    refine TE.mI0 (by intros; rfl) rfl rfl (by first | assumption | exact upd_self _ _ _) rfl rfl rfl rfl rfl ?_
    refine (sc_peek (upd_self _ _ _) hp hz).useEq ?_
    refine TE.str lit19 ?_
    with_reducible refine TO.neS ?_
    refine testB (fun h => ?_) (fun h => ?_)
    · have h' : hasAt t (n + (tws Bl t n).length) [44] = false := by rw [← pk_eq]; simpa using h
      with_reducible refine TS.ret ?_
      with_reducible refine TE.bool ?_
      exact .here (by unfold sepF; rw [h']; exact ⟨rfl, rfl⟩)
    · have h' : hasAt t (n + (tws Bl t n).length) [44] = true := by rw [← pk_eq]; simpa using h
      have hl : n + (tws Bl t n).length < t.length := (hasAt_true h').choose_spec.2.1
      with_reducible refine TS.nil ?_
      refine TS.assignAttr (by intros; rfl) ?_
      with_reducible refine TE.binop ?_
      refine TE.attrI (by intros; rfl) (by intros; rfl) rfl rfl (by first | assumption | exact upd_self _ _ _) rfl rfl rfl rfl rfl ?_
      with_reducible refine TE.int ?_
      with_reducible refine TO.add ?_
      refine TE.local rfl rfl ?_
      refine setTo (C := 245) (upd_self _ _ _) rfl rfl rfl rfl (by simp) ?_
      rw [upd_upd]
      refine TS.expr (by intros; rfl) (by intros; rfl) ?_
      refine TE.mI0 (by intros; rfl) rfl rfl (by first | assumption | exact upd_self _ _ _) rfl rfl rfl rfl rfl ?_
      refine (sc_spaces (n := n + (tws Bl t n).length + 1) (upd_self _ _ _) hl hz).useEq ?_
      with_reducible refine TS.ret ?_
      with_reducible refine TE.bool ?_
      exact .here (by unfold sepF; rw [h', upd_upd]; exact ⟨rfl, rfl⟩)
theorem sc_looks (e : σ a = some (sc d t n)) (hn : n ≤ t.length) (hz : t.length ≤ 1000000) : CO W (k+2) 207 [.obj a] σ (fun v σ' => v = .bool (looksF t n) ∧ σ' = σ) E := by
  refine' CO.def (ns := ["self"]) ?ho ?hcd ?hb ?hl ?hn ?hc ?h1 ?h2 ?h3 ?h
  case ho => exact rfl
  case hcd => exact rfl
  case hb => first | exact fun s vals X r => binds1 (fun a => BindsTo.of_eq rfl) r | exact fun s vals X r => binds1 (fun a => binds_K X rfl rfl rfl rfl rfl) r
  case hl => rfl
  case hn => decide
  case hc => rfl
  case h1 => rfl
  case h2 => rfl
  case h3 => rfl
  case h =>
    have e0 := e
    unfold sc at e
    refine TS.assign (by intros; rfl) rfl ?_
    refine TE.mI0 (by intros; rfl) rfl rfl (by first | assumption | exact upd_self _ _ _) rfl rfl rfl rfl rfl ?_
    refine (sc_peek e0 hn hz).useEq ?_
    with_reducible refine TS.ret ?_
    with_reducible refine TE.bools ?_
    with_reducible refine TV.and ?_
    refine TE.compare rfl ?_
    refine TE.local rfl rfl ?_
    refine TE.str lit9 ?_
    with_reducible refine TO.neS ?_
    with_reducible refine Tru.bool ?_
    rcases pk_cases t n with ⟨_, h1, h2⟩ | ⟨c, hl, h1, h2⟩
    · rw [h2]
      refine ⟨fun h => by simp at h, fun _ => .here ⟨?_, rfl⟩⟩
      unfold looksF hasAt; rw [h1]; rfl
    · rw [h2]
      refine ⟨fun _ => ?_, fun h => by simp at h⟩
      with_reducible refine TV.one ?_
      refine TE.compare rfl ?_
      refine TE.local rfl rfl ?_
      with_reducible refine TE.binop ?_
      refine TE.str lit56 ?_
      refine TE.global (v := .str D) rfl (fun _ _ => .str D _) rfl ?_
      refine TO.cat (sz (by simp [D])) ?_
      with_reducible refine TO.inS ?_
      refine .here ⟨?_, rfl⟩
      unfold looksF hasAt; rw [h1]
theorem sc_digits (e : σ a = some (sc d t n)) (hn : n ≤ t.length) (hz : t.length ≤ 1000000) : CO W (k+1) 214 [.obj a] σ (fun v σ' => v = .int (tw t n).length ∧ σ' = upd σ a (sc d t (n + (tw t n).length))) E := by
  refine' CO.def (ns := ["self"]) ?ho ?hcd ?hb ?hl ?hn ?hc ?h1 ?h2 ?h3 ?h
  case ho => exact rfl
  case hcd => exact rfl
  case hb => first | exact fun s vals X r => binds1 (fun a => BindsTo.of_eq rfl) r | exact fun s vals X r => binds1 (fun a => binds_K X rfl rfl rfl rfl rfl) r
  case hl => rfl
  case hn => decide
  case hc => rfl
  case h1 => rfl
  case h2 => rfl
  case h3 => rfl
  case h =>
    have e0 := e
    unfold sc at e
    have hp := tw_place t n hn
    refine TS.assign (by intros; rfl) rfl ?_
    refine TE.attrI (by intros; rfl) (by intros; rfl) rfl rfl (by first | assumption | exact upd_self _ _ _) rfl rfl rfl rfl rfl ?_
    with_reducible refine TS.cons ?_
    refine T1.while (tw t n).length (fun μ m' σ' => ∃ j, m' = ([("self", .obj a), ("begin", .int n)] : Loc) ∧ σ' = upd σ a (sc d t (n + j)) ∧ j + μ = (tw t n).length) ⟨0, rfl, (upd_same _ e0).symm, by omega⟩ ?_
    rintro μ m' σ' ⟨j, rfl, rfl, hj⟩
    have hh := hasAt_tw (t := t) (n := n) (j := j) (by omega)
    have fin : ∀ b : Bool, b = hasAt t (n + j) D → b = false → j = (tw t n).length := fun b hb h => by
      rw [hb, hh] at h
      have : ¬ j < (tw t n).length := by simpa using h
      omega
    with_reducible refine TB.boolop ?_
    with_reducible refine TAll.andCons ?_
    refine TB.compare rfl ?_
    refine TE.attrI (by intros; rfl) (by intros; rfl) rfl rfl (by first | assumption | exact upd_self _ _ _) rfl rfl rfl rfl rfl ?_
    (refine' TE.callB ?zze ?zzv ?zzn ?zzx ?zzc rfl ?_ ?zzd; (case zze => rfl); (case zzv => boot_fast); (case zzn => decide); (case zzx => rfl); (case zzc => exact .builtin _); (case zzd => decide))
    refine TEs.cons' rfl ?_
    refine TE.attrI (by intros; rfl) (by intros; rfl) rfl rfl (by first | assumption | exact upd_self _ _ _) rfl rfl rfl rfl rfl ?_
    with_reducible refine TEs.nil ?_
    refine TO.lenS (sz hz) ?_
    with_reducible refine TO.ltI ?_
    refine testB (fun h => ?_) (fun h => ?_)
    · have hl : n + j < t.length := by have : ((n + j : Nat) : Int) < t.length := by simpa using h
                                       omega
      with_reducible refine TAll.andCons ?_
      refine TB.compare rfl ?_
      refine TE.item (by intros; rfl) ?_
      refine TE.attrI (by intros; rfl) (by intros; rfl) rfl rfl (by first | assumption | exact upd_self _ _ _) rfl rfl rfl rfl rfl ?_
      refine TE.attrI (by intros; rfl) (by intros; rfl) rfl rfl (by first | assumption | exact upd_self _ _ _) rfl rfl rfl rfl rfl ?_
      refine ⟨trivial, TO.itemStr (j := n + j) (x := t[n + j]) (by omega) (by omega) (seqIx hl) (List.getElem?_eq_getElem hl) ?_⟩
      refine TE.global (v := .str D) rfl (fun _ _ => .str D _) rfl ?_
      have hb : decide (t[n + j] ∈ D) = hasAt t (n + j) D := by unfold hasAt; rw [List.getElem?_eq_getElem hl]
      with_reducible refine TO.inS ?_
      refine testB (fun h => ?_) (fun h => ?_)
      · rw [hb, hh] at h
        have hj' : j < (tw t n).length := by simpa using h
        with_reducible refine TAll.andNil ?_
        refine ⟨fun _ => ?_, fun h => by simp at h⟩
        refine TS.assignAttr (by intros; rfl) ?_
        with_reducible refine TE.binop ?_
        refine TE.attrI (by intros; rfl) (by intros; rfl) rfl rfl (by first | assumption | exact upd_self _ _ _) rfl rfl rfl rfl rfl ?_
        with_reducible refine TE.int ?_
        with_reducible refine TO.add ?_
        refine TE.local rfl rfl ?_
        refine setTo (C := 245) (upd_self _ _ _) rfl rfl rfl rfl (by simp) ?_
        with_reducible refine TS.nil ?_
        exact ⟨μ - 1, by omega, j + 1, rfl, by rw [upd_upd]; rfl, by omega⟩
      · refine ⟨fun h => by simp at h, fun _ => ?_⟩
        have hj' := fin _ hb h
        with_reducible refine TS.ret ?_
        with_reducible refine TE.binop ?_
        refine TE.attrI (by intros; rfl) (by intros; rfl) rfl rfl (by first | assumption | exact upd_self _ _ _) rfl rfl rfl rfl rfl ?_
        refine TE.local rfl rfl ?_
        with_reducible refine TO.sub ?_
        exact .here ⟨by rw [← hj']; congr 1; omega, by rw [← hj']⟩
    · have hl : ¬ n + j < t.length := by have : ¬ ((n + j : Nat) : Int) < t.length := by simpa using h
                                         omega
      refine ⟨fun h => by simp at h, fun _ => ?_⟩
      have hj' := fin false (by unfold hasAt; rw [List.getElem?_eq_none (by omega)]) rfl
      with_reducible refine TS.ret ?_
      with_reducible refine TE.binop ?_
      refine TE.attrI (by intros; rfl) (by intros; rfl) rfl rfl (by first | assumption | exact upd_self _ _ _) rfl rfl rfl rfl rfl ?_
      refine TE.local rfl rfl ?_
      with_reducible refine TO.sub ?_
      exact .here ⟨by rw [← hj']; congr 1; omega, by rw [← hj']⟩
theorem sc_exponent (e : σ a = some (sc d t n)) (hn : n ≤ t.length) (hz : t.length ≤ 1000000) : CO W (k+2) 221 [.obj a] σ (fun v σ' => v = .none ∧ σ' = upd σ a (sc d t (expSkip t n))) E := by
  refine' CO.def (ns := ["self"]) ?ho ?hcd ?hb ?hl ?hn ?hc ?h1 ?h2 ?h3 ?h
  case ho => exact rfl
  case hcd => exact rfl
  case hb => first | exact fun s vals X r => binds1 (fun a => BindsTo.of_eq rfl) r | exact fun s vals X r => binds1 (fun a => binds_K X rfl rfl rfl rfl rfl) r
  case hl => rfl
  case hn => decide
  case hc => rfl
  case h1 => rfl
  case h2 => rfl
  case h3 => rfl
  case h =>
    have e0 := e
    unfold sc at e
    refine TS.assign (by intros; rfl) rfl ?_
    refine TE.attrI (by intros; rfl) (by intros; rfl) rfl rfl (by first | assumption | exact upd_self _ _ _) rfl rfl rfl rfl rfl ?_
    with_reducible refine TS.if ?_
    refine TB.compare rfl ?_
    refine TE.mI0 (by intros; rfl) rfl rfl (by first | assumption | exact upd_self _ _ _) rfl rfl rfl rfl rfl ?_
    refine (sc_peek e0 hn hz).useEq ?_
    with_reducible refine TE.tuple ?_
    refine TEs.S rfl lit34 ?_
    refine TEs.S1 rfl lit35 ?_
    refine ⟨by simp [sizeLine_eq], TO.notInStrs rfl ?_⟩
    rw [pk_any]
    refine testB (fun h => ?_) (fun h => ?_)
    · have h' : hasAt t n [101, 69] = false := by simpa using h
      with_reducible refine TS.cons ?_
      with_reducible refine T1.retNone ?_
      exact .here (by unfold expSkip; rw [h', if_neg (by simp), upd_same _ e0]; exact ⟨rfl, rfl⟩)
    · have h' : hasAt t n [101, 69] = true := by simpa using h
      have hl : n + 1 ≤ t.length := (hasAt_true h').choose_spec.2.1
      have ho := oneAt_le (s := [43, 45]) hl
      with_reducible refine TS.nil ?_
      refine TS.assignAttr (by intros; rfl) ?_
      with_reducible refine TE.binop ?_
      refine TE.attrI (by intros; rfl) (by intros; rfl) rfl rfl (by first | assumption | exact upd_self _ _ _) rfl rfl rfl rfl rfl ?_
      with_reducible refine TE.int ?_
      with_reducible refine TO.add ?_
      refine TE.local rfl rfl ?_
      refine setTo (C := 245) (e) rfl rfl rfl rfl (by simp) ?_
      refine TS.cons (T1.cut (fun m' σ' => m' = ([("self", .obj a), ("ahead", .int n)] : Loc) ∧ σ' = upd σ a (sc d t (n + 1 + (oneAt t (n + 1) [43, 45]).length))) ?_ ?_)
      · with_reducible refine T1.if ?_
        refine TB.compare rfl ?_
        refine TE.mI0 (by intros; rfl) rfl rfl (by first | assumption | exact upd_self _ _ _) rfl rfl rfl rfl rfl ?_
        refine (sc_peek (n := n + 1) (upd_self _ _ _) hl hz).useEq ?_
        with_reducible refine TE.tuple ?_
        refine TEs.S rfl lit36 ?_
        refine TEs.S1 rfl lit10 ?_
        refine ⟨by simp [sizeLine_eq], TO.inStrs rfl ?_⟩
        rw [pk_any]
        refine testB (fun h => ?_) (fun h => ?_)
        · rw [one_len, h]
          refine TS.assignAttr (by intros; rfl) ?_
          with_reducible refine TE.binop ?_
          refine TE.attrI (by intros; rfl) (by intros; rfl) rfl rfl (by first | assumption | exact upd_self _ _ _) rfl rfl rfl rfl rfl ?_
          with_reducible refine TE.int ?_
          with_reducible refine TO.add ?_
          refine TE.local rfl rfl ?_
          refine setTo (C := 245) (upd_self _ _ _) rfl rfl rfl rfl (by simp [setV]) ?_
          with_reducible refine TS.nil ?_
          exact ⟨rfl, by rw [upd_upd]; rfl⟩
        · rw [one_len, h]
          with_reducible refine TS.nil ?_
          exact ⟨rfl, rfl⟩
      · rintro m' σ' ⟨rfl, rfl⟩
        have hw := tw_place t _ ho
        with_reducible refine TS.if ?_
        refine TB.compare rfl ?_
        refine TE.mI0 (by intros; rfl) rfl rfl (by first | assumption | exact upd_self _ _ _) rfl rfl rfl rfl rfl ?_
        refine (sc_digits (upd_self _ _ _) ho hz).useEq ?_
        rw [upd_upd]
        with_reducible refine TE.int ?_
        with_reducible refine TO.eqI ?_
        refine testB (fun h => ?_) (fun h => ?_)
        · have hd : tw t (n + 1 + (oneAt t (n + 1) [43, 45]).length) = [] := by
            have : ((tw t (n + 1 + (oneAt t (n + 1) [43, 45]).length)).length : Int) = 0 := by simpa using h
            exact List.length_eq_zero_iff.mp (by omega)
          refine TS.assignAttr (by intros; rfl) ?_
          refine TE.local rfl rfl ?_
          refine TE.local rfl rfl ?_
          refine setTo (C := 245) (upd_self _ _ _) rfl rfl rfl rfl (by simp) ?_
          with_reducible refine TS.nil ?_
          with_reducible refine TS.nil ?_
          exact .here ⟨rfl, by rw [upd_upd]; unfold expSkip; rw [h', if_pos rfl, if_pos hd]; rfl⟩
        · have hd : tw t (n + 1 + (oneAt t (n + 1) [43, 45]).length) ≠ [] := by
            intro q
            rw [q] at h
            simp at h
          with_reducible refine TS.nil ?_
          with_reducible refine TS.nil ?_
          exact .here ⟨rfl, by unfold expSkip; rw [h', if_pos rfl, if_neg hd]⟩
end
end
section
theorem fault_cls (p : Params) : FaultCls (Mine.hd.heap_39 p) 63 where
  exc := ⟨_, _, _, _, _, _, _, _, _, _, _, _, _, _, _, _, rfl, ⟨by decide, by decide, by decide, by decide, by decide⟩⟩
  cls := ⟨_, 31, rfl, rfl, rfl⟩
  obj := rfl
  setattr := rfl
  call := rfl
  tm := rfl
  tp := rfl
  init := ⟨60, rfl, rfl, _, _, _, _, _, _, _, _, _, _, _, _, _, _, _, _, _, _, _, _, _, _, rfl, rfl, fun s a b c => BindsTo.of_eq rfl, rfl, rfl, rfl, rfl, rfl, rfl, rfl⟩
variable {W : Wd Mine.hd.heap_39} {k : Nat} {σ : Store} {E : Int → Store → Prop}
section
variable {a d n : Nat} {t : List Nat} {Q : V → Store → Prop}
theorem sc_fault {msg : V} (e : σ a = some (sc d t n)) (q : E n σ) : CO W (k+3) 186 [.obj a, msg] σ Q E := by
  refine' CO.raise (ns := ["self", "message"]) (fault_cls _) ?hX ?hx ?hkp ?hpl ?ho ?hcd ?hb ?hl ?hn ?hc ?h1 ?h2 ?h3 ?h ?db
  case ho => exact rfl
  case hX => exact rfl
  case hx => exact rfl
  case hkp => exact rfl
  case hpl => exact rfl
  case hcd => exact rfl
  case hb => exact fun s vals X r => binds2 (fun a b => BindsTo.of_eq rfl) r
  case hl => rfl
  case hn => decide
  case hc => rfl
  case h1 => rfl
  case h2 => rfl
  case h3 => rfl
  case db => decide
  case h =>
    unfold sc at e
    refine TEs.L rfl rfl rfl ?_
    refine TEs.cons' rfl ?_
    refine TE.attrI (by intros; rfl) (by intros; rfl) rfl rfl (by first | assumption | exact upd_self _ _ _) rfl rfl rfl rfl rfl ?_
    with_reducible refine TEs.nil ?_
    exact ⟨_, _, rfl, σ, .refl, q⟩
theorem sc_flag (e : σ a = some (sc d t n)) (hn : n ≤ t.length) (hz : t.length ≤ 1000000) {b : Nat} (hb : b < 2) (hp : pk t n = [48 + b]) : CO W (k+4) 235 [.obj a] σ (fun v σ' => v = .int b ∧ σ' = upd σ a (sc d t (n + 1))) E := by
  refine' CO.def (ns := ["self"]) ?ho ?hcd ?hb ?hl ?hn ?hc ?h1 ?h2 ?h3 ?h
  case ho => exact rfl
  case hcd => exact rfl
  case hb => first | exact fun s vals X r => binds1 (fun a => BindsTo.of_eq rfl) r | exact fun s vals X r => binds1 (fun a => binds_K X rfl rfl rfl rfl rfl) r
  case hl => rfl
  case hn => decide
  case hc => rfl
  case h1 => rfl
  case h2 => rfl
  case h3 => rfl
  case h =>
    have e0 := e
    unfold sc at e
    have hb' : b = 0 ∨ b = 1 := by omega
    refine TS.assign (by intros; rfl) rfl ?_
    refine TE.mI0 (by intros; rfl) rfl rfl (by first | assumption | exact upd_self _ _ _) rfl rfl rfl rfl rfl ?_
    refine (sc_peek e0 hn hz).useEq ?_
    rw [hp]
    with_reducible refine TS.if ?_
    with_reducible refine TB.boolop ?_
    with_reducible refine TAll.andCons ?_
    refine TB.cmpLS rfl rfl rfl lit18 ?_
    with_reducible refine TO.neS ?_
    refine testB (fun h => ?_) (fun h => ?_)
    · with_reducible refine TAll.andCons ?_
      refine TB.cmpLS rfl rfl rfl lit38 ?_
      with_reducible refine TO.neS ?_
      refine testB (fun h => ?_) (fun h => ?_)
      · exfalso
        rcases hb' with rfl | rfl <;> simp_all
      · skip
        refine ⟨fun h => by simp at h, fun _ => ?_⟩
        with_reducible refine TS.nil ?_
        refine TS.assignAttr (by intros; rfl) ?_
        with_reducible refine TE.binop ?_
        refine TE.attrI (by intros; rfl) (by intros; rfl) rfl rfl (by first | assumption | exact upd_self _ _ _) rfl rfl rfl rfl rfl ?_
        with_reducible refine TE.int ?_
        with_reducible refine TO.add ?_
        refine TE.local rfl rfl ?_
        refine setTo (C := 245) (e) rfl rfl rfl rfl (by simp) ?_
        with_reducible refine TS.ret ?_
        with_reducible refine TE.ifexp ?_
        refine TB.cmpLS rfl rfl rfl lit18 ?_
        with_reducible refine TO.eqS ?_
        refine testB (fun h => ?_) (fun h => ?_)
        · exfalso
          rcases hb' with rfl | rfl <;> simp_all
        · with_reducible refine TE.int ?_
          refine .here ⟨?_, rfl⟩
          rcases hb' with rfl | rfl
          · simp at h
          · rfl
    · refine ⟨fun h => by simp at h, fun _ => ?_⟩
      with_reducible refine TS.nil ?_
      refine TS.assignAttr (by intros; rfl) ?_
      with_reducible refine TE.binop ?_
      refine TE.attrI (by intros; rfl) (by intros; rfl) rfl rfl (by first | assumption | exact upd_self _ _ _) rfl rfl rfl rfl rfl ?_
      with_reducible refine TE.int ?_
      with_reducible refine TO.add ?_
      refine TE.local rfl rfl ?_
      refine setTo (C := 245) (e) rfl rfl rfl rfl (by simp) ?_
      with_reducible refine TS.ret ?_
      with_reducible refine TE.ifexp ?_
      refine TB.cmpLS rfl rfl rfl lit18 ?_
      with_reducible refine TO.eqS ?_
      refine testB (fun h => ?_) (fun h' => ?_)
      · with_reducible refine TE.int ?_
        refine .here ⟨?_, rfl⟩
        rcases hb' with rfl | rfl
        · rfl
        · simp at h
      · exfalso
        rcases hb' with rfl | rfl <;> simp_all
theorem sc_number (e : σ a = some (sc d t n)) (hn : n ≤ t.length) (hz : t.length ≤ 1000000) {p q : Int} {n' : Nat} (h : numF t n = some ((p, q), n')) : CO W (k+5) 228 [.obj a] σ (fun v σ' => v = .tup [.int p, .int q] ∧ σ' = upd σ a (sc d t n')) E := by
  refine' CO.def (ns := ["self"]) ?ho ?hcd ?hb ?hl ?hn ?hc ?h1 ?h2 ?h3 ?h
  case ho => exact rfl
  case hcd => exact rfl
  case hb => first | exact fun s vals X r => binds1 (fun a => BindsTo.of_eq rfl) r | exact fun s vals X r => binds1 (fun a => binds_K X rfl rfl rfl rfl rfl) r
  case hl => rfl
  case hn => decide
  case hc => rfl
  case h1 => rfl
  case h2 => rfl
  case h3 => rfl
  case h =>
    have e0 := e
    unfold sc at e
    unfold numF at h
    by_cases h0 : (numW t n).length + (fAt t (numP t n)).length = 0
    · rw [if_pos h0] at h; cases h
    rw [if_neg h0] at h
    obtain ⟨r, hr, hq⟩ := Option.map_eq_some_iff.mp h
    cases hq
    have l1 := oneAt_le (s := [43, 45]) hn
    have l2 := tw_place t _ l1
    have l2' : numP t n ≤ t.length := l2
    have l3 := oneAt_le (s := [46]) l2'
    have l4 : numP t n + (oneAt t (numP t n) [46]).length + (fAt t (numP t n)).length ≤ t.length := by
      unfold fAt
      cases hh : hasAt t (numP t n) [46] with
      | false => rw [hasAt_false hh]; simpa using l2'
      | true =>
        obtain ⟨c, _, hl, _, h4⟩ := hasAt_true hh
        rw [h4]
        have := tw_place t (numP t n + 1) hl
        simpa using this
    refine TS.cons (T1.assign (by intros; rfl) rfl (TE.attr (by intros; rfl) (by intros; rfl) (TE.local rfl rfl (TO.getInst e rfl rfl rfl rfl rfl ?_))))
    refine TS.cons (T1.cut (fun m' σ' => m' = ([("self", .obj a), ("begin", .int n)] : Loc) ∧ σ' = upd σ a (sc d t (n + (oneAt t n [43, 45]).length))) ?_ ?_)
    · with_reducible refine T1.if ?_
      refine TB.compare rfl ?_
      refine TE.mI0 (by intros; rfl) rfl rfl (by first | assumption | exact upd_self _ _ _) rfl rfl rfl rfl rfl ?_
      refine (sc_peek e0 hn hz).useEq ?_
      with_reducible refine TE.tuple ?_
      refine TEs.S rfl lit36 ?_
      refine TEs.S1 rfl lit10 ?_
      refine ⟨by simp [sizeLine_eq], TO.inStrs rfl ?_⟩
      rw [pk_any]
      refine testB (fun h => ?_) (fun h => ?_)
      · rw [one_len, h]
        refine TS.assignAttr (by intros; rfl) ?_
        with_reducible refine TE.binop ?_
        refine TE.attrI (by intros; rfl) (by intros; rfl) rfl rfl (by first | assumption | exact upd_self _ _ _) rfl rfl rfl rfl rfl ?_
        with_reducible refine TE.int ?_
        with_reducible refine TO.add ?_
        refine TE.local rfl rfl ?_
        refine setTo (C := 245) (e) rfl rfl rfl rfl (by simp) ?_
        with_reducible refine TS.nil ?_
        exact ⟨rfl, rfl⟩
      · rw [one_len, h]
        with_reducible refine TS.nil ?_
        exact ⟨rfl, (upd_same _ e0).symm⟩
    rintro m' σ' ⟨rfl, rfl⟩
    refine TS.cons (T1.cut (fun m' σ' => m' = ([("self", .obj a), ("begin", .int n), ("many", .int (numW t n).length)] : Loc) ∧ σ' = upd σ a (sc d t (numP t n))) ?_ ?_)
    · refine T1.assign (by intros; rfl) rfl ?_
      refine TE.mI0 (by intros; rfl) rfl rfl (by first | assumption | exact upd_self _ _ _) rfl rfl rfl rfl rfl ?_
      refine (sc_digits (upd_self _ _ _) l1 hz).useEq ?_
      rw [upd_upd]
      exact ⟨rfl, rfl⟩
    rintro m' σ' ⟨rfl, rfl⟩
    refine TS.cons (T1.cut (fun m' σ' => m' = ([("self", .obj a), ("begin", .int n), ("many", .int ((numW t n).length + (fAt t (numP t n)).length : Nat))] : Loc) ∧ σ' = upd σ a (sc d t (numP t n + (oneAt t (numP t n) [46]).length + (fAt t (numP t n)).length))) ?_ ?_)
    · with_reducible refine T1.if ?_
      refine TB.compare rfl ?_
      refine TE.mI0 (by intros; rfl) rfl rfl (by first | assumption | exact upd_self _ _ _) rfl rfl rfl rfl rfl ?_
      refine (sc_peek (upd_self _ _ _) l2' hz).useEq ?_
      refine TE.str lit17 ?_
      with_reducible refine TO.eqS ?_
      refine testB (fun h => ?_) (fun h => ?_)
      · rw [pk_eq] at h
        obtain ⟨c, _, hl, _, h4⟩ := hasAt_true h
        refine TS.assignAttr (by intros; rfl) ?_
        with_reducible refine TE.binop ?_
        refine TE.attrI (by intros; rfl) (by intros; rfl) rfl rfl (by first | assumption | exact upd_self _ _ _) rfl rfl rfl rfl rfl ?_
        with_reducible refine TE.int ?_
        with_reducible refine TO.add ?_
        refine TE.local rfl rfl ?_
        refine setTo (C := 245) (upd_self _ _ _) rfl rfl rfl rfl (by simp) ?_
        refine TS.assign (by intros; rfl) rfl ?_
        refine TE.binL rfl rfl ?_
        refine TE.mI0 (by intros; rfl) rfl rfl (by first | assumption | exact upd_self _ _ _) rfl rfl rfl rfl rfl ?_
        refine (sc_digits (n := numP t n + 1) (upd_self _ _ _) hl hz).useEq ?_
        with_reducible refine TO.add ?_
        with_reducible refine TS.nil ?_
        rw [upd_upd, upd_upd]
        unfold fAt
        rw [h4, if_neg (by simp)]
        exact ⟨rfl, rfl⟩
      · rw [pk_eq] at h
        unfold fAt
        rw [hasAt_false h, if_pos rfl]
        with_reducible refine TS.nil ?_
        exact ⟨rfl, rfl⟩
    rintro m' σ' ⟨rfl, rfl⟩
    refine TS.cons (T1.if ?_)
    refine TB.cmpLI rfl rfl rfl ?_
    with_reducible refine TO.eqI ?_
    refine testB (fun h => absurd h (by simp; omega)) (fun _ => ?_)
    refine TS.nil ?_
    refine TS.expr (by intros; rfl) (by intros; rfl) ?_
    refine TE.mI0 (by intros; rfl) rfl rfl (by first | assumption | exact upd_self _ _ _) rfl rfl rfl rfl rfl ?_
    refine (sc_exponent (upd_self _ _ _) l4 hz).useEq ?_
    rw [upd_upd]
    refine TS.cons (T1.tryQuiet ?_)
    with_reducible refine TS.ret ?_
    refine TE.call rfl rfl rfl rfl ?_
    refine TEs.cons' rfl ?_
    with_reducible refine TE.slice ?_
    refine TE.attrI (by intros; rfl) (by intros; rfl) rfl rfl (by first | assumption | exact upd_self _ _ _) rfl rfl rfl rfl rfl ?_
    with_reducible refine TP.some ?_
    refine TE.local rfl rfl ?_
    refine ⟨n, rfl, ?_⟩
    with_reducible refine TP.some ?_
    refine TE.attrI (by intros; rfl) (by intros; rfl) rfl rfl (by first | assumption | exact upd_self _ _ _) rfl rfl rfl rfl rfl ?_
    refine ⟨_, rfl, t, rfl, sz hz, ?_⟩
    rw [show expSkip t (numP t n + (oneAt t (numP t n) [46]).length + (fAt t (numP t n)).length) = numE t n from rfl, cut_two]
    with_reducible refine TEs.nil ?_
    refine (read_decimal_ok ?_ hr).use ?_ (fun _ _ h => h)
    · rw [List.length_take, List.length_drop]; omega
    rintro v σ' ⟨rfl, rfl⟩
    exact .here ⟨rfl, rfl⟩
theorem sc_command_over (e : σ a = some (sc d t n)) (hn : n ≤ t.length) (hz : t.length ≤ 1000000) (ho : n + (tws Bl t n).length = t.length) : CO W (k+5) 242 [.obj a] σ (fun v σ' => v = .none ∧ σ' = upd σ a (sc d t t.length)) E := by
  refine' CO.def (ns := ["self"]) ?ho ?hcd ?hb ?hl ?hn ?hc ?h1 ?h2 ?h3 ?h
  case ho => exact rfl
  case hcd => exact rfl
  case hb => first | exact fun s vals X r => binds1 (fun a => BindsTo.of_eq rfl) r | exact fun s vals X r => binds1 (fun a => binds_K X rfl rfl rfl rfl rfl) r
  case hl => rfl
  case hn => decide
  case hc => rfl
  case h1 => rfl
  case h2 => rfl
  case h3 => rfl
  case h =>
    have e0 := e
    unfold sc at e
    refine TS.expr (by intros; rfl) (by intros; rfl) ?_
    refine TE.mI0 (by intros; rfl) rfl rfl (by first | assumption | exact upd_self _ _ _) rfl rfl rfl rfl rfl ?_
    refine (sc_spaces e0 hn hz).useEq ?_
    rw [ho]
    with_reducible refine TS.if ?_
    refine TB.value (by intros; rfl) ?_
    refine TE.mI0 (by intros; rfl) rfl rfl (by first | assumption | exact upd_self _ _ _) rfl rfl rfl rfl rfl ?_
    refine (sc_is_over (upd_self _ _ _) (Nat.le_refl _) hz).useEq ?_
    with_reducible refine Tru.bool ?_
    refine ⟨fun _ => ?_, fun h => by simp at h⟩
    with_reducible refine TS.ret ?_
    with_reducible refine TE.none ?_
    exact .here ⟨rfl, rfl⟩
theorem sc_command (e : σ a = some (sc d t n)) (hn : n ≤ t.length) (hz : t.length ≤ 1000000) {c : Nat} (ho : t[n + (tws Bl t n).length]? = some c) (hc : c ∈ Le) : CO W (k+5) 242 [.obj a] σ (fun v σ' => v = .str [c] ∧ σ' = upd σ a (sc d t (n + (tws Bl t n).length + 1))) E := by
  refine' CO.def (ns := ["self"]) ?ho ?hcd ?hb ?hl ?hn ?hc ?h1 ?h2 ?h3 ?h
  case ho => exact rfl
  case hcd => exact rfl
  case hb => first | exact fun s vals X r => binds1 (fun a => BindsTo.of_eq rfl) r | exact fun s vals X r => binds1 (fun a => binds_K X rfl rfl rfl rfl rfl) r
  case hl => rfl
  case hn => decide
  case hc => rfl
  case h1 => rfl
  case h2 => rfl
  case h3 => rfl
  case h =>
    have e0 := e
    unfold sc at e
    have hl : n + (tws Bl t n).length < t.length := (List.getElem?_eq_some_iff.mp ho).1
    refine TS.expr (by intros; rfl) (by intros; rfl) ?_
    refine TE.mI0 (by intros; rfl) rfl rfl (by first | assumption | exact upd_self _ _ _) rfl rfl rfl rfl rfl ?_
    refine (sc_spaces e0 hn hz).useEq ?_
    with_reducible refine TS.if ?_
    refine TB.value (by intros; rfl) ?_
    refine TE.mI0 (by intros; rfl) rfl rfl (by first | assumption | exact upd_self _ _ _) rfl rfl rfl rfl rfl ?_
    refine (sc_is_over (upd_self _ _ _) (by omega) hz).useEq ?_
    with_reducible refine Tru.bool ?_
    refine ⟨fun h => by simp at h; omega, fun _ => ?_⟩
    with_reducible refine TS.nil ?_
    refine TS.assign (by intros; rfl) rfl ?_
    refine TE.mI0 (by intros; rfl) rfl rfl (by first | assumption | exact upd_self _ _ _) rfl rfl rfl rfl rfl ?_
    refine (sc_peek (upd_self _ _ _) (by omega) hz).useEq ?_
    rw [pk_some ho]
    with_reducible refine TS.if ?_
    refine TB.cmpL rfl rfl rfl ?_
    refine TE.global (v := .str Le) rfl (fun _ _ => .str Le _) rfl ?_
    with_reducible refine TO.notInS ?_
    refine testB (fun h => by simp [hc] at h) (fun _ => ?_)
    with_reducible refine TS.nil ?_
    refine TS.assignAttr (by intros; rfl) ?_
    with_reducible refine TE.binop ?_
    refine TE.attrI (by intros; rfl) (by intros; rfl) rfl rfl (by first | assumption | exact upd_self _ _ _) rfl rfl rfl rfl rfl ?_
    with_reducible refine TE.int ?_
    with_reducible refine TO.add ?_
    refine TE.local rfl rfl ?_
    refine setTo (C := 245) (upd_self _ _ _) rfl rfl rfl rfl (by simp) ?_
    rw [upd_upd]
    with_reducible refine TS.ret ?_
    refine TE.local rfl rfl ?_
    exact .here ⟨rfl, rfl⟩
theorem sc_command_bad (e : σ a = some (sc d t n)) (hn : n ≤ t.length) (hz : t.length ≤ 1000000) {c : Nat} (ho : t[n + (tws Bl t n).length]? = some c) (hc : c ∉ Le) (q : E (n + (tws Bl t n).length : Nat) (upd σ a (sc d t (n + (tws Bl t n).length)))) : CO W (k+5) 242 [.obj a] σ Q E := by
  refine' CO.def (ns := ["self"]) ?ho ?hcd ?hb ?hl ?hn ?hc ?h1 ?h2 ?h3 ?h
  case ho => exact rfl
  case hcd => exact rfl
  case hb => first | exact fun s vals X r => binds1 (fun a => BindsTo.of_eq rfl) r | exact fun s vals X r => binds1 (fun a => binds_K X rfl rfl rfl rfl rfl) r
  case hl => rfl
  case hn => decide
  case hc => rfl
  case h1 => rfl
  case h2 => rfl
  case h3 => rfl
  case h =>
    have e0 := e
    unfold sc at e
    have hl : n + (tws Bl t n).length < t.length := (List.getElem?_eq_some_iff.mp ho).1
    refine TS.expr (by intros; rfl) (by intros; rfl) ?_
    refine TE.mI0 (by intros; rfl) rfl rfl (by first | assumption | exact upd_self _ _ _) rfl rfl rfl rfl rfl ?_
    refine (sc_spaces e0 hn hz).useEq ?_
    with_reducible refine TS.if ?_
    refine TB.value (by intros; rfl) ?_
    refine TE.mI0 (by intros; rfl) rfl rfl (by first | assumption | exact upd_self _ _ _) rfl rfl rfl rfl rfl ?_
    refine (sc_is_over (upd_self _ _ _) (by omega) hz).useEq ?_
    with_reducible refine Tru.bool ?_
    refine ⟨fun h => by simp at h; omega, fun _ => ?_⟩
    with_reducible refine TS.nil ?_
    refine TS.assign (by intros; rfl) rfl ?_
    refine TE.mI0 (by intros; rfl) rfl rfl (by first | assumption | exact upd_self _ _ _) rfl rfl rfl rfl rfl ?_
    refine (sc_peek (upd_self _ _ _) (by omega) hz).useEq ?_
    rw [pk_some ho]
    with_reducible refine TS.if ?_
    refine TB.cmpL rfl rfl rfl ?_
    refine TE.global (v := .str Le) rfl (fun _ _ => .str Le _) rfl ?_
    with_reducible refine TO.notInS ?_
    refine testB (fun _ => ?_) (fun h => by simp [hc] at h)
    refine TS.expr (by intros; rfl) (by intros; rfl) ?_
    refine TE.mI (by intros; rfl) rfl rfl rfl (by first | assumption | exact upd_self _ _ _) rfl rfl rfl rfl rfl ?_
    refine TEs.S1 rfl lit40 ?_
    exact (sc_fault (upd_self _ _ _) ⟨_, .refl, q⟩).to
end
end
section
variable {W : Wd Mine.hd.heap_39} {k : Nat} {σ : Store} {E : Int → Store → Prop}
noncomputable def manyD0 : List (Str × V) := [(Str.ofString "M", .int 2), (Str.ofString "L", .int 2), (Str.ofString "H", .int 1), (Str.ofString "V", .int 1), (Str.ofString "C", .int 6), (Str.ofString "S", .int 4), (Str.ofString "Q", .int 4), (Str.ofString "T", .int 2), (Str.ofString "A", .int 7), (Str.ofString "Z", .int 0)]
noncomputable def manyD : List (Str × V) := [(S [77], .int 2), (S [76], .int 2), (S [72], .int 1), (S [86], .int 1), (S [67], .int 6), (S [83], .int 4), (S [81], .int 4), (S [84], .int 2), (S [65], .int 7), (S [90], .int 0)]
theorem key_of {x : Str} {l : List Nat} (h : x.cps.toList = l) : x = S l := by
  cases x; subst h; simp [S]
theorem manyD_eq : manyD0 = manyD := by
  unfold manyD0 manyD
  rw [key_of lit20, key_of lit21, key_of lit22, key_of lit23, key_of lit24, key_of lit25, key_of lit26, key_of lit27, key_of lit28, key_of lit29]
noncomputable def behD0 : List (Str × V) := [(Str.ofString "M", .str (Str.ofString "L").cps.toList), (Str.ofString "m", .str (Str.ofString "l").cps.toList)]
noncomputable def behD : List (Str × V) := [(S [77], .str [76]), (S [109], .str [108])]
theorem behD_eq : behD0 = behD := by
  unfold behD0 behD
  rw [lit21, lit42, key_of lit20, key_of lit41]
theorem dInt {x : Str} {i : Int} {kk kk' : Nat} {p p' : Pos} {ks : List (Option PySem.Expr)} {vs : List PySem.Expr} {D : List (Str × V)} (h : dictOfC ks vs = some D) : dictOfC (some (.Constant (.str x) kk p) :: ks) (.Constant (.int i) kk' p' :: vs) = some ((x, .int i) :: D) := by
  unfold dictOfC; rw [h]; rfl
theorem Le_cases {P : Nat → Prop} (h : ∀ x ∈ Le, P x) {c : Nat} (hc : c ∈ Le) : P c := h c hc
theorem manyD_get {c : Nat} (hc : c ∈ Le) : getV manyD (S ([c].map up1)) = some (.int (manyF c)) := by
  refine Le_cases (P := fun c => getV manyD (S ([c].map up1)) = some (.int (manyF c))) ?_ hc
  unfold Le
  intro c h
  simp only [List.mem_cons, List.not_mem_nil, or_false] at h
  rcases h with rfl | rfl | rfl | rfl | rfl | rfl | rfl | rfl | rfl | rfl | rfl | rfl | rfl | rfl | rfl | rfl | rfl | rfl | rfl | rfl <;> rfl
theorem Le_small {c : Nat} (hc : c ∈ Le) : c < 128 := Le_cases (P := fun c => c < 128) (by decide) hc
theorem many_of_ok {c : Nat} (hc : c ∈ Le) : CO W (k+1) 256 [.str [c]] σ (fun v σ' => v = .int (manyF c) ∧ σ' = σ) E := by
  refine' CO.def (ns := ["letter"]) ?ho ?hcd ?hb ?hl ?hn ?hc ?h1 ?h2 ?h3 ?h
  case ho => exact rfl
  case hcd => exact rfl
  case hb => first | exact fun s vals X r => binds1 (fun a => BindsTo.of_eq rfl) r | exact fun s vals X r => binds1 (fun a => binds_K X rfl rfl rfl rfl rfl) r
  case hl => rfl
  case hn => decide
  case hc => rfl
  case h1 => rfl
  case h2 => rfl
  case h3 => rfl
  case h =>
    with_reducible refine TS.cons ?_
    with_reducible refine T1.ret ?_
    with_reducible refine' TE.dictItem (D := manyD) (x := [c].map up1) (v := .int (manyF c)) ?hD ?h0 ?hl ?nd ?hs ?hh ?hv ?q
    case hv => exact manyD_get hc
    case hD =>
      refine Eq.trans (b := some manyD0) ?_ (congrArg some manyD_eq)
      exact dInt (dInt (dInt (dInt (dInt (dInt (dInt (dInt (dInt (dInt rfl)))))))))
    case h0 => decide
    case hl => decide
    case nd => decide
    case hs => intros; rfl
    case hh => refine TEp.upper (by intros; rfl) (by intro d hd; simp at hd; rw [hd]; exact Le_small hc) (by rw [List.length_singleton]; omega) (TEp.local rfl rfl)
    case q => exact .here ⟨rfl, rfl⟩
theorem letter_behind_ok {c : Nat} : CO W (k+1) 263 [.str [c]] σ (fun v σ' => v = .str [behF c] ∧ σ' = σ) E := by
  refine' CO.def (ns := ["letter"]) ?ho ?hcd ?hb ?hl ?hn ?hc ?h1 ?h2 ?h3 ?h
  case ho => exact rfl
  case hcd => exact rfl
  case hb => first | exact fun s vals X r => binds1 (fun a => BindsTo.of_eq rfl) r | exact fun s vals X r => binds1 (fun a => binds_K X rfl rfl rfl rfl rfl) r
  case hl => rfl
  case hn => decide
  case hc => rfl
  case h1 => rfl
  case h2 => rfl
  case h3 => rfl
  case h =>
    with_reducible refine TS.cons ?_
    with_reducible refine T1.ret ?_
    refine' TE.dictGet (D := behD) (x := [c]) (o := .str [c]) ?hD ?h0 ?hl ?nd ?he ?hpl ?hh ?q
    case hD => exact (show _ = some behD0 from rfl).trans (congrArg some behD_eq)
    case h0 => decide
    case hl => decide
    case nd => decide
    case he => intros; rfl
    case hpl => rfl
    case hh => exact TEsp.cons (by rfl) (TEp.local rfl rfl) (TEsp.cons (by rfl) (TEp.local rfl rfl) TEsp.nil)
    case q =>
      refine .here ⟨?_, rfl⟩
      unfold behF behD
      by_cases h1 : c = 77
      · subst h1; rfl
      by_cases h2 : c = 109
      · subst h2; rfl
      rw [if_neg h1, if_neg h2]
      have e1 : S [c] ≠ S [77] := fun h => h1 (by simpa [S] using h)
      have e2 : S [c] ≠ S [109] := fun h => h2 (by simpa [S] using h)
      simp [getV, e1.symm, e2.symm]
end
section
variable {W : Wd Mine.hd.heap_39} {k : Nat} {σ : Store} {E : Int → Store → Prop}
theorem Grp.take_step {t : List Nat} {arc : Bool} {i r n n2 : Nat} {v : V} {vs : List V} (h : Grp t arc i r n (v :: vs) n2) : ∃ n1, Step t arc i n v n1 ∧ n1 ≤ t.length ∧ Grp t arc (i + 1) (r - 1) n1 vs n2 := by
  cases h with
  | cons a b c => exact ⟨_, a, b, c⟩
theorem arc_many {c : Nat} (hc : c ∈ Le) : manyF c ≤ 7 := Le_cases (P := fun c => manyF c ≤ 7) (by decide) hc
inductive Gr0 (σ : Store) (a f d : Nat) (t : List Nat) (gs : List V) (c n' i : Nat) (σ' : Store) : Prop
  | mk (done rest : List V) (n1 : Nat) : gs = done ++ rest → done.length = i → i + rest.length = manyF c → n1 ≤ t.length → Grp t (arcF c) i rest.length n1 rest n' → σ' = upd (upd σ f (.list done)) a (sc d t n1) → Gr0 σ a f d t gs c n' i σ'
inductive Gr1 (σ : Store) (a f d : Nat) (t : List Nat) (gs : List V) (c n' i : Nat) (m' : Loc) (σ' : Store) : Prop
  | mk : (m' = ([("scanner", .obj a), ("letter", .str [c]), ("found", .obj f)] : Loc) ∨ ∃ u, m' = ([("scanner", .obj a), ("letter", .str [c]), ("found", .obj f), ("place", u)] : Loc)) → Gr0 σ a f d t gs c n' i σ' → Gr1 σ a f d t gs c n' i m' σ'
inductive Gr2 (a f c i : Nat) (s : Store) (m' : Loc) (σ' : Store) : Prop
  | mk : m' = ([("scanner", .obj a), ("letter", .str [c]), ("found", .obj f), ("place", .int i)] : Loc) → σ' = s → Gr2 a f c i s m' σ'
theorem read_group_ok {a d n n' c : Nat} {t : List Nat} {gs : List V} (e : σ a = some (sc d t n)) (hc : c ∈ Le) (hn : n ≤ t.length) (hz : t.length ≤ 1000000) (hg : Grp t (arcF c) 0 (manyF c) n gs n') : CO W (k+6) 270 [.obj a, .str [c]] σ (fun v σ' => v = .tup gs ∧ σ' = upd σ a (sc d t n')) E := by
  refine' CO.def (ns := ["scanner", "letter"]) ?ho ?hcd ?hb ?hl ?hn ?hc ?h1 ?h2 ?h3 ?h
  case ho => exact rfl
  case hcd => exact rfl
  case hb => first | exact fun s vals X r => binds2 (fun a b => BindsTo.of_eq rfl) r | exact fun s vals X r => binds2 (fun a b => binds_K X rfl rfl rfl rfl rfl) r
  case hl => rfl
  case hn => decide
  case hc => rfl
  case h1 => rfl
  case h2 => rfl
  case h3 => rfl
  case h =>
    have e0 := e
    unfold sc at e
    have hm7 := arc_many hc
    refine TS.assign (by intros; rfl) rfl ?_
    refine TE.listC ?_
    with_reducible refine TEs.nil ?_
    refine ⟨by decide, fun f hf => ?_⟩
    have hfa : f ≠ a := by rintro rfl; rw [e] at hf; cases hf
    with_reducible refine TS.cons ?_
    refine T1.for rfl (by intros; rfl) ?_
    (refine' TE.callB ?zze ?zzv ?zzn ?zzx ?zzc rfl ?_ ?zzd; (case zze => rfl); (case zzv => boot_fast); (case zzn => decide); (case zzx => rfl); (case zzc => exact .type _); (case zzd => decide))
    refine TEs.cons' rfl ?_
    refine TE.callL1 rfl rfl rfl rfl rfl rfl ?_
    refine (many_of_ok hc).useEq ?_
    with_reducible refine TEs.nil ?_
    refine TO.range ?_
    refine ⟨_, Gr1 σ a f d t gs c n', .rng _ (by omega), ⟨.inl rfl, ⟨[], gs, n, rfl, rfl, ?_, hn, ?_, ?_⟩⟩, ?_, ?_⟩
    · have := hg.items.2; omega
    · rw [hg.items.2]; exact hg
    · rw [upd_comm _ _ _ hfa, upd_same _ e0]
    · rintro i v m' σ' hi ⟨hm, ⟨done, rest, n1, hgs, hdl, hil, hn1, hgr, rfl⟩⟩
      have hv : v = .int i := by
        rw [List.getElem?_map] at hi
        obtain ⟨j, hj, rfl⟩ := Option.map_eq_some_iff.mp hi
        rw [List.getElem?_range (by have := (List.getElem?_eq_some_iff.mp hj).1; simp at this; have := (List.getElem?_eq_some_iff.mp hj).2; simp at this; omega)] at hj
        cases hj; rfl
      subst hv
      have hlt : i < manyF c := by
        have := (List.getElem?_eq_some_iff.mp hi).1
        simpa using this
      cases rest with
      | nil => simp at hil; omega
      | cons v rest =>
      obtain ⟨n2, hs, hn2, hgr'⟩ := hgr.take_step
      refine TA.name rfl ?_
      have hm1 : setV m' "place" (.int i) = ([("scanner", .obj a), ("letter", .str [c]), ("found", .obj f), ("place", .int i)] : Loc) := by
        rcases hm with rfl | ⟨u, rfl⟩ <;> rfl
      rw [hm1]
      have hfin : Gr0 σ a f d t gs c n' (i + 1) (upd (upd (upd (upd σ f (.list done)) a (sc d t n2)) f (.list (done ++ [v]))) a (sc d t n2)) := by
        refine ⟨done ++ [v], rest, n2, by simp [hgs], by simp [hdl], by simp at hil; omega, hn2, hgr', ?_⟩
        rw [upd_comm _ _ _ (Ne.symm hfa), upd_upd, upd_upd]
      have hns : (upd (upd σ f (.list done)) a (sc d t n1)) f = some (.list done) := by rw [upd_ne _ _ hfa]; exact upd_self _ _ _
      refine TS.cons (T1.cut (Gr2 a f c i (upd (upd σ f (.list done)) a (sc d t (preF t i n1)))) ?_ ?_)
      · with_reducible refine T1.if ?_
        refine TB.cmpLI rfl rfl rfl ?_
        with_reducible refine TO.gtI ?_
        refine testB (fun h => ?_) (fun h => ?_)
        · refine TS.expr (by intros; rfl) (by intros; rfl) ?_
          refine TE.mI0 (by intros; rfl) rfl rfl (by first | assumption | exact upd_self _ _ _) rfl rfl rfl rfl rfl ?_
          refine (sc_separator (upd_self _ _ _) hn1 hz).useEq ?_
          with_reducible refine TS.nil ?_
          rw [upd_upd]
          unfold preF
          rw [if_pos (by simpa using h)]
          exact ⟨rfl, rfl⟩
        · with_reducible refine TS.nil ?_
          unfold preF
          rw [if_neg (by simpa using h)]
          exact ⟨rfl, rfl⟩
      rintro m' σ' ⟨rfl, rfl⟩
      have hpn : preF t i n1 ≤ t.length := preF_le hn1
      have hns' : (upd (upd σ f (.list done)) a (sc d t (preF t i n1))) f = some (.list done) := by rw [upd_ne _ _ hfa]; exact upd_self _ _ _
      have hns2 : (upd (upd σ f (.list done)) a (sc d t n2)) f = some (.list done) := by rw [upd_ne _ _ hfa]; exact upd_self _ _ _
      have hdz : done.length ≤ sizeLine := by simp [sizeLine_eq]; omega
      have hnum : flagAt (arcF c) i = false → ∀ E : Int → Store → Prop, CO W (k+5) 228 [.obj a] (upd (upd σ f (.list done)) a (sc d t (preF t i n1))) (fun u σ' => u = v ∧ σ' = upd (upd σ f (.list done)) a (sc d t n2)) E := fun hfl E => by
        cases hs with
        | flag b hb hf' _ => rw [hfl] at hf'; cases hf'
        | num _ hnn =>
          refine (sc_number (upd_self _ _ _) hpn hz hnn).mono ?_ (fun _ _ h => h)
          rintro u σ' ⟨rfl, rfl⟩
          exact ⟨rfl, by rw [upd_upd]⟩
      have hflag : flagAt (arcF c) i = true → ∀ E : Int → Store → Prop, CO W (k+5) 235 [.obj a] (upd (upd σ f (.list done)) a (sc d t (preF t i n1))) (fun u σ' => u = v ∧ σ' = upd (upd σ f (.list done)) a (sc d t n2)) E := fun hfl E => by
        cases hs with
        | num hf' _ => rw [hfl] at hf'; cases hf'
        | flag b hb _ hp =>
          refine (sc_flag (upd_self _ _ _) hpn hz hb hp).mono ?_ (fun _ _ h => h)
          rintro u σ' ⟨rfl, rfl⟩
          exact ⟨rfl, by rw [upd_upd]⟩
      refine TS.cons (T1.cut (Gr2 a f c i (upd (upd (upd σ f (.list done)) a (sc d t n2)) f (.list (done ++ [v])))) ?_ ?_)
      · with_reducible refine T1.if ?_
        with_reducible refine TB.boolop ?_
        with_reducible refine TAll.andCons ?_
        refine TB.cmpLS rfl rfl rfl lit43 ?_
        with_reducible refine TO.inS ?_
        refine testB (fun h => ?_) (fun h => ?_)
        · have ha : arcF c = true := h
          with_reducible refine TAll.andCons ?_
          refine TB.cmpL rfl rfl rfl ?_
          with_reducible refine TE.tuple ?_
          refine TEs.I rfl ?_
          refine TEs.I1 rfl ?_
          refine ⟨by simp [sizeLine_eq], TO.inInts rfl ?_⟩
          have hin : ([.int 3, .int 4] : List V).any (intIs i) = (decide (i = 3) || decide (i = 4)) := by
            have h1 : ((3 : Int) == (i : Int)) = decide (i = 3) := by rw [Bool.eq_iff_iff]; simp; omega
            have h2 : ((4 : Int) == (i : Int)) = decide (i = 4) := by rw [Bool.eq_iff_iff]; simp; omega
            show ((3 : Int) == (i : Int) || ((4 : Int) == (i : Int) || false)) = _
            rw [h1, h2, Bool.or_false]
          rw [hin]
          refine testB (fun h => ?_) (fun h => ?_)
          · have hf2 : flagAt (arcF c) i = true := by unfold flagAt; rw [ha, h]; rfl
            with_reducible refine TAll.andNil ?_
            refine ⟨fun _ => ?_, fun h => by simp at h⟩
            refine TS.expr (by intros; rfl) (by intros; rfl) ?_
            refine TE.method (by intros; rfl) rfl ?_
            refine TE.local rfl rfl ?_
            refine ⟨_, GM.append hns', ?_⟩
            refine TEs.cons' rfl ?_
            refine TE.mI0 (by intros; rfl) rfl rfl (by first | assumption | exact upd_self _ _ _) rfl rfl rfl rfl rfl ?_
            refine (hflag hf2 _).useEq ?_
            with_reducible refine TEs.nil ?_
            refine TO.append hns2 hdz ?_
            with_reducible refine TS.nil ?_
            exact ⟨rfl, rfl⟩
          · have hf2 : flagAt (arcF c) i = false := by unfold flagAt; rw [ha, h]; rfl
            refine ⟨fun h => by simp at h, fun _ => ?_⟩
            refine TS.expr (by intros; rfl) (by intros; rfl) ?_
            refine TE.method (by intros; rfl) rfl ?_
            refine TE.local rfl rfl ?_
            refine ⟨_, GM.append hns', ?_⟩
            refine TEs.cons' rfl ?_
            refine TE.mI0 (by intros; rfl) rfl rfl (by first | assumption | exact upd_self _ _ _) rfl rfl rfl rfl rfl ?_
            refine (hnum hf2 _).useEq ?_
            with_reducible refine TEs.nil ?_
            refine TO.append hns2 hdz ?_
            with_reducible refine TS.nil ?_
            exact ⟨rfl, rfl⟩
        · have ha : arcF c = false := h
          have hf2 : flagAt (arcF c) i = false := by unfold flagAt; rw [ha]; rfl
          refine ⟨fun h => by simp at h, fun _ => ?_⟩
          refine TS.expr (by intros; rfl) (by intros; rfl) ?_
          refine TE.method (by intros; rfl) rfl ?_
          refine TE.local rfl rfl ?_
          refine ⟨_, GM.append hns', ?_⟩
          refine TEs.cons' rfl ?_
          refine TE.mI0 (by intros; rfl) rfl rfl (by first | assumption | exact upd_self _ _ _) rfl rfl rfl rfl rfl ?_
          refine (hnum hf2 _).useEq ?_
          with_reducible refine TEs.nil ?_
          refine TO.append hns2 hdz ?_
          with_reducible refine TS.nil ?_
          exact ⟨rfl, rfl⟩
      · rintro m' σ' ⟨rfl, rfl⟩
        obtain ⟨done', rest', n1', h1, h2, h3, h4, h5, h6⟩ := hfin
        with_reducible refine TS.nil ?_
        refine ⟨.inr ⟨_, rfl⟩, done', rest', n1', h1, h2, h3, h4, h5, ?_⟩
        rw [← h6, upd_comm (upd σ f (.list done)) (sc d t n2) (.list (done ++ [v])) (Ne.symm hfa), upd_upd, upd_upd]
    · rintro m' σ' ⟨hm, ⟨done, rest, n1, hgs, hdl, hil, hn1, hgr, rfl⟩⟩
      rw [List.length_map, List.length_range] at hdl hil
      cases rest with
      | cons v rest => simp at hil
      | nil =>
      rw [List.append_nil] at hgs
      subst hgs
      cases hgr
      have g1 : getV m' "found" = some (.obj f) := by rcases hm with rfl | ⟨u, rfl⟩ <;> rfl
      with_reducible refine TS.ret ?_
      (refine' TE.callB ?zze ?zzv ?zzn ?zzx ?zzc rfl ?_ ?zzd; (case zze => rfl); (case zzv => boot_fast); (case zzn => decide); (case zzx => rfl); (case zzc => exact .type _); (case zzd => decide))
      refine TEs.cons' rfl ?_
      refine TE.local g1 rfl ?_
      with_reducible refine TEs.nil ?_
      refine TO.tupOfCell (by rw [upd_ne _ _ hfa]; exact upd_self _ _ _) (by simp [sizeLine_eq]; omega) ?_
      rw [upd_comm _ _ _ hfa]
      exact .fresh (by rw [upd_ne _ _ hfa]; exact hf) ⟨rfl, rfl⟩
end
section
variable {W : Wd Mine.hd.heap_39} {k : Nat} {σ : Store} {E : Int → Store → Prop}
theorem goes_on_ok {a d n : Nat} {t : List Nat} (e : σ a = some (sc d t n)) (hn : n ≤ t.length) (hz : t.length ≤ 1000000) (hok : looksF t (sepF t n).2 = true ∨ (sepF t n).1 = false) : CO W (k+4) 277 [.obj a] σ (fun v σ' => v = .bool (looksF t (sepF t n).2) ∧ σ' = upd σ a (sc d t (sepF t n).2)) E := by
  refine' CO.def (ns := ["scanner"]) ?ho ?hcd ?hb ?hl ?hn ?hc ?h1 ?h2 ?h3 ?h
  case ho => exact rfl
  case hcd => exact rfl
  case hb => first | exact fun s vals X r => binds1 (fun a => BindsTo.of_eq rfl) r | exact fun s vals X r => binds1 (fun a => binds_K X rfl rfl rfl rfl rfl) r
  case hl => rfl
  case hn => decide
  case hc => rfl
  case h1 => rfl
  case h2 => rfl
  case h3 => rfl
  case h =>
    have hsn := sepF_le hn
    refine TS.assign (by intros; rfl) rfl ?_
    refine TE.mI0 (by intros; rfl) rfl rfl (by first | assumption | exact upd_self _ _ _) rfl rfl rfl rfl rfl ?_
    refine (sc_separator e hn hz).useEq ?_
    with_reducible refine TS.if ?_
    refine TB.value (by intros; rfl) ?_
    refine TE.mI0 (by intros; rfl) rfl rfl (by first | assumption | exact upd_self _ _ _) rfl rfl rfl rfl rfl ?_
    refine (sc_looks (upd_self _ _ _) hsn hz).useEq ?_
    with_reducible refine Tru.bool ?_
    refine ⟨fun h => ?_, fun h => ?_⟩
    · with_reducible refine TS.ret ?_
      with_reducible refine TE.bool ?_
      rw [h]
      exact .here ⟨rfl, rfl⟩
    · have h2 : (sepF t n).1 = false := by rcases hok with h' | h'; rw [h] at h'; cases h'; exact h'
      rw [h, h2]
      with_reducible refine TS.nil ?_
      with_reducible refine TS.if ?_
      refine TB.value (by intros; rfl) ?_
      refine TE.local rfl rfl ?_
      with_reducible refine Tru.bool ?_
      refine ⟨fun h => by simp at h, fun _ => ?_⟩
      with_reducible refine TS.nil ?_
      with_reducible refine TS.ret ?_
      with_reducible refine TE.bool ?_
      exact .here ⟨rfl, rfl⟩
theorem goes_on_bad {a d n : Nat} {t : List Nat} {Q : V → Store → Prop} (e : σ a = some (sc d t n)) (hn : n ≤ t.length) (hz : t.length ≤ 1000000) (h1 : looksF t (sepF t n).2 = false) (h2 : (sepF t n).1 = true) (q : E ((sepF t n).2 : Nat) (upd σ a (sc d t (sepF t n).2))) : CO W (k+4) 277 [.obj a] σ Q E := by
  refine' CO.def (ns := ["scanner"]) ?ho ?hcd ?hb ?hl ?hn ?hc ?h1 ?h2 ?h3 ?h
  case ho => exact rfl
  case hcd => exact rfl
  case hb => first | exact fun s vals X r => binds1 (fun a => BindsTo.of_eq rfl) r | exact fun s vals X r => binds1 (fun a => binds_K X rfl rfl rfl rfl rfl) r
  case hl => rfl
  case hn => decide
  case hc => rfl
  case h1 => rfl
  case h2 => rfl
  case h3 => rfl
  case h =>
    have hsn := sepF_le hn
    refine TS.assign (by intros; rfl) rfl ?_
    refine TE.mI0 (by intros; rfl) rfl rfl (by first | assumption | exact upd_self _ _ _) rfl rfl rfl rfl rfl ?_
    refine (sc_separator e hn hz).useEq ?_
    with_reducible refine TS.if ?_
    refine TB.value (by intros; rfl) ?_
    refine TE.mI0 (by intros; rfl) rfl rfl (by first | assumption | exact upd_self _ _ _) rfl rfl rfl rfl rfl ?_
    refine (sc_looks (upd_self _ _ _) hsn hz).useEq ?_
    with_reducible refine Tru.bool ?_
    refine ⟨fun h => absurd h (by rw [h1]; decide), fun h => ?_⟩
    rw [h2]
    with_reducible refine TS.nil ?_
    with_reducible refine TS.if ?_
    refine TB.value (by intros; rfl) ?_
    refine TE.local rfl rfl ?_
    with_reducible refine Tru.bool ?_
    refine ⟨fun _ => ?_, fun h => by simp at h⟩
    refine TS.expr (by intros; rfl) (by intros; rfl) ?_
    refine TE.mI (by intros; rfl) rfl rfl rfl (by first | assumption | exact upd_self _ _ _) rfl rfl rfl rfl rfl ?_
    refine TEs.S1 rfl rfl ?_
    exact (sc_fault (upd_self _ _ _) ⟨_, .refl, q⟩).to
end
section
variable {W : Wd Mine.hd.heap_39} {k : Nat} {σ : Store} {E : Int → Store → Prop}
theorem sc_command_run {a d n : Nat} {t : List Nat} {fst : Bool} {vs : List V} {o : Option Nat} {Q : V → Store → Prop} (e : σ a = some (sc d t n)) (hz : t.length ≤ 1000000) (hr : RunA t fst n vs o)
    (h1 : vs = [] → o = none → Q .none (upd σ a (sc d t t.length)))
    (h2 : ∀ c n', n' ≤ t.length → c ∈ Le → RunL t fst c n' vs o → Q (.str [c]) (upd σ a (sc d t n')))
    (h3 : ∀ p, vs = [] → o = some p → E p (upd σ a (sc d t p))) : CO W (k+5) 242 [.obj a] σ Q E := by
  cases hr with
  | fin hn ho =>
    refine (sc_command_over e hn hz ho).mono ?_ (fun _ _ h => h)
    rintro v σ' ⟨rfl, rfl⟩
    exact h1 rfl rfl
  | bad hn ho hc => exact sc_command_bad e hn hz ho hc (h3 _ rfl rfl)
  | go hn ho hc hl =>
    refine (sc_command e hn hz ho hc).mono ?_ (fun _ _ h => h)
    rintro v σ' ⟨rfl, rfl⟩
    exact h2 _ _ (List.getElem?_eq_some_iff.mp ho).1 hc hl
theorem Grp.cmd {t : List Nat} {i n n' c r : Nat} {arc : Bool} {gs : List V} (hc : c ∈ Le) (hg : Grp t arc i r n gs n') : isCmd (cmdV c gs) = true := by
  show (decide (c < 128) && gs.all isItem) = true
  rw [hg.items.1, decide_eq_true (Le_small hc)]; rfl
theorem beh_Le {c : Nat} (hc : c ∈ Le) : behF c ∈ Le := Le_cases (P := fun c => behF c ∈ Le) (by decide) hc
theorem empty_eq {done : List V} (h : done.all isCmd = true) : ∃ ds, V.datas done = some ds ∧ PyData.canLayAll0 ds = true ∧ PyData.eqv (.list ds) (.list []) = decide (done = []) := by
  obtain ⟨ds, h1, h2, h3, h4⟩ := cmds_data h
  refine ⟨ds, h1, h2, ?_⟩
  cases done with
  | nil => rw [h4.mpr rfl]; rfl
  | cons v vs =>
    cases ds with
    | nil => exact absurd (h4.mp rfl) (by simp)
    | cons x xs => rfl
noncomputable def rs (σ : Store) (a f d : Nat) (t : List Nat) (n : Nat) (done : List V) : Store := upd (upd σ a (sc d t n)) f (.list done)
theorem rs_a {a f d n : Nat} {t : List Nat} {done : List V} (h : f ≠ a) : rs σ a f d t n done a = some (sc d t n) := by unfold rs; rw [upd_ne _ _ (Ne.symm h)]; exact upd_self _ _ _
theorem rs_f {a f d n : Nat} {t : List Nat} {done : List V} : rs σ a f d t n done f = some (.list done) := upd_self _ _ _
theorem rs_ua {a f d n n' : Nat} {t : List Nat} {done : List V} (h : f ≠ a) : upd (rs σ a f d t n done) a (sc d t n') = rs σ a f d t n' done := by
  unfold rs; rw [upd_comm _ _ _ h, upd_upd]
theorem rs_uf {a f d n : Nat} {t : List Nat} {done done' : List V} : upd (rs σ a f d t n done) f (.list done') = rs σ a f d t n done' := by unfold rs; rw [upd_upd]
end
section
variable {W : Wd Mine.hd.heap_39} {k : Nat} {σ : Store} {E : Int → Store → Prop}
noncomputable def LetP (t : List Nat) (vs : List V) (o : Option Nat) (fst : Bool) (n : Nat) (L : V) : Prop := L = .none ∧ vs = [] ∧ o = none ∨ ∃ c, L = .str [c] ∧ c ∈ Le ∧ RunL t fst c n vs o
inductive Ri1 (σ : Store) (a f d : Nat) (t : List Nat) (vs : List V) (o : Option Nat) (m' : Loc) (σ' : Store) : Prop
  | mk (L : V) (n1 : Nat) : m' = ([("scanner", .obj a), ("found", .obj f), ("letter", L)] : Loc) → σ' = rs σ a f d t n1 [] → n1 ≤ t.length → LetP t vs o true n1 L → Ri1 σ a f d t vs o m' σ'
inductive Ri2 (σ : Store) (a f d : Nat) (t : List Nat) (vs : List V) (o : Option Nat) (μ : Nat) (m' : Loc) (σ' : Store) : Prop
  | mk (L : V) (n1 : Nat) (done rest : List V) : m' = ([("scanner", .obj a), ("found", .obj f), ("letter", L)] : Loc) → σ' = rs σ a f d t n1 done → n1 ≤ t.length → vs = done ++ rest → μ = rest.length → done.all isCmd = true → LetP t rest o (decide (done = [])) n1 L → Ri2 σ a f d t vs o μ m' σ'
inductive Ri3 (σ : Store) (a f d : Nat) (t : List Nat) (vs : List V) (o : Option Nat) (μ : Nat) (m' : Loc) (σ' : Store) : Prop
  | mk (L : V) (n1 : Nat) (done rest : List V) : m' = ([("scanner", .obj a), ("found", .obj f), ("letter", L)] : Loc) → σ' = rs σ a f d t n1 done → n1 ≤ t.length → vs = done ++ rest → rest.length < μ → done.all isCmd = true → done ≠ [] → RunA t false n1 rest o → Ri3 σ a f d t vs o μ m' σ'
inductive Ri4 (σ : Store) (a f d : Nat) (t : List Nat) (vs : List V) (o : Option Nat) (l top μ : Nat) (m' : Loc) (σ' : Store) : Prop
  | mk (n1 : Nat) (done rest : List V) : m' = ([("scanner", .obj a), ("found", .obj f), ("letter", .str [l])] : Loc) → σ' = rs σ a f d t n1 done → n1 ≤ t.length → vs = done ++ rest → μ = rest.length → rest.length ≤ top → done.all isCmd = true → done ≠ [] → RunB t l n1 rest o → Ri4 σ a f d t vs o l top μ m' σ'
inductive Ri5 (σ : Store) (a f d : Nat) (t : List Nat) (done vs : List V) (o : Option Nat) (fst : Bool) (v : V) (σ' : Store) : Prop
  | mk (n1 : Nat) : σ' = rs σ a f d t n1 done → n1 ≤ t.length → LetP t vs o fst n1 v → Ri5 σ a f d t done vs o fst v σ'
inductive Ri6 (σ : Store) (a f d : Nat) (t : List Nat) (n : Nat) (done : List V) (c : Nat) (m' : Loc) (σ' : Store) : Prop
  | mk : m' = ([("scanner", .obj a), ("found", .obj f), ("letter", .str [c])] : Loc) → σ' = rs σ a f d t n done → (done = [] → c ∈ [77, 109]) → Ri6 σ a f d t n done c m' σ'
theorem read_into_ok {a f d n : Nat} {t : List Nat} {vs : List V} {o : Option Nat} {Q : V → Store → Prop} (e : σ a = some (sc d t n)) (ef : σ f = some (.list [])) (hfa : f ≠ a) (hz : t.length ≤ 1000000) (hvs : vs.length ≤ 1000) (hr : RunA t true n vs o)
    (q1 : ∀ n', o = none → Q .none (rs σ a f d t n' vs)) (q2 : ∀ p n', o = some p → E p (rs σ a f d t n' vs)) : CO W (k+7) 284 [.obj a, .obj f] σ Q E := by
  refine' CO.def (ns := ["scanner", "found"]) ?ho ?hcd ?hb ?hl ?hn ?hc ?h1 ?h2 ?h3 ?h
  case ho => exact rfl
  case hcd => exact rfl
  case hb => first | exact fun s vals X r => binds2 (fun a b => BindsTo.of_eq rfl) r | exact fun s vals X r => binds2 (fun a b => binds_K X rfl rfl rfl rfl rfl) r
  case hl => rfl
  case hn => decide
  case hc => rfl
  case h1 => rfl
  case h2 => rfl
  case h3 => rfl
  case h =>
    have hσ : σ = rs σ a f d t n [] := by unfold rs; rw [upd_same _ e, upd_same _ ef]
    rw [hσ]
    have hst : ∀ {n : Nat} {done : List V}, (rs σ a f d t n done) a = some (sc d t n) := fun {n done} => rs_a hfa
    refine TS.cons (T1.cut (Ri1 σ a f d t vs o) ?_ ?_)
    · refine T1.assign (by intros; rfl) rfl ?_
      refine TE.method (by intros; rfl) rfl ?_
      refine TE.local rfl rfl ?_
      refine ⟨_, GM.inst hst rfl rfl rfl rfl rfl, ?_⟩
      with_reducible refine TEs.nil ?_
      refine (sc_command_run (Q := Ri5 σ a f d t [] vs o true) hst hz hr ?_ ?_ ?_).use ?_ (fun _ _ h => h)
      · rintro rfl rfl
        exact ⟨_, rs_ua hfa, Nat.le_refl _, .inl ⟨rfl, rfl, rfl⟩⟩
      · intro c n' hn' hc hl
        exact ⟨_, rs_ua hfa, hn', .inr ⟨c, rfl, hc, hl⟩⟩
      · rintro p rfl rfl
        rw [rs_ua hfa]
        exact ⟨_, .refl, q2 _ _ rfl⟩
      rintro v σ' ⟨n1, rfl, hn1, h⟩
      exact ⟨v, n1, rfl, rfl, hn1, h⟩
    rintro m' σ' ⟨L, n1, rfl, rfl, hn1, hL⟩
    refine TS.cons (T1.while vs.length (Ri2 σ a f d t vs o) ⟨L, n1, [], vs, rfl, rfl, hn1, rfl, rfl, rfl, by simpa using hL⟩ ?_)
    clear hL hn1
    rintro μ m' σ' ⟨L, n1, done, rest, rfl, rfl, hn1, hdr, rfl, hdc, hL⟩
    refine TB.cmpL rfl rfl rfl ?_
    with_reducible refine TE.none ?_
    with_reducible refine TO.isNotNone ?_
    have hfd : (rs σ a f d t n1 done) f = some (.list done) := rs_f
    rcases hL with ⟨rfl, rfl, rfl⟩ | ⟨c, rfl, hc, hl⟩
    · refine testB (fun h => (nomatch (show false = true from h))) (fun _ => ?_)
      rw [List.append_nil] at hdr
      subst hdr
      with_reducible refine TS.nil ?_
      exact .here (q1 _ rfl)
    refine testB (fun _ => ?_) (fun h => (nomatch (show true = false from h)))
    obtain ⟨ds, hd1, hd2, hd3⟩ := empty_eq hdc
    refine TS.cons (T1.cut (Ri6 σ a f d t n1 done c) ?_ ?_)
    · with_reducible refine T1.if ?_
      with_reducible refine TB.boolop ?_
      with_reducible refine TAll.andCons ?_
      refine TB.cmpL rfl rfl rfl ?_
      refine TE.listF ?_
      with_reducible refine TEs.nil ?_
      refine ⟨by simp [sizeLine_eq], TO.eqD (da := .list ds) (db := .list []) ?_ rfl ?_ rfl ?_ hd3 ?_⟩
      · show (match (rs σ a f d t n1 done) f with | some (.list vs) => (V.datas vs).map PyData.list | _ => Option.none) = _
        rw [hfd]; show (V.datas done).map PyData.list = _
        rw [hd1]; rfl
      · exact hd2
      · have : min (PyData.list ds).depth (PyData.list []).depth ≤ 1 := Nat.le_trans (Nat.min_le_right _ _) (by decide)
        omega
      refine testB (fun h => ?_) (fun h => ?_)
      · have hd0 : done = [] := by simpa using h
        with_reducible refine TAll.andCons ?_
        refine TB.cmpLS rfl rfl rfl lit44 ?_
        with_reducible refine TO.notInS ?_
        refine testB (fun h => ?_) (fun h => ?_)
        · have hcM : c ∉ [77, 109] := by simpa using h
          with_reducible refine TAll.andNil ?_
          refine ⟨fun _ => ?_, fun h => by simp at h⟩
          refine TS.assignAttr (by intros; rfl) ?_
          with_reducible refine TE.binop ?_
          refine TE.attrL (by intros; rfl) (by intros; rfl) rfl rfl ?_
          refine TO.getInst hst rfl rfl rfl rfl rfl ?_
          with_reducible refine TE.int ?_
          with_reducible refine TO.sub ?_
          refine TE.local rfl rfl ?_
          refine setTo (C := 245) (hst) rfl rfl rfl rfl (by simp) ?_
          refine TS.expr (by intros; rfl) (by intros; rfl) ?_
          refine TE.mI (by intros; rfl) rfl rfl rfl (by first | assumption | exact upd_self _ _ _) rfl rfl rfl rfl rfl ?_
          refine TEs.S1 rfl lit45 ?_
          have hl' : RunL t true c n1 rest o := by rw [decide_eq_true hd0] at hl; exact hl
          obtain ⟨n0, rfl, rfl, rfl⟩ : ∃ n0, n1 = n0 + 1 ∧ rest = [] ∧ o = some n0 := by
            cases hl' with
            | cmd hm _ _ _ => exact absurd (hm rfl) hcM
            | nomove _ => exact ⟨_, rfl, rfl, rfl⟩
          have hs : upd (rs σ a f d t (n0 + 1) done) a (Cell.inst 245 d (setV [("text", .str t), ("at", .int ((n0 + 1 : Nat) : Int))] "at" (.int (((n0 + 1 : Nat) : Int) - 1)))) = rs σ a f d t n0 vs := by
            have h1 : ((n0 + 1 : Nat) : Int) - 1 = (n0 : Int) := by omega
            rw [h1, hdr, List.append_nil]
            exact rs_ua hfa
          rw [hs]
          exact (sc_fault (rs_a hfa) ⟨_, .refl, q2 _ _ rfl⟩).to
        · have hcM : c ∈ [77, 109] := by
            have : decide (c ∈ [77, 109]) = true := by cases hq : decide (c ∈ [77, 109]) with
              | true => rfl
              | false => rw [hq] at h; cases h
            exact of_decide_eq_true this
          refine ⟨fun h => by simp at h, fun _ => ?_⟩
          with_reducible refine TS.nil ?_
          exact ⟨rfl, rfl, fun _ => hcM⟩
      · have hd0 : done ≠ [] := by simpa using h
        refine ⟨fun h => by simp at h, fun _ => ?_⟩
        with_reducible refine TS.nil ?_
        exact ⟨rfl, rfl, fun h => absurd h hd0⟩
    rintro m' σ' ⟨rfl, rfl, hmv⟩
    refine TS.cons (T1.cut (Ri3 σ a f d t vs o rest.length) ?_ ?_)
    · have hdz : done.length ≤ sizeLine := by
        have : vs.length = done.length + rest.length := by rw [hdr, List.length_append]
        simp only [sizeLine_eq]; omega
      with_reducible refine T1.if ?_
      refine TB.cmpLS rfl rfl rfl lit31 ?_
      with_reducible refine TO.inS ?_
      refine testB (fun h => ?_) (fun h => ?_)
      · have hcz : c ∈ [90, 122] := by simpa using h
        generalize hF : decide (done = []) = F at hl
        obtain ⟨rest', rfl, hra⟩ : ∃ rest', rest = cmdV c [] :: rest' ∧ RunA t false n1 rest' o := by
          cases hl with
          | nomove h0 => exact absurd (hmv (of_decide_eq_true hF)) h0
          | z _ hra => exact ⟨_, rfl, hra⟩
          | cmd _ h0 _ _ => exact absurd hcz h0
        refine TS.expr (by intros; rfl) (by intros; rfl) ?_
        refine TE.method (by intros; rfl) rfl ?_
        refine TE.local rfl rfl ?_
        refine ⟨_, GM.append hfd, ?_⟩
        refine TEs.cons' rfl ?_
        with_reducible refine TE.tuple ?_
        refine TEs.L rfl rfl rfl ?_
        refine TEs.cons' rfl ?_
        with_reducible refine TE.tuple ?_
        with_reducible refine TEs.nil ?_
        refine ⟨by simp [sizeLine_eq], ?_⟩
        with_reducible refine TEs.nil ?_
        refine ⟨by simp [sizeLine_eq], ?_⟩
        with_reducible refine TEs.nil ?_
        refine TO.append hfd hdz ?_
        with_reducible refine TS.nil ?_
        rw [rs_uf]
        refine ⟨_, _, _, rest', rfl, rfl, hn1, by rw [hdr]; simp [cmdV], by simp, ?_, by simp, hra⟩
        rw [List.all_append, hdc]
        show (true && (isCmd (cmdV c []) && true)) = true
        rw [Grp.cmd hc (Grp.nil (t := t) (arc := true) (i := 0) (n := 0))]; rfl
      · have hcz : c ∉ [90, 122] := by
          have : decide (c ∈ [90, 122]) = false := h
          simpa using this
        generalize hF : decide (done = []) = F at hl
        obtain ⟨gs, n2, rest', rfl, hg, hb⟩ : ∃ gs n2 rest', rest = cmdV c gs :: rest' ∧ Grp t (arcF c) 0 (manyF c) (n1 + (tws Bl t n1).length) gs n2 ∧ RunB t (behF c) n2 rest' o := by
          cases hl with
          | nomove h0 => exact absurd (hmv (of_decide_eq_true hF)) h0
          | z h0 _ => exact absurd h0 hcz
          | cmd _ _ hg hb => exact ⟨_, _, _, rfl, hg, hb⟩
        have hsp := tws_place Bl t n1 hn1
        have hn2 : n2 ≤ t.length := hg.le hsp
        refine TS.expr (by intros; rfl) (by intros; rfl) ?_
        refine TE.method (by intros; rfl) rfl ?_
        refine TE.local rfl rfl ?_
        refine ⟨_, GM.inst hst rfl rfl rfl rfl rfl, ?_⟩
        with_reducible refine TEs.nil ?_
        refine (sc_spaces hst hn1 hz).useEq ?_
        rw [rs_ua hfa]
        refine TS.expr (by intros; rfl) (by intros; rfl) ?_
        refine TE.method (by intros; rfl) rfl ?_
        refine TE.local rfl rfl ?_
        refine ⟨_, GM.append rs_f, ?_⟩
        refine TEs.cons' rfl ?_
        with_reducible refine TE.tuple ?_
        refine TEs.L rfl rfl rfl ?_
        refine TEs.cons' rfl ?_
        refine TE.callL rfl rfl rfl rfl rfl rfl ?_
        refine TEs.L1 rfl rfl rfl ?_
        refine (read_group_ok hst hc hsp hz hg).useEq ?_
        rw [rs_ua hfa]
        with_reducible refine TEs.nil ?_
        refine ⟨by simp [sizeLine_eq], ?_⟩
        with_reducible refine TEs.nil ?_
        refine TO.append rs_f hdz ?_
        refine TS.assign (by intros; rfl) rfl ?_
        refine TE.callL1 rfl rfl rfl rfl rfl rfl ?_
        rw [rs_uf]
        refine letter_behind_ok.useEq ?_
        have hcb := beh_Le hc
        have hc1 : (done ++ [cmdV c gs]).all isCmd = true := by
          rw [List.all_append, hdc]
          show (true && (isCmd (cmdV c gs) && true)) = true
          rw [Grp.cmd hc hg]; rfl
        with_reducible refine TS.cons ?_
        refine T1.while rest'.length (Ri4 σ a f d t vs o (behF c) rest'.length) ⟨n2, done ++ [cmdV c gs], rest', rfl, rfl, hn2, by rw [hdr]; simp, rfl, Nat.le_refl _, hc1, by simp, hb⟩ ?_
        clear hb hc1 hg
        rintro μ m' σ' ⟨n3, done', rest2, rfl, rfl, hn3, hdr', rfl, hle, hdc', hd0, hb⟩
        have hdz' : done'.length ≤ sizeLine := by
          have : vs.length = done'.length + rest2.length := by rw [hdr', List.length_append]
          simp only [sizeLine_eq]; omega
        refine TB.value (by intros; rfl) ?_
        refine TE.callL1 rfl rfl rfl rfl rfl rfl ?_
        cases hb with
        | more hx3 hlk hg hb =>
          rename_i n4 gs' rest3
          have hsep := sepF_le hn3
          have hn4 : n4 ≤ t.length := hg.le hsep
          refine (goes_on_ok hst hn3 hz (.inl hlk)).useEq ?_
          rw [rs_ua hfa, hlk]
          with_reducible refine Tru.bool ?_
          refine ⟨fun _ => ?_, fun h => (nomatch h)⟩
          refine TS.expr (by intros; rfl) (by intros; rfl) ?_
          refine TE.method (by intros; rfl) rfl ?_
          refine TE.local rfl rfl ?_
          refine ⟨_, GM.append rs_f, ?_⟩
          refine TEs.cons' rfl ?_
          with_reducible refine TE.tuple ?_
          refine TEs.L rfl rfl rfl ?_
          refine TEs.cons' rfl ?_
          refine TE.callL rfl rfl rfl rfl rfl rfl ?_
          refine TEs.L1 rfl rfl rfl ?_
          refine (read_group_ok hst hcb hsep hz hg).useEq ?_
          rw [rs_ua hfa]
          with_reducible refine TEs.nil ?_
          refine ⟨by simp [sizeLine_eq], ?_⟩
          with_reducible refine TEs.nil ?_
          refine TO.append rs_f hdz' ?_
          with_reducible refine TS.nil ?_
          rw [rs_uf]
          refine ⟨rest3.length, by simp, n4, done' ++ [cmdV (behF c) gs'], rest3, rfl, rfl, hn4, by rw [hdr']; simp, rfl, by simp at hle; omega, ?_, by simp, hb⟩
          rw [List.all_append, hdc']
          show (true && (isCmd (cmdV (behF c) gs') && true)) = true
          rw [Grp.cmd hcb hg]; rfl
        | stop _ hlk hcm hra =>
          have hsep := sepF_le hn3
          refine (goes_on_ok hst hn3 hz (.inr hcm)).useEq ?_
          rw [rs_ua hfa, hlk]
          with_reducible refine Tru.bool ?_
          refine ⟨fun h => (nomatch h), fun _ => ?_⟩
          with_reducible refine TS.nil ?_
          exact ⟨_, _, done', rest2, rfl, rfl, hsep, hdr', by simp; omega, hdc', hd0, hra⟩
        | comma _ hlk hcm =>
          refine (goes_on_bad hst hn3 hz hlk hcm ?_).to
          rw [rs_ua hfa]
          rw [List.append_nil] at hdr'
          rw [← hdr']
          exact ⟨_, .refl, q2 _ _ rfl⟩
    rintro m' σ' ⟨L, n2, done', rest', rfl, rfl, hn2, hdr', hlt, hdc', hd0, hra⟩
    refine TS.assign (by intros; rfl) rfl ?_
    refine TE.method (by intros; rfl) rfl ?_
    refine TE.local rfl rfl ?_
    refine ⟨_, GM.inst hst rfl rfl rfl rfl rfl, ?_⟩
    with_reducible refine TEs.nil ?_
    refine (sc_command_run (Q := Ri5 σ a f d t done' rest' o false) hst hz hra ?_ ?_ ?_).use ?_ (fun _ _ h => h)
    · rintro rfl rfl
      exact ⟨_, rs_ua hfa, Nat.le_refl _, .inl ⟨rfl, rfl, rfl⟩⟩
    · intro c n' hn' hc hl
      exact ⟨_, rs_ua hfa, hn', .inr ⟨c, rfl, hc, hl⟩⟩
    · rintro p rfl rfl
      rw [rs_ua hfa]
      rw [List.append_nil] at hdr'
      rw [← hdr']
      exact ⟨_, .refl, q2 _ _ rfl⟩
    rintro v σ' ⟨n3, rfl, hn3, h⟩
    with_reducible refine TS.nil ?_
    refine ⟨rest'.length, hlt, v, n3, done', rest', rfl, rfl, hn3, hdr', rfl, hdc', ?_⟩
    rw [decide_eq_false hd0]
    exact h
end
section
variable {W : Wd Mine.hd.heap_39} {k : Nat} {σ : Store} {E : Int → Store → Prop}
theorem rs_new {a f d n n' : Nat} {t : List Nat} {done : List V} (hf : σ f = none) (ha : upd σ f (.list []) a = none) : Sub σ (rs (upd (upd σ f (.list [])) a (sc d t n)) a f d t n' done) ∧ Sub σ (del (rs (upd (upd σ f (.list [])) a (sc d t n)) a f d t n' done) f) := by
  have hfa : a ≠ f := by rintro rfl; rw [upd_self] at ha; cases ha
  rw [upd_ne _ _ hfa] at ha
  constructor
  · intro b x e
    have h1 : b ≠ f := by rintro rfl; rw [hf] at e; cases e
    have h2 : b ≠ a := by rintro rfl; rw [ha] at e; cases e
    unfold rs; rw [upd_ne _ _ h1, upd_ne _ _ h2, upd_ne _ _ h2, upd_ne _ _ h1]; exact e
  · intro b x e
    have h1 : b ≠ f := by rintro rfl; rw [hf] at e; cases e
    have h2 : b ≠ a := by rintro rfl; rw [ha] at e; cases e
    rw [del_ne _ h1]; unfold rs; rw [upd_ne _ _ h1, upd_ne _ _ h2, upd_ne _ _ h2, upd_ne _ _ h1]; exact e
theorem read_commands_ok {t : List Nat} {vs : List V} {o : Option Nat} {Q : V → Store → Prop} (hz : t.length ≤ 1000000) (hvs : vs.length ≤ 1000) (hr : RunA t true 0 vs o) (q1 : o = none → Q (.lst vs) σ) (q2 : ∀ p, o = some p → E p σ) : CO W (k+8) 291 [.str t] σ Q E := by
  refine' CO.def (ns := ["text"]) ?ho ?hcd ?hb ?hl ?hn ?hc ?h1 ?h2 ?h3 ?h
  case ho => exact rfl
  case hcd => exact rfl
  case hb => first | exact fun s vals X r => binds1 (fun a => BindsTo.of_eq rfl) r | exact fun s vals X r => binds1 (fun a => binds_K X rfl rfl rfl rfl rfl) r
  case hl => rfl
  case hn => decide
  case hc => rfl
  case h1 => rfl
  case h2 => rfl
  case h3 => rfl
  case h =>
    refine TS.assign (by intros; rfl) rfl ?_
    refine TE.listC ?_
    with_reducible refine TEs.nil ?_
    refine ⟨by simp [sizeLine_eq], fun f hf => ?_⟩
    refine TS.expr (by intros; rfl) (by intros; rfl) ?_
    refine TE.call rfl rfl rfl rfl ?_
    refine TEs.cons' rfl ?_
    refine TE.callL1 rfl rfl rfl rfl rfl rfl ?_
    refine TO.new (fI := 165) rfl rfl rfl fun a d ha => ?_
    refine CO.mono sc_init ?_ (fun _ _ h => h)
    rintro v σ' ⟨rfl, rfl⟩
    have hfa : f ≠ a := by rintro rfl; rw [upd_self] at ha; cases ha
    refine ⟨rfl, ?_⟩
    refine TEs.L1 rfl rfl rfl ?_
    refine (read_into_ok (upd_self _ _ _) (by rw [upd_ne _ _ hfa]; exact upd_self _ _ _) hfa hz hvs hr ?_ ?_).to
    · intro n' ho
      with_reducible refine TS.cons ?_
      with_reducible refine T1.ret ?_
      refine TE.freeze ?_
      refine TE.local rfl rfl ?_
      exact ⟨f, vs, rfl, rs_f, _, (rs_new hf ha).2, q1 ho⟩
    · intro p n' ho
      exact ⟨_, (rs_new hf ha).1, q2 p ho⟩
theorem read_kept_ok {t : List Nat} {vs : List V} {Q : V → Store → Prop} (hz : t.length ≤ 1000000) (hvs : vs.length ≤ 1000) (hr : RunA t true 0 vs none) (q1 : Q (.tup [.lst vs, .none]) σ) : CO W (k+8) 298 [.str t] σ Q E := by
  refine' CO.def (ns := ["text"]) ?ho ?hcd ?hb ?hl ?hn ?hc ?h1 ?h2 ?h3 ?h
  case ho => exact rfl
  case hcd => exact rfl
  case hb => first | exact fun s vals X r => binds1 (fun a => BindsTo.of_eq rfl) r | exact fun s vals X r => binds1 (fun a => binds_K X rfl rfl rfl rfl rfl) r
  case hl => rfl
  case hn => decide
  case hc => rfl
  case h1 => rfl
  case h2 => rfl
  case h3 => rfl
  case h =>
    refine TS.assign (by intros; rfl) rfl ?_
    refine TE.listC ?_
    with_reducible refine TEs.nil ?_
    refine ⟨by simp [sizeLine_eq], fun f hf => ?_⟩
    with_reducible refine TS.cons ?_
    refine T1.tryQuiet ?_
    refine TS.expr (by intros; rfl) (by intros; rfl) ?_
    refine TE.call rfl rfl rfl rfl ?_
    refine TEs.cons' rfl ?_
    refine TE.callL1 rfl rfl rfl rfl rfl rfl ?_
    refine TO.new (fI := 165) rfl rfl rfl fun a d ha => ?_
    refine CO.mono sc_init ?_ (fun _ _ h => h)
    rintro v σ' ⟨rfl, rfl⟩
    have hfa : f ≠ a := by rintro rfl; rw [upd_self] at ha; cases ha
    refine ⟨rfl, ?_⟩
    refine TEs.L1 rfl rfl rfl ?_
    refine (read_into_ok (upd_self _ _ _) (by rw [upd_ne _ _ hfa]; exact upd_self _ _ _) hfa hz hvs hr ?_ (by intro p n' h; cases h)).to
    intro n' _
    with_reducible refine TS.nil ?_
    with_reducible refine TS.cons ?_
    with_reducible refine T1.ret ?_
    with_reducible refine TE.tuple ?_
    refine TEs.cons' rfl ?_
    refine TE.freeze ?_
    refine TE.local rfl rfl ?_
    refine ⟨f, vs, rfl, rs_f, ?_⟩
    refine TEs.cons' rfl ?_
    with_reducible refine TE.none ?_
    with_reducible refine TEs.nil ?_
    exact ⟨by simp [sizeLine_eq], _, (rs_new hf ha).2, q1⟩
theorem read_kept_bad {t : List Nat} {vs : List V} {p : Nat} {Q : V → Store → Prop} (hz : t.length ≤ 1000000) (hvs : vs.length ≤ 1000) (hr : RunA t true 0 vs (some p)) (q : ∀ e d T msg, σ e = none → Q (.tup [.lst vs, .obj e]) (upd σ e (faultOf d T msg p))) : CO W (k+8) 298 [.str t] σ Q E := by
  refine' CO.def (ns := ["text"]) ?ho ?hcd ?hb ?hl ?hn ?hc ?h1 ?h2 ?h3 ?h
  case ho => exact rfl
  case hcd => exact rfl
  case hb => first | exact fun s vals X r => binds1 (fun a => BindsTo.of_eq rfl) r | exact fun s vals X r => binds1 (fun a => binds_K X rfl rfl rfl rfl rfl) r
  case hl => rfl
  case hn => decide
  case hc => rfl
  case h1 => rfl
  case h2 => rfl
  case h3 => rfl
  case h =>
    refine TS.assign (by intros; rfl) rfl ?_
    refine TE.listC ?_
    with_reducible refine TEs.nil ?_
    refine ⟨by simp [sizeLine_eq], fun f hf => ?_⟩
    with_reducible refine TS.cons ?_
    refine T1.tryCatch rfl rfl rfl rfl rfl ?_
    refine TS.expr (by intros; rfl) (by intros; rfl) ?_
    refine TE.call rfl rfl rfl rfl ?_
    refine TEs.cons' rfl ?_
    refine TE.callL1 rfl rfl rfl rfl rfl rfl ?_
    refine TO.new (fI := 165) rfl rfl rfl fun a d ha => ?_
    refine CO.mono sc_init ?_ (fun _ _ h => h)
    rintro v σ' ⟨rfl, rfl⟩
    have hfa : f ≠ a := by rintro rfl; rw [upd_self] at ha; cases ha
    refine ⟨rfl, ?_⟩
    refine TEs.L1 rfl rfl rfl ?_
    refine (read_into_ok (upd_self _ _ _) (by rw [upd_ne _ _ hfa]; exact upd_self _ _ _) hfa hz hvs hr (by intro n' h; cases h) ?_).to
    rintro p' n' hp e d' T msg he
    cases hp
    have hef : e ≠ f := by rintro rfl; rw [rs_f] at he; cases he
    have hσe : σ e = none := by
      cases hs : σ e with
      | none => rfl
      | some x => rw [(rs_new hf ha).1 _ _ hs] at he; cases he
    with_reducible refine TS.cons ?_
    with_reducible refine T1.ret ?_
    with_reducible refine TE.tuple ?_
    refine TEs.cons' rfl ?_
    refine TE.freeze ?_
    refine TE.local rfl rfl ?_
    refine ⟨f, vs, rfl, by rw [upd_ne _ _ (Ne.symm hef)]; exact rs_f, ?_⟩
    refine TEs.L1 rfl rfl rfl ?_
    refine ⟨by simp [sizeLine_eq], _, ?_, q e d' T msg hσe⟩
    intro b x hb
    by_cases h : b = e
    · subst h
      rw [upd_self] at hb
      rw [del_ne _ hef, upd_self]; exact hb
    · rw [upd_ne _ _ h] at hb
      have := (rs_new (n := 0) (n' := n') (d := d) (t := t) (done := vs) hf ha).2 _ _ hb
      have hbf : b ≠ f := by rintro rfl; rw [hf] at hb; cases hb
      rw [del_ne _ hbf] at this
      rw [del_ne _ hbf, upd_ne _ _ h]; exact this
end
section
variable {W : Wd Mine.hd.heap_39} {k : Nat} {σ : Store} {E : Int → Store → Prop}
theorem wdF_len {p : Int} {q : Nat} (ok : wdOk p q = true) : (wdF p q).length ≤ 3000 := by
  unfold wdOk at ok
  simp only [Bool.and_eq_true, decide_eq_true_eq] at ok
  have := strip_le (wdP p q)
  unfold wdF wdT
  repeat' split
  all_goals simp only [List.length_append, List.length_cons, List.length_nil]
  all_goals omega
theorem short_ok {p : Int} {q : Nat} (hq : 0 < q) (hq' : q ≤ 1000000) (hp : p.natAbs ≤ 1000000) (ok : wdOk p q = true) : CO W (k+2) 305 [.tup [.int p, .int q]] σ (fun v σ' => v = .str (shortF (wdF p q)) ∧ σ' = σ) E := by
  refine' CO.def (ns := ["number"]) ?ho ?hcd ?hb ?hl ?hn ?hc ?h1 ?h2 ?h3 ?h
  case ho => exact rfl
  case hcd => exact rfl
  case hb => first | exact fun s vals X r => binds1 (fun a => BindsTo.of_eq rfl) r | exact fun s vals X r => binds1 (fun a => binds_K X rfl rfl rfl rfl rfl) r
  case hl => rfl
  case hn => decide
  case hc => rfl
  case h1 => rfl
  case h2 => rfl
  case h3 => rfl
  case h =>
    have hl := wdF_len ok
    have hls : (wdF p q).length ≤ sizeLine := by simp only [sizeLine_eq]; omega
    refine TS.assign (by intros; rfl) rfl ?_
    refine TE.callL rfl rfl rfl rfl rfl rfl ?_
    refine TEs.cons' rfl ?_
    refine TE.global (v := .int 6) rfl (fun _ _ => .int 6 _) rfl ?_
    with_reducible refine TEs.nil ?_
    refine (write_decimal_ok hq hq' hp ok).useEq ?_
    with_reducible refine TS.if ?_
    refine TB.compare rfl ?_
    with_reducible refine TE.slice ?_
    refine TE.local rfl rfl ?_
    with_reducible refine TP.none ?_
    with_reducible refine TP.some ?_
    with_reducible refine TE.int ?_
    refine ⟨2, rfl, _, rfl, hls, ?_⟩
    rw [show cut (wdF p q) Option.none (some 2) = (wdF p q).take 2 from cut_to _ 2]
    refine TE.str lit11 ?_
    with_reducible refine TO.eqS ?_
    refine testB (fun h => ?_) (fun h => ?_)
    · with_reducible refine TS.ret ?_
      with_reducible refine TE.slice ?_
      refine TE.local rfl rfl ?_
      with_reducible refine TP.some ?_
      with_reducible refine TE.int ?_
      refine ⟨1, rfl, ?_⟩
      with_reducible refine TP.none ?_
      refine ⟨_, rfl, hls, ?_⟩
      rw [show cut (wdF p q) (some 1) Option.none = (wdF p q).drop 1 from cut_from _ 1]
      refine .here ⟨?_, rfl⟩
      unfold shortF; rw [if_pos (by simpa using h)]
    · with_reducible refine TS.nil ?_
      with_reducible refine TS.if ?_
      refine TB.compare rfl ?_
      with_reducible refine TE.slice ?_
      refine TE.local rfl rfl ?_
      with_reducible refine TP.none ?_
      with_reducible refine TP.some ?_
      with_reducible refine TE.int ?_
      refine ⟨3, rfl, _, rfl, hls, ?_⟩
      rw [show cut (wdF p q) Option.none (some 3) = (wdF p q).take 3 from cut_to _ 3]
      refine TE.str lit12 ?_
      with_reducible refine TO.eqS ?_
      have h0 : ¬ (wdF p q).take 2 = [48, 46] := by simpa using h
      refine testB (fun h => ?_) (fun h => ?_)
      · with_reducible refine TS.ret ?_
        with_reducible refine TE.binop ?_
        refine TE.str lit10 ?_
        with_reducible refine TE.slice ?_
        refine TE.local rfl rfl ?_
        with_reducible refine TP.some ?_
        with_reducible refine TE.int ?_
        refine ⟨2, rfl, ?_⟩
        with_reducible refine TP.none ?_
        refine ⟨_, rfl, hls, ?_⟩
        rw [show cut (wdF p q) (some 2) Option.none = (wdF p q).drop 2 from cut_from _ 2]
        refine TO.cat (by simp only [List.length_cons, List.length_nil, List.length_drop, sizeLine_eq]; omega) ?_
        refine .here ⟨?_, rfl⟩
        unfold shortF; rw [if_neg h0, if_pos (by simpa using h)]; rfl
      · with_reducible refine TS.nil ?_
        with_reducible refine TS.ret ?_
        refine TE.local rfl rfl ?_
        refine .here ⟨?_, rfl⟩
        unfold shortF; rw [if_neg h0, if_neg (by simpa using h)]
theorem wants_ok {ahead text : List Nat} (ht : 0 < text.length) (hl : text.length ≤ 1000000) : CO W (k+1) 312 [.str ahead, .str text] σ (fun v σ' => v = .bool (wantsF ahead text) ∧ σ' = σ) E := by
  refine' CO.def (ns := ["ahead", "text"]) ?ho ?hcd ?hb ?hl ?hn ?hc ?h1 ?h2 ?h3 ?h
  case ho => exact rfl
  case hcd => exact rfl
  case hb => first | exact fun s vals X r => binds2 (fun a b => BindsTo.of_eq rfl) r | exact fun s vals X r => binds2 (fun a b => binds_K X rfl rfl rfl rfl rfl) r
  case hl => rfl
  case hn => decide
  case hc => rfl
  case h1 => rfl
  case h2 => rfl
  case h3 => rfl
  case h =>
    cases text with
    | nil => simp at ht
    | cons x r =>
    with_reducible refine TS.if ?_
    with_reducible refine TB.boolop ?_
    with_reducible refine TAll.orCons ?_
    refine TB.cmpLS rfl rfl rfl lit9 ?_
    with_reducible refine TO.eqS ?_
    refine testB (fun h => ?_) (fun h => ?_)
    · skip
      refine ⟨fun _ => ?_, fun h => (nomatch h)⟩
      with_reducible refine TS.ret ?_
      with_reducible refine TE.bool ?_
      refine .here ⟨?_, rfl⟩
      unfold wantsF; rw [if_pos (by simpa using h)]
    have h0 : ¬ ahead = [] := by simpa using h
    with_reducible refine TAll.orCons ?_
    refine TB.compare rfl ?_
    refine TE.itemLI (by intros; rfl) rfl rfl ?_
    refine ⟨trivial, TO.itemStr (j := 0) (x := x) (by decide) (by decide) (seqIx (by simp)) rfl ?_⟩
    refine TE.str lit10 ?_
    with_reducible refine TO.eqS ?_
    refine testB (fun h => ?_) (fun h => ?_)
    · skip
      refine ⟨fun _ => ?_, fun h => (nomatch h)⟩
      with_reducible refine TS.ret ?_
      with_reducible refine TE.bool ?_
      refine .here ⟨?_, rfl⟩
      unfold wantsF; rw [if_neg h0, if_pos (by simpa using h)]
    have h1 : ¬ x = 45 := by simpa using h
    with_reducible refine TAll.orNil ?_
    refine ⟨fun h => (nomatch h), fun _ => ?_⟩
    with_reducible refine TS.nil ?_
    with_reducible refine TS.ret ?_
    with_reducible refine TE.unary ?_
    with_reducible refine TE.bools ?_
    with_reducible refine TV.and ?_
    refine TE.compare rfl ?_
    refine TE.itemLI (by intros; rfl) rfl rfl ?_
    refine ⟨trivial, TO.itemStr (j := 0) (x := x) (by decide) (by decide) (seqIx (by simp)) rfl ?_⟩
    refine TE.str lit17 ?_
    with_reducible refine TO.eqS ?_
    with_reducible refine Tru.bool ?_
    refine ⟨fun h => ?_, fun h => ?_⟩
    · with_reducible refine TV.one ?_
      refine TE.compare rfl ?_
      refine TE.str lit17 ?_
      refine TE.local rfl rfl ?_
      with_reducible refine TO.inS ?_
      with_reducible refine TO.notB ?_
      refine .here ⟨?_, rfl⟩
      unfold wantsF
      rw [if_neg h0, if_neg (by simpa using h1)]
      have : x = 46 := by simpa using h
      subst this
      simp
    · with_reducible refine TO.notB ?_
      refine .here ⟨?_, rfl⟩
      unfold wantsF
      rw [if_neg h0, if_neg (by simpa using h1)]
      have : ¬ x = 46 := by simpa using h
      simp [this]
end
section
variable {W : Wd Mine.hd.heap_39} {k : Nat} {σ : Store} {E : Int → Store → Prop}
noncomputable def pw (d pa : Nat) (l la : List Nat) : Cell := .inst 357 d [("parts", .obj pa), ("letter", .str l), ("last", .str la)]
noncomputable def wr (σ : Store) (a pa d : Nat) (s : Pr) : Store := upd (upd σ a (pw d pa s.l s.la)) pa (.list (s.ps.map .str))
theorem wr_a {a pa d : Nat} {s : Pr} (h : pa ≠ a) : wr σ a pa d s a = some (pw d pa s.l s.la) := by unfold wr; rw [upd_ne _ _ (Ne.symm h)]; exact upd_self _ _ _
theorem wr_p {a pa d : Nat} {s : Pr} : wr σ a pa d s pa = some (.list (s.ps.map .str)) := upd_self _ _ _
theorem wr_ua {a pa d : Nat} {s : Pr} {l la : List Nat} (h : pa ≠ a) : upd (wr σ a pa d s) a (pw d pa l la) = wr σ a pa d ⟨s.ps, l, la⟩ := by
  unfold wr; rw [upd_comm _ _ _ h, upd_upd]
theorem wr_up {a pa d : Nat} {s : Pr} {x : List Nat} : upd (wr σ a pa d s) pa (.list (s.ps.map .str ++ [.str x])) = wr σ a pa d ⟨s.ps ++ [x], s.l, s.la⟩ := by
  unfold wr; rw [upd_upd]; simp
theorem wr_init {x d : Nat} : CO W (k+1) 326 [.obj x] (upd σ x (.inst 357 d [])) (fun v σ' => v = .none ∧ ∃ pa, upd σ x (.inst 357 d []) pa = none ∧ σ' = wr σ x pa d ⟨[], [], []⟩) E := by
  refine' CO.def (ns := ["self"]) ?ho ?hcd ?hb ?hl ?hn ?hc ?h1 ?h2 ?h3 ?h
  case ho => exact rfl
  case hcd => exact rfl
  case hb => first | exact fun s vals X r => binds1 (fun a => BindsTo.of_eq rfl) r | exact fun s vals X r => binds1 (fun a => binds_K X rfl rfl rfl rfl rfl) r
  case hl => rfl
  case hn => decide
  case hc => rfl
  case h1 => rfl
  case h2 => rfl
  case h3 => rfl
  case h =>
    refine TS.assignAttr (by intros; rfl) ?_
    refine TE.listC ?_
    with_reducible refine TEs.nil ?_
    refine ⟨by simp [sizeLine_eq], fun pa hpa => ?_⟩
    have hpx : pa ≠ x := by rintro rfl; rw [upd_self] at hpa; cases hpa
    refine TE.local rfl rfl ?_
    refine setTo (C := 357) (by rw [upd_ne _ _ (Ne.symm hpx)]; exact upd_self _ _ _) rfl rfl rfl rfl (of_decide_eq_true rfl) ?_
    refine TS.assignAttr (by intros; rfl) ?_
    refine TE.str lit9 ?_
    refine TE.local rfl rfl ?_
    refine setTo (C := 357) (upd_self _ _ _) rfl rfl rfl rfl (of_decide_eq_true rfl) ?_
    refine TS.assignAttr (by intros; rfl) ?_
    refine TE.str lit9 ?_
    refine TE.local rfl rfl ?_
    refine setTo (C := 357) (upd_self _ _ _) rfl rfl rfl rfl (of_decide_eq_true rfl) ?_
    with_reducible refine TS.nil ?_
    refine .here ⟨rfl, pa, hpa, ?_⟩
    rw [upd_upd, upd_upd, upd_comm _ _ _ hpx, upd_upd]
    rfl
theorem wr_letter {a pa d c : Nat} {s : Pr} (h0 : pa ≠ a) (hz : s.ps.length ≤ 1000) : CO W (k+2) 333 [.obj a, .str [c]] (wr σ a pa d s) (fun v σ' => v = .none ∧ σ' = wr σ a pa d (putL c s)) E := by
  refine' CO.def (ns := ["self", "letter"]) ?ho ?hcd ?hb ?hl ?hn ?hc ?h1 ?h2 ?h3 ?h
  case ho => exact rfl
  case hcd => exact rfl
  case hb => first | exact fun s vals X r => binds2 (fun a b => BindsTo.of_eq rfl) r | exact fun s vals X r => binds2 (fun a b => binds_K X rfl rfl rfl rfl rfl) r
  case hl => rfl
  case hn => decide
  case hc => rfl
  case h1 => rfl
  case h2 => rfl
  case h3 => rfl
  case h =>
    have ea : ∀ {s : Pr}, (wr σ a pa d s) a = some (.inst 357 d [("parts", .obj pa), ("letter", .str s.l), ("last", .str s.la)]) := fun {s} => wr_a h0
    have hps : (s.ps.map V.str).length ≤ sizeLine := by rw [List.length_map]; simp only [sizeLine_eq]; omega
    refine TS.cons (T1.cut (fun m' σ' => m' = ([("self", .obj a), ("letter", .str [c])] : Loc) ∧ σ' = wr σ a pa d (if [c] ≠ s.l ∨ c ∈ [90, 122] then ⟨s.ps ++ [[c]], s.l, []⟩ else s)) ?_ ?_)
    · with_reducible refine T1.if ?_
      with_reducible refine TB.boolop ?_
      with_reducible refine TAll.orCons ?_
      refine TB.cmpL rfl rfl rfl ?_
      refine TE.attrL (by intros; rfl) (by intros; rfl) rfl rfl ?_
      refine TO.getInst ea rfl rfl rfl rfl rfl ?_
      with_reducible refine TO.neS ?_
      refine testB (fun h => ?_) (fun h => ?_)
      · have hc : [c] ≠ s.l := by simpa using h
        refine ⟨fun _ => ?_, fun h => (nomatch h)⟩
        refine TS.expr (by intros; rfl) (by intros; rfl) ?_
        refine TE.method (by intros; rfl) rfl ?_
        refine TE.attrL (by intros; rfl) (by intros; rfl) rfl rfl ?_
        refine TO.getInst ea rfl rfl rfl rfl rfl ?_
        refine ⟨_, GM.append wr_p, ?_⟩
        refine TEs.L1 rfl rfl rfl ?_
        refine TO.append wr_p hps ?_
        rw [wr_up]
        refine TS.assignAttr (by intros; rfl) ?_
        refine TE.str lit9 ?_
        refine TE.local rfl rfl ?_
        refine setTo (C := 357) (ea) rfl rfl rfl rfl (of_decide_eq_true rfl) ?_
        with_reducible refine TS.nil ?_
        refine ⟨rfl, ?_⟩
        rw [if_pos (.inl hc)]
        exact wr_ua h0
      · have hc : [c] = s.l := by simpa using h
        with_reducible refine TAll.orCons ?_
        refine TB.cmpLS rfl rfl rfl lit31 ?_
        with_reducible refine TO.inS ?_
        refine testB (fun h => ?_) (fun h => ?_)
        · have hz : c ∈ [90, 122] := by simpa using h
          refine ⟨fun _ => ?_, fun h => (nomatch h)⟩
          refine TS.expr (by intros; rfl) (by intros; rfl) ?_
          refine TE.method (by intros; rfl) rfl ?_
          refine TE.attrL (by intros; rfl) (by intros; rfl) rfl rfl ?_
          refine TO.getInst ea rfl rfl rfl rfl rfl ?_
          refine ⟨_, GM.append wr_p, ?_⟩
          refine TEs.L1 rfl rfl rfl ?_
          refine TO.append wr_p hps ?_
          rw [wr_up]
          refine TS.assignAttr (by intros; rfl) ?_
          refine TE.str lit9 ?_
          refine TE.local rfl rfl ?_
          refine setTo (C := 357) (ea) rfl rfl rfl rfl (of_decide_eq_true rfl) ?_
          with_reducible refine TS.nil ?_
          refine ⟨rfl, ?_⟩
          rw [if_pos (.inr hz)]
          exact wr_ua h0
        · have hz : c ∉ [90, 122] := by
            have : decide (c ∈ [90, 122]) = false := h
            simpa using this
          with_reducible refine TAll.orNil ?_
          refine ⟨fun h => (nomatch h), fun _ => ?_⟩
          with_reducible refine TS.nil ?_
          refine ⟨rfl, ?_⟩
          rw [if_neg (by rintro (h | h); exact h hc; exact hz h)]
    rintro m' σ' ⟨rfl, rfl⟩
    have e1 : ∀ s0 : Pr, CO W (k+1) 263 [.str [c]] (wr σ a pa d s0) (fun v σ' => v = .str [behF c] ∧ σ' = (wr σ a pa d s0)) E := fun s0 => letter_behind_ok
    refine TS.assignAttr (by intros; rfl) ?_
    with_reducible refine TE.ifexp ?_
    refine TB.cmpLS rfl rfl rfl lit31 ?_
    with_reducible refine TO.inS ?_
    refine testB (fun h => ?_) (fun h => ?_)
    · have hz : c ∈ [90, 122] := by simpa using h
      refine TE.str lit9 ?_
      refine TE.local rfl rfl ?_
      refine setTo (C := 357) (ea) rfl rfl rfl rfl (of_decide_eq_true rfl) ?_
      with_reducible refine TS.nil ?_
      refine .here ⟨rfl, ?_⟩
      refine (wr_ua h0).trans ?_
      unfold putL
      rw [if_pos (.inr hz), if_pos (.inr hz), if_pos hz]
    · have hz : c ∉ [90, 122] := by
        have : decide (c ∈ [90, 122]) = false := h
        simpa using this
      refine TE.callL1 rfl rfl rfl rfl rfl rfl ?_
      refine letter_behind_ok.useEq ?_
      refine TE.local rfl rfl ?_
      refine setTo (C := 357) (ea) rfl rfl rfl rfl (of_decide_eq_true rfl) ?_
      with_reducible refine TS.nil ?_
      refine .here ⟨rfl, ?_⟩
      refine (wr_ua h0).trans ?_
      unfold putL
      by_cases hc : [c] ≠ s.l ∨ c ∈ [90, 122]
      · rw [if_pos hc, if_pos hc, if_neg hz]
      · rw [if_neg hc, if_neg hc, if_neg hz]
end
section
variable {W : Wd Mine.hd.heap_39} {k : Nat} {σ : Store} {E : Int → Store → Prop}
theorem wr_number {a pa d : Nat} {s : Pr} {p : Int} {q : Nat} (h0 : pa ≠ a) (hz : s.ps.length ≤ 1000) (hq : 0 < q) (hq' : q ≤ 1000000) (hp : p.natAbs ≤ 1000000) (ok : wdOk p q = true) (hpos : 0 < (shortF (wdF p q)).length) : CO W (k+3) 340 [.obj a, .tup [.int p, .int q]] (wr σ a pa d s) (fun v σ' => v = .none ∧ σ' = wr σ a pa d (putT (shortF (wdF p q)) s)) E := by
  refine' CO.def (ns := ["self", "number"]) ?ho ?hcd ?hb ?hl ?hn ?hc ?h1 ?h2 ?h3 ?h
  case ho => exact rfl
  case hcd => exact rfl
  case hb => first | exact fun s vals X r => binds2 (fun a b => BindsTo.of_eq rfl) r | exact fun s vals X r => binds2 (fun a b => binds_K X rfl rfl rfl rfl rfl) r
  case hl => rfl
  case hn => decide
  case hc => rfl
  case h1 => rfl
  case h2 => rfl
  case h3 => rfl
  case h =>
    have ea : ∀ {s : Pr}, (wr σ a pa d s) a = some (.inst 357 d [("parts", .obj pa), ("letter", .str s.l), ("last", .str s.la)]) := fun {s} => wr_a h0
    have hps : ∀ {l : List (List Nat)}, l.length ≤ 2000 → (l.map V.str).length ≤ sizeLine := fun {l} h => by rw [List.length_map]; simp only [sizeLine_eq]; omega
    have hsl : (shortF (wdF p q)).length ≤ 1000000 := by
      have := wdF_len ok
      unfold shortF
      repeat' split
      all_goals (try simp only [List.length_drop, List.length_cons])
      all_goals omega
    refine TS.assign (by intros; rfl) rfl ?_
    refine TE.callL1 rfl rfl rfl rfl rfl rfl ?_
    refine (short_ok hq hq' hp ok).useEq ?_
    generalize shortF (wdF p q) = text at hsl hpos
    refine TS.cons (T1.cut (fun m' σ' => m' = ([("self", .obj a), ("number", .tup [.int p, .int q]), ("text", .str text)] : Loc) ∧ σ' = wr σ a pa d ⟨s.ps ++ (if wantsF s.la text then [[32]] else []), s.l, s.la⟩) ?_ ?_)
    · with_reducible refine T1.if ?_
      refine TB.value (by intros; rfl) ?_
      refine TE.call rfl rfl rfl rfl ?_
      refine TEs.cons' rfl ?_
      refine TE.attrL (by intros; rfl) (by intros; rfl) rfl rfl ?_
      refine TO.getInst ea rfl rfl rfl rfl rfl ?_
      refine TEs.L1 rfl rfl rfl ?_
      refine (wants_ok hpos hsl).useEq ?_
      with_reducible refine Tru.bool ?_
      refine ⟨fun h => ?_, fun h => ?_⟩
      · refine TS.expr (by intros; rfl) (by intros; rfl) ?_
        refine TE.method (by intros; rfl) rfl ?_
        refine TE.attrL (by intros; rfl) (by intros; rfl) rfl rfl ?_
        refine TO.getInst ea rfl rfl rfl rfl rfl ?_
        refine ⟨_, GM.append wr_p, ?_⟩
        refine TEs.S1 rfl lit32 ?_
        refine TO.append wr_p (hps (by omega)) ?_
        rw [wr_up]
        with_reducible refine TS.nil ?_
        rw [h]
        exact ⟨rfl, rfl⟩
      · with_reducible refine TS.nil ?_
        rw [h]
        refine ⟨rfl, ?_⟩
        simp
    rintro m' σ' ⟨rfl, rfl⟩
    refine TS.expr (by intros; rfl) (by intros; rfl) ?_
    refine TE.method (by intros; rfl) rfl ?_
    refine TE.attrL (by intros; rfl) (by intros; rfl) rfl rfl ?_
    refine TO.getInst ea rfl rfl rfl rfl rfl ?_
    refine ⟨_, GM.append wr_p, ?_⟩
    refine TEs.L1 rfl rfl rfl ?_
    refine TO.append wr_p (hps ?_) ?_
    · simp only [List.length_append]
      split
      · simp only [List.length_cons, List.length_nil]; omega
      · simp only [List.length_nil]; omega
    rw [wr_up]
    refine TS.assignAttr (by intros; rfl) ?_
    refine TE.local rfl rfl ?_
    refine TE.local rfl rfl ?_
    refine setTo (C := 357) (ea) rfl rfl rfl rfl (of_decide_eq_true rfl) ?_
    with_reducible refine TS.nil ?_
    refine .here ⟨rfl, ?_⟩
    refine (wr_ua h0).trans ?_
    unfold putT
    rw [List.append_assoc]
theorem digs_bit {b : Nat} (h : b < 2) : digs (b : Int) = [48 + b] := by
  have : b = 0 ∨ b = 1 := by omega
  rcases this with rfl | rfl <;> decide +kernel
theorem wr_flag {a pa d : Nat} {s : Pr} {b : Nat} (h0 : pa ≠ a) (hz : s.ps.length ≤ 1000) (hb : b < 2) : CO W (k+2) 347 [.obj a, .int b] (wr σ a pa d s) (fun v σ' => v = .none ∧ σ' = wr σ a pa d (putB b s)) E := by
  refine' CO.def (ns := ["self", "flag"]) ?ho ?hcd ?hb ?hl ?hn ?hc ?h1 ?h2 ?h3 ?h
  case ho => exact rfl
  case hcd => exact rfl
  case hb => first | exact fun s vals X r => binds2 (fun a b => BindsTo.of_eq rfl) r | exact fun s vals X r => binds2 (fun a b => binds_K X rfl rfl rfl rfl rfl) r
  case hl => rfl
  case hn => decide
  case hc => rfl
  case h1 => rfl
  case h2 => rfl
  case h3 => rfl
  case h =>
    have ea : ∀ {s : Pr}, (wr σ a pa d s) a = some (.inst 357 d [("parts", .obj pa), ("letter", .str s.l), ("last", .str s.la)]) := fun {s} => wr_a h0
    have hps : ∀ {l : List (List Nat)}, l.length ≤ 2000 → (l.map V.str).length ≤ sizeLine := fun {l} h => by rw [List.length_map]; simp only [sizeLine_eq]; omega
    refine TS.cons (T1.cut (fun m' σ' => m' = ([("self", .obj a), ("flag", .int b)] : Loc) ∧ σ' = wr σ a pa d ⟨s.ps ++ (if s.la ≠ [] then [[32]] else []), s.l, s.la⟩) ?_ ?_)
    · with_reducible refine T1.if ?_
      refine TB.compare rfl ?_
      refine TE.attrL (by intros; rfl) (by intros; rfl) rfl rfl ?_
      refine TO.getInst ea rfl rfl rfl rfl rfl ?_
      refine TE.str lit9 ?_
      with_reducible refine TO.neS ?_
      refine testB (fun h => ?_) (fun h => ?_)
      · refine TS.expr (by intros; rfl) (by intros; rfl) ?_
        refine TE.method (by intros; rfl) rfl ?_
        refine TE.attrL (by intros; rfl) (by intros; rfl) rfl rfl ?_
        refine TO.getInst ea rfl rfl rfl rfl rfl ?_
        refine ⟨_, GM.append wr_p, ?_⟩
        refine TEs.S1 rfl lit32 ?_
        refine TO.append wr_p (hps (by omega)) ?_
        rw [wr_up]
        with_reducible refine TS.nil ?_
        rw [if_pos (by simpa using h)]
        exact ⟨rfl, rfl⟩
      · with_reducible refine TS.nil ?_
        rw [if_neg (by simpa using h)]
        refine ⟨rfl, ?_⟩
        simp
    rintro m' σ' ⟨rfl, rfl⟩
    refine TS.expr (by intros; rfl) (by intros; rfl) ?_
    refine TE.method (by intros; rfl) rfl ?_
    refine TE.attrL (by intros; rfl) (by intros; rfl) rfl rfl ?_
    refine TO.getInst ea rfl rfl rfl rfl rfl ?_
    refine ⟨_, GM.append wr_p, ?_⟩
    refine TEs.cons' rfl ?_
    (refine' TE.callBL1 ?zze ?zzv ?zzn ?zzx ?zzc rfl rfl rfl ?_ ?zzd; (case zze => rfl); (case zzv => boot_fast); (case zzn => decide); (case zzx => rfl); (case zzc => exact .type _); (case zzd => decide))
    refine TO.strI rfl (small4300 (by omega)) ?_
    rw [digs_bit hb]
    with_reducible refine TEs.nil ?_
    refine TO.append wr_p (hps ?_) ?_
    · simp only [List.length_append]
      split
      · simp only [List.length_cons, List.length_nil]; omega
      · simp only [List.length_nil]; omega
    rw [wr_up]
    refine TS.assignAttr (by intros; rfl) ?_
    refine TE.str lit9 ?_
    refine TE.local rfl rfl ?_
    refine setTo (C := 357) (ea) rfl rfl rfl rfl (of_decide_eq_true rfl) ?_
    with_reducible refine TS.nil ?_
    refine .here ⟨rfl, ?_⟩
    refine (wr_ua h0).trans ?_
    unfold putB
    rw [List.append_assoc]
end
section
variable {W : Wd Mine.hd.heap_39} {k : Nat} {σ : Store} {E : Int → Store → Prop}
noncomputable def numOk (v : V) : Prop := ∃ (p : Int) (q : Nat), v = .tup [.int p, .int q] ∧ 0 < q ∧ q ≤ 1000000 ∧ p.natAbs ≤ 1000000 ∧ wdOk p q = true ∧ 0 < (shortF (wdF p q)).length
noncomputable def itemOk (arc : Bool) (i : Nat) (v : V) : Prop := if flagAt arc i = true then ∃ b : Nat, b < 2 ∧ v = .int b else numOk v
theorem putVs_app (xs : List V) (v : V) : ∀ s, putVs (xs ++ [v]) s = putV v (putVs xs s) := by
  induction xs with
  | nil => intro s; rfl
  | cons x xs ih => intro s; exact ih _
theorem putV_len (v : V) (s : Pr) : (putV v s).ps.length ≤ s.ps.length + 2 := by
  unfold putV
  split
  · unfold putT; simp only [List.length_append]; split <;> simp
  · unfold putB; simp only [List.length_append]; split <;> simp
  · omega
theorem putVs_len (vs : List V) : ∀ s, (putVs vs s).ps.length ≤ s.ps.length + 2 * vs.length := by
  induction vs with
  | nil => intro s; exact Nat.le_refl _
  | cons v vs ih =>
    intro s
    have h1 := ih (putV v s)
    have h2 := putV_len v s
    show (putVs vs (putV v s)).ps.length ≤ _
    rw [List.length_cons]; omega
theorem putLc_len (c : Nat) (s : Pr) : (putL c s).ps.length ≤ s.ps.length + 1 := by
  unfold putL; split
  · simp
  · simp
theorem wr_put {a pa d c : Nat} {s : Pr} {gs : List V} (h0 : pa ≠ a) (hz : s.ps.length ≤ 900) (hn : gs.length ≤ 7) (hg : ∀ i v, gs[i]? = some v → itemOk (arcF c) i v) : CO W (k+4) 354 [.obj a, .str [c], .tup gs] (wr σ a pa d s) (fun v σ' => v = .none ∧ σ' = wr σ a pa d (putVs gs (putL c s))) E := by
  refine' CO.def (ns := ["self", "letter", "numbers"]) ?ho ?hcd ?hb ?hl ?hn ?hc ?h1 ?h2 ?h3 ?h
  case ho => exact rfl
  case hcd => exact rfl
  case hb => first | exact fun s vals X r => binds3 (fun a b c => BindsTo.of_eq rfl) r | exact fun s vals X r => binds3 (fun a b c => binds_K X rfl rfl rfl rfl rfl) r
  case hl => rfl
  case hn => decide
  case hc => rfl
  case h1 => rfl
  case h2 => rfl
  case h3 => rfl
  case h =>
    have ea : ∀ {s : Pr}, (wr σ a pa d s) a = some (.inst 357 d [("parts", .obj pa), ("letter", .str s.l), ("last", .str s.la)]) := fun {s} => wr_a h0
    have hL := putLc_len c s
    refine TS.expr (by intros; rfl) (by intros; rfl) ?_
    refine TE.method (by intros; rfl) rfl ?_
    refine TE.local rfl rfl ?_
    refine ⟨_, GM.inst ea rfl rfl rfl rfl rfl, ?_⟩
    refine TEs.L1 rfl rfl rfl ?_
    refine (wr_letter h0 (by omega)).useEq ?_
    with_reducible refine TS.cons ?_
    refine T1.for rfl (by intros; rfl) ?_
    (refine' TE.callB ?zze ?zzv ?zzn ?zzx ?zzc rfl ?_ ?zzd; (case zze => rfl); (case zzv => boot_fast); (case zzn => decide); (case zzx => rfl); (case zzc => exact .type _); (case zzd => decide))
    refine TEs.cons' rfl ?_
    (refine' TE.callBL1 ?zze ?zzv ?zzn ?zzx ?zzc rfl rfl rfl ?_ ?zzd; (case zze => rfl); (case zzv => boot_fast); (case zzn => decide); (case zzx => rfl); (case zzc => exact .builtin _); (case zzd => decide))
    refine TO.lenTup (by simp only [sizeLine_eq]; omega) ?_
    with_reducible refine TEs.nil ?_
    refine TO.range ?_
    refine ⟨_, fun i m' σ' => ((m' = ([("self", .obj a), ("letter", .str [c]), ("numbers", .tup gs)] : Loc)) ∨ ∃ u, m' = ([("self", .obj a), ("letter", .str [c]), ("numbers", .tup gs), ("place", u)] : Loc)) ∧ i ≤ gs.length ∧ σ' = wr σ a pa d (putVs (gs.take i) (putL c s)), .rng _ (by omega), ⟨.inl rfl, Nat.zero_le _, rfl⟩, ?_, ?_⟩
    · rintro i v m' σ' hi ⟨hm, hil, rfl⟩
      have hv : v = .int i ∧ i < gs.length := by
        rw [List.getElem?_map] at hi
        obtain ⟨j, hj, rfl⟩ := Option.map_eq_some_iff.mp hi
        have h1 := List.getElem?_eq_some_iff.mp hj
        obtain ⟨h2, h3⟩ := h1
        rw [List.getElem_range] at h3
        rw [List.length_range] at h2
        subst h3
        exact ⟨rfl, h2⟩
      obtain ⟨rfl, hlt⟩ := hv
      have hx : gs[i]? = some gs[i] := List.getElem?_eq_getElem hlt
      have hit := hg i _ hx
      have hP := putVs_len (gs.take i) (putL c s)
      rw [List.length_take] at hP
      refine TA.name rfl ?_
      have hm1 : setV m' "place" (.int i) = ([("self", .obj a), ("letter", .str [c]), ("numbers", .tup gs), ("place", .int i)] : Loc) := by
        rcases hm with rfl | ⟨u, rfl⟩ <;> rfl
      rw [hm1]
      have fin : ∀ σ', σ' = wr σ a pa d (putV gs[i] (putVs (gs.take i) (putL c s))) → ((([("self", .obj a), ("letter", .str [c]), ("numbers", .tup gs), ("place", .int i)] : Loc) = ([("self", .obj a), ("letter", .str [c]), ("numbers", .tup gs)] : Loc)) ∨ ∃ u, ([("self", .obj a), ("letter", .str [c]), ("numbers", .tup gs), ("place", .int i)] : Loc) = ([("self", .obj a), ("letter", .str [c]), ("numbers", .tup gs), ("place", u)] : Loc)) ∧ i + 1 ≤ gs.length ∧ σ' = wr σ a pa d (putVs (gs.take (i + 1)) (putL c s)) := by
        rintro σ' rfl
        refine ⟨.inr ⟨_, rfl⟩, hlt, ?_⟩
        rw [List.take_add_one, hx]
        show _ = wr σ a pa d (putVs (gs.take i ++ [gs[i]]) (putL c s))
        rw [putVs_app]
      with_reducible refine TS.if ?_
      with_reducible refine TB.boolop ?_
      with_reducible refine TAll.andCons ?_
      refine TB.cmpLS rfl rfl rfl lit43 ?_
      with_reducible refine TO.inS ?_
      refine testB (fun h => ?_) (fun h => ?_)
      · have ha : arcF c = true := h
        with_reducible refine TAll.andCons ?_
        refine TB.cmpL rfl rfl rfl ?_
        with_reducible refine TE.tuple ?_
        refine TEs.I rfl ?_
        refine TEs.I1 rfl ?_
        refine ⟨by simp [sizeLine_eq], TO.inInts rfl ?_⟩
        have hin : ([.int 3, .int 4] : List V).any (intIs i) = (decide (i = 3) || decide (i = 4)) := by
          have h1 : ((3 : Int) == (i : Int)) = decide (i = 3) := by rw [Bool.eq_iff_iff]; simp; omega
          have h2 : ((4 : Int) == (i : Int)) = decide (i = 4) := by rw [Bool.eq_iff_iff]; simp; omega
          show ((3 : Int) == (i : Int) || ((4 : Int) == (i : Int) || false)) = _
          rw [h1, h2, Bool.or_false]
        rw [hin]
        refine testB (fun h => ?_) (fun h => ?_)
        · have hf2 : flagAt (arcF c) i = true := by unfold flagAt; rw [ha, h]; rfl
          with_reducible refine TAll.andNil ?_
          refine ⟨fun _ => ?_, fun h => (nomatch h)⟩
          unfold itemOk at hit
          rw [if_pos hf2] at hit
          obtain ⟨b, hb, hv⟩ := hit
          refine TS.expr (by intros; rfl) (by intros; rfl) ?_
          refine TE.method (by intros; rfl) rfl ?_
          refine TE.local rfl rfl ?_
          refine ⟨_, GM.inst ea rfl rfl rfl rfl rfl, ?_⟩
          refine TEs.cons' rfl ?_
          refine TE.itemL (by intros; rfl) rfl rfl ?_
          refine TE.local rfl rfl ?_
          refine ⟨trivial, TO.itemTup (j := i) (x := gs[i]) (by omega) (by omega) (seqIx hlt) hx ?_⟩
          with_reducible refine TEs.nil ?_
          rw [hv]
          refine (wr_flag h0 (by omega) hb).useEq ?_
          with_reducible refine TS.nil ?_
          with_reducible refine TS.nil ?_
          exact fin _ (by rw [hv]; rfl)
        · have hf2 : flagAt (arcF c) i = false := by unfold flagAt; rw [ha, h]; rfl
          refine ⟨fun h => (nomatch h), fun _ => ?_⟩
          unfold itemOk at hit
          rw [if_neg (by rw [hf2]; decide)] at hit
          obtain ⟨p, q, hv, c1, c2, c3, c4, c5⟩ := hit
          refine TS.expr (by intros; rfl) (by intros; rfl) ?_
          refine TE.method (by intros; rfl) rfl ?_
          refine TE.local rfl rfl ?_
          refine ⟨_, GM.inst ea rfl rfl rfl rfl rfl, ?_⟩
          refine TEs.cons' rfl ?_
          refine TE.itemL (by intros; rfl) rfl rfl ?_
          refine TE.local rfl rfl ?_
          refine ⟨trivial, TO.itemTup (j := i) (x := gs[i]) (by omega) (by omega) (seqIx hlt) hx ?_⟩
          with_reducible refine TEs.nil ?_
          rw [hv]
          refine (wr_number h0 (by omega) c1 c2 c3 c4 c5).useEq ?_
          with_reducible refine TS.nil ?_
          with_reducible refine TS.nil ?_
          exact fin _ (by rw [hv]; rfl)
      · have ha : arcF c = false := h
        have hf2 : flagAt (arcF c) i = false := by unfold flagAt; rw [ha]; rfl
        refine ⟨fun h => (nomatch h), fun _ => ?_⟩
        unfold itemOk at hit
        rw [if_neg (by rw [hf2]; decide)] at hit
        obtain ⟨p, q, hv, c1, c2, c3, c4, c5⟩ := hit
        refine TS.expr (by intros; rfl) (by intros; rfl) ?_
        refine TE.method (by intros; rfl) rfl ?_
        refine TE.local rfl rfl ?_
        refine ⟨_, GM.inst ea rfl rfl rfl rfl rfl, ?_⟩
        refine TEs.cons' rfl ?_
        refine TE.itemL (by intros; rfl) rfl rfl ?_
        refine TE.local rfl rfl ?_
        refine ⟨trivial, TO.itemTup (j := i) (x := gs[i]) (by omega) (by omega) (seqIx hlt) hx ?_⟩
        with_reducible refine TEs.nil ?_
        rw [hv]
        refine (wr_number h0 (by omega) c1 c2 c3 c4 c5).useEq ?_
        with_reducible refine TS.nil ?_
        with_reducible refine TS.nil ?_
        exact fin _ (by rw [hv]; rfl)
    · rintro m' σ' ⟨hm, _, rfl⟩
      rw [List.length_map, List.length_range, List.take_length]
      with_reducible refine TS.nil ?_
      exact .here ⟨rfl, rfl⟩
end
section
variable {W : Wd Mine.hd.heap_39} {k : Nat} {σ : Store} {E : Int → Store → Prop}
noncomputable def cmdOk (v : V) : Prop := ∃ c gs, v = cmdV c gs ∧ gs.length ≤ 7 ∧ ∀ i v, gs[i]? = some v → itemOk (arcF c) i v
theorem putCs_app (xs : List V) (v : V) : ∀ s, putCs (xs ++ [v]) s = putC v (putCs xs s) := by
  induction xs with
  | nil => intro s; rfl
  | cons x xs ih => intro s; exact ih _
theorem putCs_len (vs : List V) (h : ∀ v ∈ vs, cmdOk v) : ∀ s, (putCs vs s).ps.length ≤ s.ps.length + 15 * vs.length := by
  induction vs with
  | nil => intro s; exact Nat.le_refl _
  | cons v vs ih =>
    intro s
    obtain ⟨c, gs, rfl, h1, _⟩ := h v (List.mem_cons_self ..)
    have h2 := ih (fun v hv => h v (List.mem_cons_of_mem _ hv)) (putVs gs (putL c s))
    have h3 := putVs_len gs (putL c s)
    have h4 := putLc_len c s
    show (putCs vs (putVs gs (putL c s))).ps.length ≤ _
    rw [List.length_cons]; omega
theorem sum_len (l : List (List Nat)) : (l.map fun t => t.length + ([] : List Nat).length).sum = l.flatten.length := by
  induction l with
  | nil => rfl
  | cons x l ih => simp only [List.map_cons, List.sum_cons, List.flatten_cons, List.length_append, ih]; rfl
theorem write_path_ok {vs : List V} (hv : vs.length ≤ 8) (hc : ∀ v ∈ vs, cmdOk v) (hz : (putCs vs ⟨[], [], []⟩).ps.flatten.length ≤ 1000000) : CO W (k+5) 368 [.lst vs] σ (fun v σ' => v = .str (putCs vs ⟨[], [], []⟩).ps.flatten ∧ σ' = σ) E := by
  refine' CO.def (ns := ["commands"]) ?ho ?hcd ?hb ?hl ?hn ?hc ?h1 ?h2 ?h3 ?h
  case ho => exact rfl
  case hcd => exact rfl
  case hb => first | exact fun s vals X r => binds1 (fun a => BindsTo.of_eq rfl) r | exact fun s vals X r => binds1 (fun a => binds_K X rfl rfl rfl rfl rfl) r
  case hl => rfl
  case hn => decide
  case hc => rfl
  case h1 => rfl
  case h2 => rfl
  case h3 => rfl
  case h =>
    refine TS.assign (by intros; rfl) rfl ?_
    refine TE.call rfl rfl rfl rfl ?_
    with_reducible refine TEs.nil ?_
    refine TO.new (fI := 326) rfl rfl rfl fun a d ha => ?_
    refine CO.mono wr_init ?_ (fun _ _ h => h)
    rintro v σ' ⟨rfl, pa, hpa, rfl⟩
    have h0 : pa ≠ a := by rintro rfl; rw [upd_self] at hpa; cases hpa
    have ea : ∀ {s : Pr}, (wr σ a pa d s) a = some (.inst 357 d [("parts", .obj pa), ("letter", .str s.l), ("last", .str s.la)]) := fun {s} => wr_a h0
    refine ⟨rfl, ?_⟩
    with_reducible refine TS.cons ?_
    refine T1.for rfl (by intros; rfl) ?_
    refine TE.local rfl rfl ?_
    refine ⟨_, fun i m' σ' => ((m' = ([("commands", .lst vs), ("writer", .obj a)] : Loc)) ∨ ∃ u v, m' = ([("commands", .lst vs), ("writer", .obj a), ("letter", u), ("numbers", v)] : Loc)) ∧ i ≤ vs.length ∧ σ' = wr σ a pa d (putCs (vs.take i) ⟨[], [], []⟩), .lst _, ⟨.inl rfl, Nat.zero_le _, rfl⟩, ?_, ?_⟩
    · rintro i v m' σ' hi ⟨hm, hil, rfl⟩
      have hlt : i < vs.length := (List.getElem?_eq_some_iff.mp hi).1
      obtain ⟨c, gs, rfl, c1, c2⟩ := hc v (List.mem_of_getElem? hi)
      have hP := putCs_len (vs.take i) (fun v hv => hc v (List.mem_of_mem_take hv)) ⟨[], [], []⟩
      rw [List.length_take] at hP
      refine TA.tuple (names := ["letter", "numbers"]) rfl rfl rfl (by rfl) ?_
      have hm1 : storesOf m' ((["letter", "numbers"] : List Str).zip [.str [c], .tup gs]) = ([("commands", .lst vs), ("writer", .obj a), ("letter", .str [c]), ("numbers", .tup gs)] : Loc) := by
        rcases hm with rfl | ⟨u, v, rfl⟩ <;> rfl
      rw [hm1]
      refine TS.expr (by intros; rfl) (by intros; rfl) ?_
      refine TE.method (by intros; rfl) rfl ?_
      refine TE.local rfl rfl ?_
      refine ⟨_, GM.inst ea rfl rfl rfl rfl rfl, ?_⟩
      refine TEs.L rfl rfl rfl ?_
      refine TEs.L1 rfl rfl rfl ?_
      refine (wr_put h0 (by simp at hP; omega) c1 c2).useEq ?_
      with_reducible refine TS.nil ?_
      refine ⟨.inr ⟨_, _, rfl⟩, hlt, ?_⟩
      rw [List.take_add_one, hi]
      show _ = wr σ a pa d (putCs (vs.take i ++ [cmdV c gs]) ⟨[], [], []⟩)
      rw [putCs_app]; rfl
    · rintro m' σ' ⟨hm, _, rfl⟩
      rw [List.take_length]
      have g1 : getV m' "writer" = some (.obj a) := by rcases hm with rfl | ⟨u, v, rfl⟩ <;> rfl
      with_reducible refine TS.ret ?_
      refine TE.method (by intros; rfl) rfl ?_
      refine TE.str lit9 ?_
      refine ⟨_, GM.join, ?_⟩
      refine TEs.cons' rfl ?_
      refine TE.attr (by intros; rfl) (by intros; rfl) ?_
      refine TE.local g1 rfl ?_
      refine TO.getInst ea rfl rfl rfl rfl rfl ?_
      with_reducible refine TEs.nil ?_
      refine TO.joinCell wr_p (by rw [sum_len]; simp only [sizeLine_eq]; omega) ?_
      rw [joinL_nil]
      refine ⟨σ, ?_, rfl, rfl⟩
      rw [upd_ne _ _ h0] at hpa
      intro b x e
      have h1 : b ≠ pa := by rintro rfl; rw [hpa] at e; cases e
      have h2 : b ≠ a := by rintro rfl; rw [ha] at e; cases e
      unfold wr; rw [upd_ne _ _ h1, upd_ne _ _ h2]; exact e
end
section
variable {W : Wd Mine.hd.heap_39} {k : Nat} {σ : Store} {E : Int → Store → Prop}
noncomputable def so (x y : Int) : Cell := .list [.int x, .int y]
noncomputable def soOk (x y : Int) : Prop := 0 ≤ x ∧ 0 ≤ y ∧ y < 2147483647
theorem fmod_lt (a : Int) {b : Int} (hb : 0 < b) : 0 ≤ a.fmod b ∧ a.fmod b < b := ⟨Int.fmod_nonneg_of_pos a hb, Int.fmod_lt_of_pos a hb⟩
theorem law_pool_ok {ns : List Int} (hn : ns.length ≤ 63) {Q : V → Store → Prop} (q : ∀ a x y, σ a = none → soOk x y → Q (.obj a) (upd σ a (so x y))) : CO W (k+1) 375 [.lst (ns.map .int), .int 0] σ Q E := by
  refine' CO.def (ns := ["script", "k"]) ?ho ?hcd ?hb ?hl ?hn ?hc ?h1 ?h2 ?h3 ?h
  case ho => exact rfl
  case hcd => exact rfl
  case hb => first | exact fun s vals X r => binds2 (fun a b => BindsTo.of_eq rfl) r | exact fun s vals X r => binds2 (fun a b => binds_K X rfl rfl rfl rfl rfl) r
  case hl => rfl
  case hn => decide
  case hc => rfl
  case h1 => rfl
  case h2 => rfl
  case h3 => rfl
  case h =>
    have hl : (ns.map V.int).length = ns.length := List.length_map _
    with_reducible refine TS.cons ?_
    refine T1.assign (by intros; rfl) rfl ?_
    with_reducible refine TE.int ?_
    refine TS.cons (T1.cut (fun m' σ' => ∃ cell : Int, m' = ([("script", .lst (ns.map .int)), ("k", .int 0), ("cell", .int cell)] : Loc) ∧ σ' = σ) ?_ ?_)
    · with_reducible refine T1.if ?_
      refine TB.cmpL rfl rfl rfl ?_
      (refine' TE.callBL1 ?zze ?zzv ?zzn ?zzx ?zzc rfl rfl rfl ?_ ?zzd; (case zze => rfl); (case zzv => boot_fast); (case zzn => decide); (case zzx => rfl); (case zzc => exact .builtin _); (case zzd => decide))
      refine TO.lenLst (by rw [hl]; simp only [sizeLine_eq]; omega) ?_
      with_reducible refine TO.ltI ?_
      refine testB (fun h => ?_) (fun h => ?_)
      · have h' : 0 < ns.length := by simpa using h
        refine TS.assign (by intros; rfl) rfl ?_
        refine TE.itemL (by intros; rfl) rfl rfl ?_
        refine TE.local rfl rfl ?_
        refine ⟨trivial, TO.itemLst (x := .int ns[0]) (by decide) (by decide) (by simp [h']) ?_⟩
        with_reducible refine TS.nil ?_
        exact ⟨_, rfl, rfl⟩
      · with_reducible refine TS.nil ?_
        exact ⟨_, rfl, rfl⟩
    rintro m' σ' ⟨cell, rfl, rfl⟩
    refine TS.assign (by intros; rfl) rfl ?_
    (refine' TE.callB ?zze ?zzv ?zzn ?zzx ?zzc rfl ?_ ?zzd; (case zze => rfl); (case zzv => boot_fast); (case zzn => decide); (case zzx => rfl); (case zzc => exact .builtin _); (case zzd => decide))
    refine TEs.cons' rfl ?_
    (refine' TE.callBL1 ?zze ?zzv ?zzn ?zzx ?zzc rfl rfl rfl ?_ ?zzd; (case zze => rfl); (case zzv => boot_fast); (case zzn => decide); (case zzx => rfl); (case zzc => exact .type _); (case zzd => decide))
    with_reducible refine TO.intI ?_
    refine TEs.cons' rfl ?_
    (refine' TE.callB ?zze ?zzv ?zzn ?zzx ?zzc rfl ?_ ?zzd; (case zze => rfl); (case zzv => boot_fast); (case zzn => decide); (case zzx => rfl); (case zzc => exact .type _); (case zzd => decide))
    refine TEs.cons' rfl ?_
    with_reducible refine TE.binop ?_
    with_reducible refine TE.unary ?_
    with_reducible refine TE.int ?_
    with_reducible refine TO.neg ?_
    refine TE.local rfl rfl ?_
    with_reducible refine TO.sub ?_
    with_reducible refine TEs.nil ?_
    with_reducible refine TO.intI ?_
    with_reducible refine TEs.nil ?_
    refine TO.max rfl ?_
    generalize hb : (if (-1 - cell) > cell then (-1 - cell) else cell) = big
    have hb0 : 0 ≤ big := by rw [← hb]; split <;> omega
    refine TS.assign (by intros; rfl) rfl ?_
    with_reducible refine TE.binop ?_
    (refine' TE.callB ?zze ?zzv ?zzn ?zzx ?zzc rfl ?_ ?zzd; (case zze => rfl); (case zzv => boot_fast); (case zzn => decide); (case zzx => rfl); (case zzc => exact .type _); (case zzd => decide))
    refine TEs.cons' rfl ?_
    with_reducible refine TE.binop ?_
    with_reducible refine TE.binop ?_
    with_reducible refine TE.binop ?_
    with_reducible refine TE.binop ?_
    with_reducible refine TE.binop ?_
    (refine' TE.callBL1 ?zze ?zzv ?zzn ?zzx ?zzc rfl rfl rfl ?_ ?zzd; (case zze => rfl); (case zzv => boot_fast); (case zzn => decide); (case zzx => rfl); (case zzc => exact .type _); (case zzd => decide))
    with_reducible refine TO.intI ?_
    with_reducible refine TE.int ?_
    refine TO.fmod (by decide) ?_
    with_reducible refine TE.binop ?_
    with_reducible refine TE.binop ?_
    with_reducible refine TE.int ?_
    refine TE.local rfl rfl ?_
    refine TO.mul (mulOk_right (by decide)) ?_
    refine TE.local rfl rfl ?_
    refine TO.mul (mulOk_right (by decide)) ?_
    with_reducible refine TO.add ?_
    with_reducible refine TE.binop ?_
    with_reducible refine TE.int ?_
    refine TE.local rfl rfl ?_
    refine TO.mul (mulOk_right (by decide)) ?_
    with_reducible refine TO.add ?_
    with_reducible refine TE.int ?_
    with_reducible refine TO.add ?_
    with_reducible refine TE.int ?_
    refine TO.mul (mulOk_right (by decide)) ?_
    with_reducible refine TEs.nil ?_
    with_reducible refine TO.intI ?_
    with_reducible refine TE.int ?_
    refine TO.fmod (by decide) ?_
    with_reducible refine TS.ret ?_
    generalize ((big.fmod 2147483629 + 7919 * 0 * 0 + 31 * 0 + 17) * 48271) = mz
    have hmx1 := fmod_lt (b := 2147483647) mz (by decide)
    refine TE.listC ?_
    refine TEs.cons' rfl ?_
    refine TE.binL rfl rfl ?_
    (refine' TE.callB ?zze ?zzv ?zzn ?zzx ?zzc rfl ?_ ?zzd; (case zze => rfl); (case zzv => boot_fast); (case zzn => decide); (case zzx => rfl); (case zzc => exact .type _); (case zzd => decide))
    refine TEs.cons' rfl ?_
    refine TE.compare rfl ?_
    refine TE.local rfl rfl ?_
    with_reducible refine TE.binop ?_
    with_reducible refine TE.int ?_
    with_reducible refine TE.int ?_
    refine TO.pow (by decide) (by decide) (by decide) ?_
    with_reducible refine TO.geI ?_
    with_reducible refine TEs.nil ?_
    with_reducible refine TO.intB ?_
    have hbit : 0 ≤ (if decide (big ≥ 10 ^ Int.toNat 18) = true then (1 : Int) else 0) ∧ (if decide (big ≥ 10 ^ Int.toNat 18) = true then (1 : Int) else 0) ≤ 1 := by split <;> omega
    generalize (if decide (big ≥ 10 ^ Int.toNat 18) = true then (1 : Int) else 0) = bit at hbit ⊢
    refine TO.mul (mulOk_right (by omega)) ?_
    refine TEs.L1 rfl rfl rfl ?_
    refine ⟨by simp [sizeLine_eq], fun a ha => ?_⟩
    exact .here (q a _ _ ha ⟨Int.mul_nonneg hb0 (by omega), hmx1.1, hmx1.2⟩)
theorem law_take_ok {a : Nat} {x y : Int} {top : Nat} {Q : V → Store → Prop} (hs : soOk x y) (h0 : 0 < top) (h1 : top ≤ 1000) (q : ∀ i x' y', i < top → soOk x' y' → Q (.int (i : Nat)) (upd σ a (so x' y'))) : CO W (k+1) 382 [.obj a, .int top] (upd σ a (so x y)) Q E := by
  refine' CO.def (ns := ["source", "top"]) ?ho ?hcd ?hb ?hl ?hn ?hc ?h1 ?h2 ?h3 ?h
  case ho => exact rfl
  case hcd => exact rfl
  case hb => first | exact fun s vals X r => binds2 (fun a b => BindsTo.of_eq rfl) r | exact fun s vals X r => binds2 (fun a b => binds_K X rfl rfl rfl rfl rfl) r
  case hl => rfl
  case hn => decide
  case hc => rfl
  case h1 => rfl
  case h2 => rfl
  case h3 => rfl
  case h =>
    obtain ⟨hx, hy, hy'⟩ := hs
    have ht : ((top : Nat) : Int) ≠ 0 := by omega
    have htl : ((top : Nat) : Int).natAbs.log2 < 9000 := log_small (by omega)
    with_reducible refine TS.if ?_
    refine TB.compare rfl ?_
    refine TE.itemLI (by intros; rfl) rfl rfl ?_
    refine ⟨⟨_, upd_self _ _ _⟩, TO.itemCell (upd_self _ _ _) (by decide) (by decide) rfl ?_⟩
    with_reducible refine TE.int ?_
    with_reducible refine TO.gtI ?_
    refine testB (fun h => ?_) (fun h => ?_)
    · have hx' : 0 < x := by simpa using h
      refine TS.assign (by intros; rfl) rfl ?_
      with_reducible refine TE.binop ?_
      (refine' TE.callB ?zze ?zzv ?zzn ?zzx ?zzc rfl ?_ ?zzd; (case zze => rfl); (case zzv => boot_fast); (case zzn => decide); (case zzx => rfl); (case zzc => exact .type _); (case zzd => decide))
      refine TEs.cons' rfl ?_
      refine TE.itemLI (by intros; rfl) rfl rfl ?_
      refine ⟨⟨_, upd_self _ _ _⟩, TO.itemCell (upd_self _ _ _) (by decide) (by decide) rfl ?_⟩
      with_reducible refine TEs.nil ?_
      with_reducible refine TO.intI ?_
      refine TE.local rfl rfl ?_
      refine TO.fmod ht ?_
      with_reducible refine TS.cons ?_
      refine T1.assignItem (by intros; rfl) ?_
      with_reducible refine TE.binop ?_
      refine TE.itemLI (by intros; rfl) rfl rfl ?_
      refine ⟨⟨_, upd_self _ _ _⟩, TO.itemCell (upd_self _ _ _) (by decide) (by decide) rfl ?_⟩
      refine TE.local rfl rfl ?_
      refine TO.fdiv ht htl ?_
      refine TE.local rfl rfl ?_
      with_reducible refine TE.int ?_
      refine ⟨a, _, 0, rfl, upd_self _ _ _, rfl, Nat.zero_lt_succ _, by decide, ?_⟩
      rw [upd_upd]
      with_reducible refine TS.ret ?_
      refine TE.local rfl rfl ?_
      have h3 := fmod_lt x (b := (top : Int)) (by omega)
      have h4 : 0 ≤ x.fdiv top := Int.fdiv_nonneg (by omega) (by omega)
      have h5 : x.fmod top = (((x.fmod top).toNat : Nat) : Int) := by omega
      rw [h5]
      exact .here (q _ _ _ (by omega) ⟨h4, hy, hy'⟩)
    · with_reducible refine TS.nil ?_
      with_reducible refine TS.cons ?_
      refine T1.assignItem (by intros; rfl) ?_
      with_reducible refine TE.binop ?_
      (refine' TE.callB ?zze ?zzv ?zzn ?zzx ?zzc rfl ?_ ?zzd; (case zze => rfl); (case zzv => boot_fast); (case zzn => decide); (case zzx => rfl); (case zzc => exact .type _); (case zzd => decide))
      refine TEs.cons' rfl ?_
      with_reducible refine TE.binop ?_
      with_reducible refine TE.binop ?_
      refine TE.itemLI (by intros; rfl) rfl rfl ?_
      refine ⟨⟨_, upd_self _ _ _⟩, TO.itemCell (upd_self _ _ _) (by decide) (by decide) rfl ?_⟩
      with_reducible refine TE.int ?_
      refine TO.mul (mulOk_right (by decide)) ?_
      with_reducible refine TE.int ?_
      with_reducible refine TO.add ?_
      with_reducible refine TEs.nil ?_
      with_reducible refine TO.intI ?_
      with_reducible refine TE.int ?_
      refine TO.fmod (by decide) ?_
      refine TE.local rfl rfl ?_
      with_reducible refine TE.int ?_
      refine ⟨a, _, 1, rfl, upd_self _ _ _, rfl, Nat.lt_succ_self _, by decide, ?_⟩
      rw [upd_upd]
      have h3 := fmod_lt (y * 39373 + 7) (b := 2147483647) (by decide)
      generalize (y * 39373 + 7).fmod 2147483647 = y2 at h3
      with_reducible refine TS.ret ?_
      with_reducible refine TE.binop ?_
      (refine' TE.callB ?zze ?zzv ?zzn ?zzx ?zzc rfl ?_ ?zzd; (case zze => rfl); (case zzv => boot_fast); (case zzn => decide); (case zzx => rfl); (case zzc => exact .type _); (case zzd => decide))
      refine TEs.cons' rfl ?_
      with_reducible refine TE.binop ?_
      with_reducible refine TE.binop ?_
      (refine' TE.callB ?zze ?zzv ?zzn ?zzx ?zzc rfl ?_ ?zzd; (case zze => rfl); (case zzv => boot_fast); (case zzn => decide); (case zzx => rfl); (case zzc => exact .type _); (case zzd => decide))
      refine TEs.cons' rfl ?_
      with_reducible refine TE.binop ?_
      refine TE.itemLI (by intros; rfl) rfl rfl ?_
      refine ⟨⟨_, upd_self _ _ _⟩, TO.itemCell (upd_self _ _ _) (by decide) (by decide) rfl ?_⟩
      refine TE.itemLI (by intros; rfl) rfl rfl ?_
      refine ⟨⟨_, upd_self _ _ _⟩, TO.itemCell (upd_self _ _ _) (by decide) (by decide) rfl ?_⟩
      refine TO.mul (mulOk_right (by omega)) ?_
      with_reducible refine TEs.nil ?_
      with_reducible refine TO.intI ?_
      with_reducible refine TE.int ?_
      refine TO.fmod (by decide) ?_
      with_reducible refine TE.int ?_
      refine TO.fdiv (by decide) (by decide) ?_
      with_reducible refine TEs.nil ?_
      with_reducible refine TO.intI ?_
      refine TE.local rfl rfl ?_
      refine TO.fmod ht ?_
      generalize Int.fdiv _ 32 = z
      have h6 := fmod_lt z (b := (top : Int)) (by omega)
      have h5 : z.fmod top = (((z.fmod top).toNat : Nat) : Int) := by omega
      rw [h5]
      exact .here (q _ _ _ (by omega) ⟨hx, h3.1, h3.2⟩)
end
section
variable {W : Wd Mine.hd.heap_39} {k : Nat} {σ : Store} {E : Int → Store → Prop}
theorem law_one_ok {a : Nat} {x y : Int} {vs : List V} {Q : V → Store → Prop} (hs : soOk x y) (h0 : 0 < vs.length) (h1 : vs.length ≤ 1000) (q : ∀ v x' y', v ∈ vs → soOk x' y' → Q v (upd σ a (so x' y'))) : CO W (k+2) 389 [.obj a, .lst vs] (upd σ a (so x y)) Q E := by
  refine' CO.def (ns := ["source", "things"]) ?ho ?hcd ?hb ?hl ?hn ?hc ?h1 ?h2 ?h3 ?h
  case ho => exact rfl
  case hcd => exact rfl
  case hb => first | exact fun s vals X r => binds2 (fun a b => BindsTo.of_eq rfl) r | exact fun s vals X r => binds2 (fun a b => binds_K X rfl rfl rfl rfl rfl) r
  case hl => rfl
  case hn => decide
  case hc => rfl
  case h1 => rfl
  case h2 => rfl
  case h3 => rfl
  case h =>
    with_reducible refine TS.ret ?_
    refine TE.itemL (by intros; rfl) rfl rfl ?_
    refine TE.callL rfl rfl rfl rfl rfl rfl ?_
    refine TEs.cons' rfl ?_
    (refine' TE.callBL1 ?zze ?zzv ?zzn ?zzx ?zzc rfl rfl rfl ?_ ?zzd; (case zze => rfl); (case zzv => boot_fast); (case zzn => decide); (case zzx => rfl); (case zzc => exact .builtin _); (case zzd => decide))
    refine TO.lenLst (by simp only [sizeLine_eq]; omega) ?_
    with_reducible refine TEs.nil ?_
    refine (law_take_ok hs h0 h1 ?_).to
    intro i x' y' hi hs'
    refine ⟨trivial, TO.itemLst (x := vs[i]) (by omega) (by omega) (by simp [hi]) ?_⟩
    exact .here (q _ _ _ (List.getElem_mem _) hs')
theorem law_pointed_ok {top : Int} {pl : Nat} (ht : top.natAbs < 10 ^ 20) (hp : pl ≤ 3) (hl : (digs (absF top)).length ≤ 30) : CO W (k+1) 396 [.int top, .int pl] σ (fun v σ' => v = .str (pointedF top pl) ∧ σ' = σ) E := by
  refine' CO.def (ns := ["top", "places"]) ?ho ?hcd ?hb ?hl ?hn ?hc ?h1 ?h2 ?h3 ?h
  case ho => exact rfl
  case hcd => exact rfl
  case hb => first | exact fun s vals X r => binds2 (fun a b => BindsTo.of_eq rfl) r | exact fun s vals X r => binds2 (fun a b => binds_K X rfl rfl rfl rfl rfl) r
  case hl => rfl
  case hn => decide
  case hc => rfl
  case h1 => rfl
  case h2 => rfl
  case h3 => rfl
  case h =>
    have ha : (absF top).natAbs < 10 ^ 20 := by unfold absF; split <;> omega
    refine TS.cons (T1.cut (fun m' σ' => m' = ([("top", .int top), ("places", .int pl), ("size", .str (digs (absF top)))] : Loc) ∧ σ' = σ) ?_ ?_)
    · refine T1.assign (by intros; rfl) rfl ?_
      (refine' TE.callB ?zze ?zzv ?zzn ?zzx ?zzc rfl ?_ ?zzd; (case zze => rfl); (case zzv => boot_fast); (case zzn => decide); (case zzx => rfl); (case zzc => exact .type _); (case zzd => decide))
      refine TEs.cons' rfl ?_
      with_reducible refine TE.ifexp ?_
      refine TB.cmpLI rfl rfl rfl ?_
      with_reducible refine TO.geI ?_
      refine testB (fun h => ?_) (fun h => ?_)
      · have h' : top ≥ 0 := by simpa using h
        have e : absF top = top := if_pos h'
        refine TE.local rfl rfl ?_
        with_reducible refine TEs.nil ?_
        refine TO.strI rfl (small4300 ht) ?_
        rw [e]
        exact ⟨rfl, rfl⟩
      · have h' : ¬ top ≥ 0 := by simpa using h
        have e : absF top = 0 - top := if_neg h'
        with_reducible refine TE.binop ?_
        with_reducible refine TE.int ?_
        refine TE.local rfl rfl ?_
        with_reducible refine TO.sub ?_
        with_reducible refine TEs.nil ?_
        rw [← e]
        refine TO.strI rfl (small4300 ha) ?_
        exact ⟨rfl, rfl⟩
    rintro m' σ' ⟨rfl, rfl⟩
    refine TS.assign (by intros; rfl) rfl ?_
    with_reducible refine TE.binop ?_
    with_reducible refine TE.binop ?_
    refine TE.str lit18 ?_
    with_reducible refine TE.binop ?_
    refine TE.binLI rfl rfl ?_
    with_reducible refine TO.add ?_
    (refine' TE.callBL1 ?zze ?zzv ?zzn ?zzx ?zzc rfl rfl rfl ?_ ?zzd; (case zze => rfl); (case zzv => boot_fast); (case zzn => decide); (case zzx => rfl); (case zzc => exact .builtin _); (case zzd => decide))
    have hz : ∀ {n : Nat}, n ≤ 1000 → n ≤ sizeLine := fun h => by simp only [sizeLine_eq]; omega
    refine TO.lenS (hz (by omega)) ?_
    with_reducible refine TO.sub ?_
    refine TO.mulS (by omega) (by omega) ?_
    have e1 : ((pl : Int) + 1 - ((digs (absF top)).length : Int)).toNat = pl + 1 - (digs (absF top)).length := by omega
    rw [e1]
    refine TE.local rfl rfl ?_
    refine TO.cat (hz (by simp only [List.length_replicate]; omega)) ?_
    have e2 : List.replicate (pl + 1 - (digs (absF top)).length) 48 ++ digs (absF top) = sizeF top pl := rfl
    rw [e2]
    have e3 : pl + 1 ≤ (sizeF top pl).length ∧ (sizeF top pl).length ≤ 40 := by
      unfold sizeF; simp only [List.length_append, List.length_replicate]; omega
    refine TS.assign (by intros; rfl) rfl ?_
    with_reducible refine TE.binop ?_
    (refine' TE.callBL1 ?zze ?zzv ?zzn ?zzx ?zzc rfl rfl rfl ?_ ?zzd; (case zze => rfl); (case zzv => boot_fast); (case zzn => decide); (case zzx => rfl); (case zzc => exact .builtin _); (case zzd => decide))
    refine TO.lenS (hz (by omega)) ?_
    refine TE.local rfl rfl ?_
    with_reducible refine TO.sub ?_
    with_reducible refine TS.ret ?_
    with_reducible refine TE.binop ?_
    with_reducible refine TE.binop ?_
    with_reducible refine TE.binop ?_
    with_reducible refine TE.ifexp ?_
    refine TB.cmpLI rfl rfl rfl ?_
    with_reducible refine TO.ltI ?_
    have e4 : ((sizeF top pl).length : Int) - (pl : Int) = (((sizeF top pl).length - pl : Nat) : Int) := by omega
    rw [e4]
    refine testB (fun h => ?_) (fun h => ?_)
    · have hneg : top < 0 := by simpa using h
      refine TE.str lit10 ?_
      with_reducible refine TE.slice ?_
      refine TE.local rfl rfl ?_
      with_reducible refine TP.none ?_
      with_reducible refine TP.some ?_
      refine TE.local rfl rfl ?_
      refine ⟨_, rfl, _, rfl, hz (by omega), ?_⟩
      rw [cut_to]
      refine TO.cat (hz (by simp only [List.length_take, List.length_cons, List.length_nil]; omega)) ?_
      refine TE.str lit17 ?_
      refine TO.cat (hz (by simp only [List.length_take, List.length_append, List.length_cons, List.length_nil]; omega)) ?_
      with_reducible refine TE.slice ?_
      refine TE.local rfl rfl ?_
      with_reducible refine TP.some ?_
      refine TE.local rfl rfl ?_
      refine ⟨_, rfl, ?_⟩
      with_reducible refine TP.none ?_
      refine ⟨_, rfl, hz (by omega), ?_⟩
      rw [cut_from]
      refine TO.cat (hz (by simp only [List.length_take, List.length_drop, List.length_append, List.length_cons, List.length_nil]; omega)) ?_
      refine .here ⟨?_, rfl⟩
      unfold pointedF; rw [if_pos hneg]
    · have hneg : ¬ top < 0 := by simpa using h
      refine TE.str lit9 ?_
      with_reducible refine TE.slice ?_
      refine TE.local rfl rfl ?_
      with_reducible refine TP.none ?_
      with_reducible refine TP.some ?_
      refine TE.local rfl rfl ?_
      refine ⟨_, rfl, _, rfl, hz (by omega), ?_⟩
      rw [cut_to]
      refine TO.cat (hz (by simp only [List.length_take, List.length_cons, List.length_nil]; omega)) ?_
      refine TE.str lit17 ?_
      refine TO.cat (hz (by simp only [List.length_take, List.length_append, List.length_cons, List.length_nil]; omega)) ?_
      with_reducible refine TE.slice ?_
      refine TE.local rfl rfl ?_
      with_reducible refine TP.some ?_
      refine TE.local rfl rfl ?_
      refine ⟨_, rfl, ?_⟩
      with_reducible refine TP.none ?_
      refine ⟨_, rfl, hz (by omega), ?_⟩
      rw [cut_from]
      refine TO.cat (hz (by simp only [List.length_take, List.length_drop, List.length_append, List.length_cons, List.length_nil]; omega)) ?_
      refine .here ⟨?_, rfl⟩
      unfold pointedF; rw [if_neg hneg]
end
section
variable {W : Wd Mine.hd.heap_39} {k : Nat} {σ : Store} {E : Int → Store → Prop}
theorem tops_small {top : Int} (h : top ∈ tops) : top.natAbs ≤ 70000 ∧ (digs top).length ≤ 10 ∧ (digs (absF top)).length ≤ 10 := by
  have : ∀ t ∈ tops, t.natAbs ≤ 70000 ∧ (digs t).length ≤ 10 ∧ (digs (absF t)).length ≤ 10 := by decide +kernel
  exact this top h
inductive Nu1 (σ : Store) (a : Nat) (m' : Loc) (σ' : Store) : Prop
  | mk (top : Int) (pl : Nat) (x y : Int) : top ∈ tops → pl < 4 → soOk x y → m' = ([("source", .obj a), ("places", .int pl), ("top", .int top)] : Loc) → σ' = upd σ a (so x y) → Nu1 σ a m' σ'
inductive Nu2 (σ : Store) (a : Nat) (top : Int) (pl : Nat) (x1 y1 s f : Int) (m' : Loc) (σ' : Store) : Prop
  | mk : m' = ([("source", .obj a), ("places", .int pl), ("top", .int top), ("bottom", .int (10 ^ pl : Nat)), ("second", .int s), ("first", .int f)] : Loc) → σ' = upd σ a (so x1 y1) → Nu2 σ a top pl x1 y1 s f m' σ'
inductive Nu3 (σ : Store) (a : Nat) (top : Int) (pl : Nat) (x1 y1 : Int) (n : Nat) (m' : Loc) (σ' : Store) : Prop
  | mk (u v : Nat) : m' = ([("source", .obj a), ("places", .int pl), ("top", .int top), ("bottom", .int (10 ^ pl : Nat)), ("second", .int v), ("first", .int u)] : Loc) → σ' = upd σ a (so x1 y1) → Nat.gcd u v = gcdF top pl → n = v → Nu3 σ a top pl x1 y1 n m' σ'
inductive Nu4 (σ : Store) (a : Nat) (top : Int) (pl : Nat) (ts : List (List Nat)) (m' : Loc) (σ' : Store) : Prop
  | mk (t1 : List Nat) (x2 y2 : Int) : t1 ∈ ts → soOk x2 y2 → m' = ([("source", .obj a), ("places", .int pl), ("top", .int top), ("bottom", .int (10 ^ pl : Nat)), ("second", .int 0), ("first", .int (gcdF top pl : Nat)), ("told", .str t1)] : Loc) → σ' = upd σ a (so x2 y2) → Nu4 σ a top pl ts m' σ'
theorem law_number_ok {a : Nat} {x y : Int} {Q : V → Store → Prop} (hs : soOk x y) (q : ∀ (top : Int) (pl : Nat) (told : List Nat) (x' y' : Int), top ∈ tops → pl < 4 → told ∈ toldF top pl → soOk x' y' → Q (.tup [.tup [.int (numPF top pl), .int (numQF top pl)], .str told]) (upd σ a (so x' y'))) : CO W (k+3) 403 [.obj a] (upd σ a (so x y)) Q E := by
  refine' CO.def (ns := ["source"]) ?ho ?hcd ?hb ?hl ?hn ?hc ?h1 ?h2 ?h3 ?h
  case ho => exact rfl
  case hcd => exact rfl
  case hb => first | exact fun s vals X r => binds1 (fun a => BindsTo.of_eq rfl) r | exact fun s vals X r => binds1 (fun a => binds_K X rfl rfl rfl rfl rfl) r
  case hl => rfl
  case hn => decide
  case hc => rfl
  case h1 => rfl
  case h2 => rfl
  case h3 => rfl
  case h =>
    refine TS.cons (T1.cut (Nu1 σ a) ?_ ?_)
    · refine T1.assignTup (names := ["top", "places"]) rfl (by intros; rfl) (by intros; with_unfolding_all rfl) (by rfl) ?_
      with_reducible refine TE.tuple ?_
      refine TEs.cons' rfl ?_
      refine TE.callL rfl rfl rfl rfl rfl rfl ?_
      refine TEs.cons' rfl ?_
      refine TE.listF ?_
      refine TEs.I rfl ?_
      refine TEs.I rfl ?_
      refine TEs.cons' rfl ?_
      with_reducible refine TE.unary ?_
      with_reducible refine TE.int ?_
      with_reducible refine TO.neg ?_
      refine TEs.I rfl ?_
      refine TEs.cons' rfl ?_
      with_reducible refine TE.unary ?_
      with_reducible refine TE.int ?_
      with_reducible refine TO.neg ?_
      refine TEs.I rfl ?_
      refine TEs.I rfl ?_
      refine TEs.cons' rfl ?_
      with_reducible refine TE.unary ?_
      with_reducible refine TE.int ?_
      with_reducible refine TO.neg ?_
      refine TEs.I1 rfl ?_
      refine ⟨by simp [sizeLine_eq], ?_⟩
      with_reducible refine TEs.nil ?_
      refine (law_one_ok (k := k) hs (by simp) (by simp) ?_).to
      intro v x' y' hv hs'
      have hv' : ∃ top ∈ tops, v = .int top := by
        simp only [List.mem_cons, List.not_mem_nil, or_false] at hv
        rcases hv with rfl | rfl | rfl | rfl | rfl | rfl | rfl | rfl | rfl <;> exact ⟨_, by decide, rfl⟩
      obtain ⟨top, ht, rfl⟩ := hv'
      refine TEs.cons' rfl ?_
      refine TE.callL rfl rfl rfl rfl rfl rfl ?_
      refine TEs.I1 rfl ?_
      refine (law_take_ok (k := k + 1) (top := 4) hs' (by omega) (by omega) ?_).to
      intro i x2 y2 hi hs2
      with_reducible refine TEs.nil ?_
      refine ⟨by simp [sizeLine_eq], _, rfl, rfl, ?_⟩
      exact ⟨top, i, x2, y2, ht, hi, hs2, rfl, rfl⟩
    rintro m' σ' ⟨top, pl, x1, y1, ht, hp, hs1, rfl, rfl⟩
    obtain ⟨ht1, ht2, ht3⟩ := tops_small ht
    have hb : (10 : Int) ^ (pl : Int).toNat = ((10 ^ pl : Nat) : Int) := by rw [Int.toNat_natCast]; exact (Int.natCast_pow 10 pl).symm
    have hb0 : 0 < 10 ^ pl := Nat.pow_pos (by decide)
    have hb1 : 10 ^ pl ≤ 1000 := by
      have : pl = 0 ∨ pl = 1 ∨ pl = 2 ∨ pl = 3 := by omega
      rcases this with rfl | rfl | rfl | rfl <;> decide
    refine TS.assign (by intros; rfl) rfl ?_
    with_reducible refine TE.binop ?_
    with_reducible refine TE.int ?_
    refine TE.local rfl rfl ?_
    refine TO.pow (by omega) (by omega) (by decide) ?_
    rw [hb]
    with_reducible refine TS.cons ?_
    refine T1.cut (Nu2 σ a top pl x1 y1 (10 ^ pl : Nat) top.natAbs) ?_ ?_
    · refine T1.assignTup (names := ["first", "second"]) rfl (by intros; rfl) (by intros; with_unfolding_all rfl) (by rfl) ?_
      with_reducible refine TE.tuple ?_
      refine TEs.cons' rfl ?_
      with_reducible refine TE.ifexp ?_
      refine TB.cmpLI rfl rfl rfl ?_
      with_reducible refine TO.gtI ?_
      refine testB (fun h => ?_) (fun h => ?_)
      · have h' : 0 < top := by simpa using h
        refine TE.local rfl rfl ?_
        refine TEs.L1 rfl rfl rfl ?_
        refine ⟨by simp [sizeLine_eq], _, rfl, rfl, ?_⟩
        have e1 : top = (top.natAbs : Int) := by omega
        rw [← e1]
        exact ⟨rfl, rfl⟩
      · have h' : ¬ 0 < top := by simpa using h
        with_reducible refine TE.binop ?_
        with_reducible refine TE.int ?_
        refine TE.local rfl rfl ?_
        with_reducible refine TO.sub ?_
        refine TEs.L1 rfl rfl rfl ?_
        refine ⟨by simp [sizeLine_eq], _, rfl, rfl, ?_⟩
        have e1 : 0 - top = (top.natAbs : Int) := by omega
        rw [e1]
        exact ⟨rfl, rfl⟩
    rintro m' σ' ⟨rfl, rfl⟩
    have hg0 : 0 < gcdF top pl := Nat.gcd_pos_of_pos_right _ hb0
    refine TS.cons (T1.cut (Nu2 σ a top pl x1 y1 0 (gcdF top pl : Nat)) ?_ ?_)
    · refine T1.while (10 ^ pl) (Nu3 σ a top pl x1 y1) ⟨top.natAbs, 10 ^ pl, rfl, rfl, rfl, rfl⟩ ?_
      rintro n m' σ' ⟨u, v, rfl, rfl, hg, rfl⟩
      refine TB.cmpLI rfl rfl rfl ?_
      with_reducible refine TO.gtI ?_
      refine testB (fun h => ?_) (fun h => ?_)
      · have hy : 0 < n := by simpa using h
        with_reducible refine TS.cons ?_
        refine T1.assignTup (names := ["first", "second"]) rfl (by intros; rfl) (by intros; with_unfolding_all rfl) (by rfl) ?_
        with_reducible refine TE.tuple ?_
        refine TEs.L rfl rfl rfl ?_
        refine TEs.cons' rfl ?_
        refine TE.binLL rfl rfl rfl rfl ?_
        refine TO.fmod (by omega) ?_
        with_reducible refine TEs.nil ?_
        refine ⟨by simp [sizeLine_eq], _, rfl, rfl, ?_⟩
        with_reducible refine TS.nil ?_
        refine ⟨u % n, Nat.mod_lt _ hy, n, u % n, ?_, rfl, ?_, rfl⟩
        · rw [fmodN]; rfl
        · rw [← hg, Nat.gcd_comm n, ← Nat.gcd_rec, Nat.gcd_comm]
      · have hy : n = 0 := by simpa using h
        subst hy
        rw [Nat.gcd_zero_right] at hg
        subst hg
        exact ⟨rfl, rfl⟩
    rintro m' σ' ⟨rfl, rfl⟩
    have hz : ∀ {n : Nat}, n ≤ 1000 → n ≤ sizeLine := fun h => by simp only [sizeLine_eq]; omega
    have hdp : (digs (pl : Int)).length ≤ 10 := by
      have : pl = 0 ∨ pl = 1 ∨ pl = 2 ∨ pl = 3 := by omega
      rcases this with rfl | rfl | rfl | rfl <;> decide +kernel
    refine TS.cons (T1.cut (Nu4 σ a top pl [digs top ++ [101, 45] ++ digs pl, pointedF top pl]) ?_ ?_)
    · refine T1.assign (by intros; rfl) rfl ?_
      refine TE.callL rfl rfl rfl rfl rfl rfl ?_
      refine TEs.cons' rfl ?_
      refine TE.listF ?_
      refine TEs.cons' rfl ?_
      with_reducible refine TE.binop ?_
      with_reducible refine TE.binop ?_
      (refine' TE.callBL1 ?zze ?zzv ?zzn ?zzx ?zzc rfl rfl rfl ?_ ?zzd; (case zze => rfl); (case zzv => boot_fast); (case zzn => decide); (case zzx => rfl); (case zzc => exact .type _); (case zzd => decide))
      refine TO.strI rfl (small4300 (by omega)) ?_
      refine TE.str lit57 ?_
      refine TO.cat (hz (by simp only [List.length_cons, List.length_nil]; omega)) ?_
      (refine' TE.callBL1 ?zze ?zzv ?zzn ?zzx ?zzc rfl rfl rfl ?_ ?zzd; (case zze => rfl); (case zzv => boot_fast); (case zzn => decide); (case zzx => rfl); (case zzc => exact .type _); (case zzd => decide))
      refine TO.strI rfl (small4300 (by omega)) ?_
      refine TO.cat (hz (by simp only [List.length_append, List.length_cons, List.length_nil]; omega)) ?_
      refine TEs.cons' rfl ?_
      refine TE.callL rfl rfl rfl rfl rfl rfl ?_
      refine TEs.L1 rfl rfl rfl ?_
      refine (law_pointed_ok (k := k + 1) (by omega) (by omega) (by omega)).useEq ?_
      with_reducible refine TEs.nil ?_
      refine ⟨by simp [sizeLine_eq], ?_⟩
      with_reducible refine TEs.nil ?_
      refine (law_one_ok (k := k) hs1 (by simp) (by simp) ?_).to
      intro v x2 y2 hv hs2
      simp only [List.mem_cons, List.not_mem_nil, or_false] at hv
      rcases hv with rfl | rfl
      · exact ⟨_, x2, y2, .head _, hs2, rfl, rfl⟩
      · exact ⟨_, x2, y2, .tail _ (.head _), hs2, rfl, rfl⟩
    rintro m' σ' ⟨t1, x2, y2, ht1', hs2, rfl, rfl⟩
    refine TS.cons (T1.cut (Nu4 σ a top pl (toldF top pl)) ?_ ?_)
    · with_reducible refine T1.if ?_
      refine TB.cmpLI rfl rfl rfl ?_
      with_reducible refine TO.eqI ?_
      refine testB (fun h => ?_) (fun h => ?_)
      · have hp0 : pl = 0 := by simpa using h
        refine TS.assign (by intros; rfl) rfl ?_
        refine TE.callL rfl rfl rfl rfl rfl rfl ?_
        refine TEs.cons' rfl ?_
        with_reducible refine TE.ifexp ?_
        refine TB.cmpLI rfl rfl rfl ?_
        with_reducible refine TO.geI ?_
        refine testB (fun h => ?_) (fun h => ?_)
        · have h' : top ≥ 0 := by simpa using h
          refine TE.listF ?_
          refine TEs.cons' rfl ?_
          (refine' TE.callBL1 ?zze ?zzv ?zzn ?zzx ?zzc rfl rfl rfl ?_ ?zzd; (case zze => rfl); (case zzv => boot_fast); (case zzn => decide); (case zzx => rfl); (case zzc => exact .type _); (case zzd => decide))
          refine TO.strI rfl (small4300 (by omega)) ?_
          refine TEs.cons' rfl ?_
          with_reducible refine TE.binop ?_
          refine TE.str lit36 ?_
          (refine' TE.callBL1 ?zze ?zzv ?zzn ?zzx ?zzc rfl rfl rfl ?_ ?zzd; (case zze => rfl); (case zzv => boot_fast); (case zzn => decide); (case zzx => rfl); (case zzc => exact .type _); (case zzd => decide))
          refine TO.strI rfl (small4300 (by omega)) ?_
          refine TO.cat (hz (by simp only [List.length_cons, List.length_nil]; omega)) ?_
          refine TEs.cons' rfl ?_
          with_reducible refine TE.binop ?_
          refine TE.str lit18 ?_
          (refine' TE.callBL1 ?zze ?zzv ?zzn ?zzx ?zzc rfl rfl rfl ?_ ?zzd; (case zze => rfl); (case zzv => boot_fast); (case zzn => decide); (case zzx => rfl); (case zzc => exact .type _); (case zzd => decide))
          refine TO.strI rfl (small4300 (by omega)) ?_
          refine TO.cat (hz (by simp only [List.length_cons, List.length_nil]; omega)) ?_
          with_reducible refine TEs.nil ?_
          refine ⟨by simp [sizeLine_eq], ?_⟩
          with_reducible refine TEs.nil ?_
          refine (law_one_ok (k := k) hs2 (by simp) (by simp) ?_).to
          intro v x3 y3 hv hs3
          have : ∃ t ∈ toldF top pl, v = .str t := by
            unfold toldF; rw [if_pos hp0, if_pos h']
            simp only [List.mem_cons, List.not_mem_nil, or_false] at hv
            rcases hv with rfl | rfl | rfl <;> exact ⟨_, by simp, rfl⟩
          obtain ⟨t, ht, rfl⟩ := this
          with_reducible refine TS.nil ?_
          exact ⟨t, x3, y3, ht, hs3, rfl, rfl⟩
        · have h' : ¬ top ≥ 0 := by simpa using h
          refine TE.listF ?_
          refine TEs.cons' rfl ?_
          (refine' TE.callBL1 ?zze ?zzv ?zzn ?zzx ?zzc rfl rfl rfl ?_ ?zzd; (case zze => rfl); (case zzv => boot_fast); (case zzn => decide); (case zzx => rfl); (case zzc => exact .type _); (case zzd => decide))
          refine TO.strI rfl (small4300 (by omega)) ?_
          refine TEs.cons' rfl ?_
          with_reducible refine TE.binop ?_
          (refine' TE.callBL1 ?zze ?zzv ?zzn ?zzx ?zzc rfl rfl rfl ?_ ?zzd; (case zze => rfl); (case zzv => boot_fast); (case zzn => decide); (case zzx => rfl); (case zzc => exact .type _); (case zzd => decide))
          refine TO.strI rfl (small4300 (by omega)) ?_
          refine TE.str lit60 ?_
          refine TO.cat (hz (by simp only [List.length_cons, List.length_nil]; omega)) ?_
          with_reducible refine TEs.nil ?_
          refine ⟨by simp [sizeLine_eq], ?_⟩
          with_reducible refine TEs.nil ?_
          refine (law_one_ok (k := k) hs2 (by simp) (by simp) ?_).to
          intro v x3 y3 hv hs3
          have : ∃ t ∈ toldF top pl, v = .str t := by
            unfold toldF; rw [if_pos hp0, if_neg h']
            simp only [List.mem_cons, List.not_mem_nil, or_false] at hv
            rcases hv with rfl | rfl <;> exact ⟨_, by simp, rfl⟩
          obtain ⟨t, ht, rfl⟩ := this
          with_reducible refine TS.nil ?_
          exact ⟨t, x3, y3, ht, hs3, rfl, rfl⟩
      · have hp0 : ¬ pl = 0 := by simpa using h
        with_reducible refine TS.nil ?_
        refine ⟨t1, x2, y2, ?_, hs2, rfl, rfl⟩
        unfold toldF; rw [if_neg hp0]; exact ht1'
    rintro m' σ' ⟨t2, x3, y3, ht2', hs3, rfl, rfl⟩
    have hgl : ((gcdF top pl : Nat) : Int).natAbs.log2 < 9000 := log_small (by
      have : gcdF top pl ≤ 10 ^ pl := Nat.gcd_le_right _ hb0
      omega)
    with_reducible refine TS.ret ?_
    with_reducible refine TE.tuple ?_
    refine TEs.cons' rfl ?_
    with_reducible refine TE.tuple ?_
    refine TEs.cons' rfl ?_
    refine TE.binLL rfl rfl rfl rfl ?_
    refine TO.fdiv (by omega) hgl ?_
    refine TEs.cons' rfl ?_
    refine TE.binLL rfl rfl rfl rfl ?_
    refine TO.fdiv (by omega) hgl ?_
    with_reducible refine TEs.nil ?_
    refine ⟨by simp [sizeLine_eq], ?_⟩
    refine TEs.L1 rfl rfl rfl ?_
    refine ⟨by simp [sizeLine_eq], ?_⟩
    rw [fdivN]
    exact .here (q top pl t2 x3 y3 ht hp ht2' hs3)
end
section
variable {W : Wd Mine.hd.heap_39} {k : Nat} {σ : Store} {E : Int → Store → Prop}
theorem law_many_ok {c : Nat} (hc : c ∈ Le) : CO W (k+1) 410 [.str [c]] σ (fun v σ' => v = .int (manyF c) ∧ σ' = σ) E := by
  refine' CO.def (ns := ["letter"]) ?ho ?hcd ?hb ?hl ?hn ?hc ?h1 ?h2 ?h3 ?h
  case ho => exact rfl
  case hcd => exact rfl
  case hb => first | exact fun s vals X r => binds1 (fun a => BindsTo.of_eq rfl) r | exact fun s vals X r => binds1 (fun a => binds_K X rfl rfl rfl rfl rfl) r
  case hl => rfl
  case hn => decide
  case hc => rfl
  case h1 => rfl
  case h2 => rfl
  case h3 => rfl
  case h =>
    with_reducible refine TS.cons ?_
    with_reducible refine T1.ret ?_
    with_reducible refine' TE.dictItem (D := manyD) (x := [c].map up1) (v := .int (manyF c)) ?hD ?h0 ?hl ?nd ?hs ?hh ?hv ?q
    case hv => exact manyD_get hc
    case hD =>
      refine Eq.trans (b := some manyD0) ?_ (congrArg some manyD_eq)
      exact dInt (dInt (dInt (dInt (dInt (dInt (dInt (dInt (dInt (dInt rfl)))))))))
    case h0 => decide
    case hl => decide
    case nd => decide
    case hs => intros; rfl
    case hh => refine TEp.upper (by intros; rfl) (by intro d hd; simp at hd; rw [hd]; exact Le_small hc) (by rw [List.length_singleton]; omega) (TEp.local rfl rfl)
    case q => exact .here ⟨rfl, rfl⟩
inductive Drawn (arc : Bool) : Nat → V → List Nat → Prop
  | flag {i : Nat} (b : Nat) : b < 2 → flagAt arc i = true → Drawn arc i (.int b) [48 + b]
  | num {i : Nat} {top : Int} {pl : Nat} {told : List Nat} : flagAt arc i = false → top ∈ tops → pl < 4 → told ∈ toldF top pl → Drawn arc i (.tup [.int (numPF top pl), .int (numQF top pl)]) told
inductive DrawnAll (arc : Bool) : Nat → List V → List (List Nat) → Prop
  | nil {i : Nat} : DrawnAll arc i [] []
  | snoc {i : Nat} {v : V} {t : List Nat} {vs : List V} {ts : List (List Nat)} : DrawnAll arc i vs ts → Drawn arc (i + vs.length) v t → DrawnAll arc i (vs ++ [v]) (ts ++ [t])
inductive Co1 (σ : Store) (a c i : Nat) (m' : Loc) (σ' : Store) : Prop
  | mk (gs : List V) (ts : List (List Nat)) (x y : Int) : soOk x y → DrawnAll (arcF c) 0 gs ts → gs.length = i → ts.length = i → i ≤ manyF c → σ' = upd σ a (so x y) → LS [("source", .obj a), ("letter", .str [c]), ("texts", .lst (ts.map .str)), ("numbers", .lst gs)] m' → Co1 σ a c i m' σ'
theorem law_command_ok {a c : Nat} {x y : Int} {Q : V → Store → Prop} (hs : soOk x y) (hc : c ∈ Le) (q : ∀ gs ts x' y', DrawnAll (arcF c) 0 gs ts → gs.length = manyF c → soOk x' y' → Q (.lst [cmdV c gs, .lst (ts.map .str)]) (upd σ a (so x' y'))) : CO W (k+4) 417 [.obj a, .str [c]] (upd σ a (so x y)) Q E := by
  refine' CO.def (ns := ["source", "letter"]) ?ho ?hcd ?hb ?hl ?hn ?hc ?h1 ?h2 ?h3 ?h
  case ho => exact rfl
  case hcd => exact rfl
  case hb => first | exact fun s vals X r => binds2 (fun a b => BindsTo.of_eq rfl) r | exact fun s vals X r => binds2 (fun a b => binds_K X rfl rfl rfl rfl rfl) r
  case hl => rfl
  case hn => decide
  case hc => rfl
  case h1 => rfl
  case h2 => rfl
  case h3 => rfl
  case h =>
    have hm7 := arc_many hc
    have hz : ∀ {n : Nat}, n ≤ 1000 → n ≤ sizeLine := fun h => by simp only [sizeLine_eq]; omega
    refine TS.cons (T1.cut (fun m' σ' => m' = ([("source", .obj a), ("letter", .str [c]), ("texts", .lst []), ("numbers", .lst [])] : Loc) ∧ σ' = upd σ a (so x y)) ?_ ?_)
    · refine T1.assignTup (names := ["numbers", "texts"]) rfl (by intros; rfl) (by intros; with_unfolding_all rfl) (by rfl) ?_
      with_reducible refine TE.tuple ?_
      refine TEs.cons' rfl ?_
      refine TE.listF ?_
      with_reducible refine TEs.nil ?_
      refine ⟨by simp [sizeLine_eq], ?_⟩
      refine TEs.cons' rfl ?_
      refine TE.listF ?_
      with_reducible refine TEs.nil ?_
      refine ⟨by simp [sizeLine_eq], ?_⟩
      with_reducible refine TEs.nil ?_
      exact ⟨by simp [sizeLine_eq], _, rfl, rfl, rfl, rfl⟩
    rintro m' σ' ⟨rfl, rfl⟩
    with_reducible refine TS.cons ?_
    refine T1.for rfl (by intros; rfl) ?_
    (refine' TE.callB ?zze ?zzv ?zzn ?zzx ?zzc rfl ?_ ?zzd; (case zze => rfl); (case zzv => boot_fast); (case zzn => decide); (case zzx => rfl); (case zzc => exact .type _); (case zzd => decide))
    refine TEs.cons' rfl ?_
    refine TE.callL1 rfl rfl rfl rfl rfl rfl ?_
    refine (law_many_ok hc).useEq ?_
    with_reducible refine TEs.nil ?_
    refine TO.range ?_
    refine ⟨_, Co1 σ a c, .rng _ (by omega), ⟨[], [], x, y, hs, .nil, rfl, rfl, Nat.zero_le _, rfl, .refl⟩, ?_, ?_⟩
    · rintro i v m' σ' hi ⟨gs, ts, x1, y1, hs1, hd, hgl, htl, hil, rfl, hls⟩
      have hv : v = .int i ∧ i < manyF c := by
        rw [List.getElem?_map] at hi
        obtain ⟨j, hj, rfl⟩ := Option.map_eq_some_iff.mp hi
        have h1 := List.getElem?_eq_some_iff.mp hj
        obtain ⟨h2, h3⟩ := h1
        rw [List.getElem_range] at h3
        rw [List.length_range] at h2
        subst h3
        exact ⟨rfl, h2⟩
      obtain ⟨rfl, hlt⟩ := hv
      refine TA.name rfl ?_
      refine TS.less (hls.set "place" (.int i)) ?_
      with_reducible refine TS.if ?_
      with_reducible refine TB.boolop ?_
      with_reducible refine TAll.andCons ?_
      refine TB.cmpLS rfl rfl rfl lit43 ?_
      with_reducible refine TO.inS ?_
      refine testB (fun h => ?_) (fun h => ?_)
      · have ha : arcF c = true := h
        with_reducible refine TAll.andCons ?_
        refine TB.cmpL rfl rfl rfl ?_
        refine TE.listF ?_
        refine TEs.I rfl ?_
        refine TEs.I1 rfl ?_
        refine ⟨by simp [sizeLine_eq], TO.inIntsL rfl ?_⟩
        have hin : ([.int 3, .int 4] : List V).any (intIs i) = (decide (i = 3) || decide (i = 4)) := by
          have h1 : ((3 : Int) == (i : Int)) = decide (i = 3) := by rw [Bool.eq_iff_iff]; simp; omega
          have h2 : ((4 : Int) == (i : Int)) = decide (i = 4) := by rw [Bool.eq_iff_iff]; simp; omega
          show ((3 : Int) == (i : Int) || ((4 : Int) == (i : Int) || false)) = _
          rw [h1, h2, Bool.or_false]
        rw [hin]
        refine testB (fun h => ?_) (fun h => ?_)
        · have hf2 : flagAt (arcF c) i = true := by unfold flagAt; rw [ha, h]; rfl
          with_reducible refine TAll.andNil ?_
          refine ⟨fun _ => ?_, fun h => (nomatch h)⟩
          refine TS.assign (by intros; rfl) rfl ?_
          refine TE.callL rfl rfl rfl rfl rfl rfl ?_
          refine TEs.I1 rfl ?_
          refine (law_take_ok (k := k + 2) (top := 2) hs1 (by omega) (by omega) ?_).to
          intro b x2 y2 hb hs2
          with_reducible refine TS.cons ?_
          refine T1.assignTup (names := ["numbers", "texts"]) rfl (by intros; rfl) (by intros; with_unfolding_all rfl) (by rfl) ?_
          with_reducible refine TE.tuple ?_
          refine TEs.cons' rfl ?_
          refine TE.binL rfl rfl ?_
          refine TE.listF ?_
          refine TEs.L1 rfl rfl rfl ?_
          refine ⟨by simp [sizeLine_eq], TO.addLst (hz (by simp only [List.length_cons, List.length_nil]; omega)) ?_⟩
          refine TEs.cons' rfl ?_
          refine TE.binL rfl rfl ?_
          refine TE.listF ?_
          refine TEs.cons' rfl ?_
          (refine' TE.callBL1 ?zze ?zzv ?zzn ?zzx ?zzc rfl rfl rfl ?_ ?zzd; (case zze => rfl); (case zzv => boot_fast); (case zzn => decide); (case zzx => rfl); (case zzc => exact .type _); (case zzd => decide))
          refine TO.strI rfl (small4300 (by omega)) ?_
          with_reducible refine TEs.nil ?_
          refine ⟨by simp [sizeLine_eq], TO.addLst (hz (by simp only [List.length_map, List.length_cons, List.length_nil]; omega)) ?_⟩
          with_reducible refine TEs.nil ?_
          refine ⟨by simp [sizeLine_eq], _, rfl, rfl, ?_⟩
          rw [digs_bit hb]
          with_reducible refine TS.nil ?_
          with_reducible refine TS.nil ?_
          refine ⟨gs ++ [.int b], ts ++ [[48 + b]], x2, y2, hs2, hd.snoc ?_, by rw [List.length_append, hgl]; rfl, by rw [List.length_append, htl]; rfl, hlt, rfl, LS.cons rfl (LS.cons rfl (LS.cons ?_ (LS.cons rfl LS.nil)))⟩
          · rw [hgl, Nat.zero_add]; exact .flag b hb hf2
          · rw [List.map_append]; rfl
        · have hf2 : flagAt (arcF c) i = false := by unfold flagAt; rw [ha, h]; rfl
          refine ⟨fun h => (nomatch h), fun _ => ?_⟩
          with_reducible refine TS.cons ?_
          refine T1.assignT (by intros; rfl) (by intros; rfl) ?_
          refine TE.callL1 rfl rfl rfl rfl rfl rfl ?_
          refine (law_number_ok (k := k) hs1 ?_).to
          intro top pl told x2 y2 h1 h2 h3 hs2
          refine TA.tuple (names := ["number", "told"]) rfl rfl rfl (by rfl) ?_
          with_reducible refine TS.cons ?_
          refine T1.assignTup (names := ["numbers", "texts"]) rfl (by intros; rfl) (by intros; with_unfolding_all rfl) (by rfl) ?_
          with_reducible refine TE.tuple ?_
          refine TEs.cons' rfl ?_
          refine TE.binL rfl rfl ?_
          refine TE.listF ?_
          refine TEs.L1 rfl rfl rfl ?_
          refine ⟨by simp [sizeLine_eq], TO.addLst (hz (by simp only [List.length_cons, List.length_nil]; omega)) ?_⟩
          refine TEs.cons' rfl ?_
          refine TE.binL rfl rfl ?_
          refine TE.listF ?_
          refine TEs.L1 rfl rfl rfl ?_
          refine ⟨by simp [sizeLine_eq], TO.addLst (hz (by simp only [List.length_map, List.length_cons, List.length_nil]; omega)) ?_⟩
          with_reducible refine TEs.nil ?_
          refine ⟨by simp [sizeLine_eq], _, rfl, rfl, ?_⟩
          with_reducible refine TS.nil ?_
          with_reducible refine TS.nil ?_
          refine ⟨gs ++ [.tup [.int (numPF top pl), .int (numQF top pl)]], ts ++ [told], x2, y2, hs2, hd.snoc ?_, by rw [List.length_append, hgl]; rfl, by rw [List.length_append, htl]; rfl, hlt, rfl, LS.cons rfl (LS.cons rfl (LS.cons ?_ (LS.cons rfl LS.nil)))⟩
          · rw [hgl, Nat.zero_add]; exact .num hf2 h1 h2 h3
          · rw [List.map_append]; rfl
      · have ha : arcF c = false := h
        have hf2 : flagAt (arcF c) i = false := by unfold flagAt; rw [ha]; rfl
        refine ⟨fun h => (nomatch h), fun _ => ?_⟩
        with_reducible refine TS.cons ?_
        refine T1.assignT (by intros; rfl) (by intros; rfl) ?_
        refine TE.callL1 rfl rfl rfl rfl rfl rfl ?_
        refine (law_number_ok (k := k) hs1 ?_).to
        intro top pl told x2 y2 h1 h2 h3 hs2
        refine TA.tuple (names := ["number", "told"]) rfl rfl rfl (by rfl) ?_
        with_reducible refine TS.cons ?_
        refine T1.assignTup (names := ["numbers", "texts"]) rfl (by intros; rfl) (by intros; with_unfolding_all rfl) (by rfl) ?_
        with_reducible refine TE.tuple ?_
        refine TEs.cons' rfl ?_
        refine TE.binL rfl rfl ?_
        refine TE.listF ?_
        refine TEs.L1 rfl rfl rfl ?_
        refine ⟨by simp [sizeLine_eq], TO.addLst (hz (by simp only [List.length_cons, List.length_nil]; omega)) ?_⟩
        refine TEs.cons' rfl ?_
        refine TE.binL rfl rfl ?_
        refine TE.listF ?_
        refine TEs.L1 rfl rfl rfl ?_
        refine ⟨by simp [sizeLine_eq], TO.addLst (hz (by simp only [List.length_map, List.length_cons, List.length_nil]; omega)) ?_⟩
        with_reducible refine TEs.nil ?_
        refine ⟨by simp [sizeLine_eq], _, rfl, rfl, ?_⟩
        with_reducible refine TS.nil ?_
        with_reducible refine TS.nil ?_
        refine ⟨gs ++ [.tup [.int (numPF top pl), .int (numQF top pl)]], ts ++ [told], x2, y2, hs2, hd.snoc ?_, by rw [List.length_append, hgl]; rfl, by rw [List.length_append, htl]; rfl, hlt, rfl, LS.cons rfl (LS.cons rfl (LS.cons ?_ (LS.cons rfl LS.nil)))⟩
        · rw [hgl, Nat.zero_add]; exact .num hf2 h1 h2 h3
        · rw [List.map_append]; rfl
    · rintro m' σ' ⟨gs, ts, x1, y1, hs1, hd, hgl, htl, hil, rfl, hls⟩
      refine TS.less hls ?_
      rw [List.length_map, List.length_range] at hgl
      with_reducible refine TS.ret ?_
      refine TE.listF ?_
      refine TEs.cons' rfl ?_
      with_reducible refine TE.tuple ?_
      refine TEs.L rfl rfl rfl ?_
      refine TEs.cons' rfl ?_
      (refine' TE.callBL1 ?zze ?zzv ?zzn ?zzx ?zzc rfl rfl rfl ?_ ?zzd; (case zze => rfl); (case zzv => boot_fast); (case zzn => decide); (case zzx => rfl); (case zzc => exact .type _); (case zzd => decide))
      refine TO.tupOfLst (hz (by omega)) ?_
      with_reducible refine TEs.nil ?_
      refine ⟨by simp [sizeLine_eq], ?_⟩
      refine TEs.L1 rfl rfl rfl ?_
      refine ⟨by simp [sizeLine_eq], ?_⟩
      exact .here (q gs ts x1 y1 hd hgl hs1)
end
section
variable {W : Wd Mine.hd.heap_39} {k : Nat} {σ : Store} {E : Int → Store → Prop}
structure Dr where
  c : Nat
  gs : List V
  ts : List (List Nat)
noncomputable def Dr.v (d : Dr) : V := .lst [cmdV d.c d.gs, .lst (d.ts.map .str)]
noncomputable def Dr.cmd (d : Dr) : V := cmdV d.c d.gs
noncomputable def Dr.ok (d : Dr) : Prop := d.c ∈ Le ∧ DrawnAll (arcF d.c) 0 d.gs d.ts ∧ d.gs.length = manyF d.c
noncomputable def drOk (ds : List Dr) : Prop := (∀ d ∈ ds, d.ok) ∧ ds.length ≤ 4 ∧ ∃ d rest, ds = d :: rest ∧ d.c ∈ [77, 109]
theorem sub_cell {σ : Store} {a f : Nat} {x c : Cell} (hf : σ f = none) (hfa : f ≠ a) : Sub (upd σ a x) (del (upd (upd σ f c) a x) f) := by
  intro b d hb
  by_cases h1 : b = f
  · subst h1
    rw [upd_ne _ _ hfa, hf] at hb; cases hb
  · rw [del_ne _ h1]
    by_cases h2 : b = a
    · subst h2; rw [upd_self] at hb ⊢; exact hb
    · rw [upd_ne _ _ h2] at hb ⊢
      rw [upd_ne _ _ h1]; exact hb
inductive Dn1 (σ : Store) (a f n : Nat) (v : V) (i : Nat) (m' : Loc) (σ' : Store) : Prop
  | mk (ds : List Dr) (x y : Int) : soOk x y → (∀ d ∈ ds, d.ok) → ds.length = i → i ≤ n → σ' = upd (upd σ f (.list (v :: ds.map Dr.v))) a (so x y) → LS [("source", .obj a), ("found", .obj f)] m' → Dn1 σ a f n v i m' σ'
theorem law_drawn_ok {a : Nat} {x y : Int} {Q : V → Store → Prop} (hs : soOk x y) (q : ∀ ds x' y', drOk ds → soOk x' y' → Q (.lst (ds.map Dr.v)) (upd σ a (so x' y'))) : CO W (k+5) 424 [.obj a] (upd σ a (so x y)) Q E := by
  refine' CO.def (ns := ["source"]) ?ho ?hcd ?hb ?hl ?hn ?hc ?h1 ?h2 ?h3 ?h
  case ho => exact rfl
  case hcd => exact rfl
  case hb => first | exact fun s vals X r => binds1 (fun a => BindsTo.of_eq rfl) r | exact fun s vals X r => binds1 (fun a => binds_K X rfl rfl rfl rfl rfl) r
  case hl => rfl
  case hn => decide
  case hc => rfl
  case h1 => rfl
  case h2 => rfl
  case h3 => rfl
  case h =>
    have hz : ∀ {n : Nat}, n ≤ 1000 → n ≤ sizeLine := fun h => by simp only [sizeLine_eq]; omega
    refine TS.assign (by intros; rfl) rfl ?_
    refine TE.listC ?_
    refine TEs.cons' rfl ?_
    refine TE.callL rfl rfl rfl rfl rfl rfl ?_
    refine TEs.cons' rfl ?_
    refine TE.callL rfl rfl rfl rfl rfl rfl ?_
    refine TEs.cons' rfl ?_
    refine TE.listF ?_
    refine TEs.S rfl lit20 ?_
    refine TEs.S1 rfl lit41 ?_
    refine ⟨by simp [sizeLine_eq], ?_⟩
    with_reducible refine TEs.nil ?_
    refine (law_one_ok (k := k + 2) hs (by simp) (by simp) ?_).to
    intro v x1 y1 hv hs1
    have hv' : ∃ c ∈ [77, 109], v = .str [c] := by
      simp only [List.mem_cons, List.not_mem_nil, or_false] at hv
      rcases hv with rfl | rfl <;> exact ⟨_, by decide, rfl⟩
    obtain ⟨c, hcm, rfl⟩ := hv'
    have hcL : c ∈ Le := by
      simp only [List.mem_cons, List.not_mem_nil, or_false] at hcm
      rcases hcm with rfl | rfl <;> decide
    with_reducible refine TEs.nil ?_
    refine (law_command_ok (k := k) hs1 hcL ?_).to
    intro gs ts x2 y2 hd hgl hs2
    with_reducible refine TEs.nil ?_
    refine ⟨by simp [sizeLine_eq], fun f hf => ?_⟩
    have hfa : f ≠ a := by rintro rfl; rw [upd_self] at hf; cases hf
    rw [upd_ne _ _ hfa] at hf
    rw [← upd_comm σ _ _ hfa]
    have hd0 : (Dr.mk c gs ts).ok := ⟨hcL, hd, hgl⟩
    with_reducible refine TS.cons ?_
    refine T1.for rfl (by intros; rfl) ?_
    (refine' TE.callB ?zze ?zzv ?zzn ?zzx ?zzc rfl ?_ ?zzd; (case zze => rfl); (case zzv => boot_fast); (case zzn => decide); (case zzx => rfl); (case zzc => exact .type _); (case zzd => decide))
    refine TEs.cons' rfl ?_
    refine TE.callL rfl rfl rfl rfl rfl rfl ?_
    refine TEs.I1 rfl ?_
    refine (law_take_ok (k := k + 3) (top := 4) hs2 (by omega) (by omega) ?_).to
    intro n x3 y3 hn hs3
    with_reducible refine TEs.nil ?_
    refine TO.range ?_
    refine ⟨_, Dn1 σ a f n (Dr.v ⟨c, gs, ts⟩), .rng _ (by omega), ⟨[], x3, y3, hs3, by simp, rfl, Nat.zero_le _, rfl, .refl⟩, ?_, ?_⟩
    · rintro i v m' σ' hi ⟨ds, x4, y4, hs4, hds, hdl, hil, rfl, hls⟩
      have hv : v = .int i ∧ i < n := by
        rw [List.getElem?_map] at hi
        obtain ⟨j, hj, rfl⟩ := Option.map_eq_some_iff.mp hi
        have h1 := List.getElem?_eq_some_iff.mp hj
        obtain ⟨h2, h3⟩ := h1
        rw [List.getElem_range] at h3
        rw [List.length_range] at h2
        subst h3
        exact ⟨rfl, h2⟩
      obtain ⟨rfl, hlt⟩ := hv
      refine TA.name rfl ?_
      refine TS.less (hls.set "turn" (.int i)) ?_
      refine TS.expr (by intros; rfl) (by intros; rfl) ?_
      refine TE.method (by intros; rfl) rfl ?_
      refine TE.local rfl rfl ?_
      refine ⟨_, GM.append (by rw [upd_ne _ _ hfa]; exact upd_self _ _ _), ?_⟩
      refine TEs.cons' rfl ?_
      refine TE.callL rfl rfl rfl rfl rfl rfl ?_
      refine TEs.cons' rfl ?_
      refine TE.callL rfl rfl rfl rfl rfl rfl ?_
      refine TEs.cons' rfl ?_
      (refine' TE.callB ?zze ?zzv ?zzn ?zzx ?zzc rfl ?_ ?zzd; (case zze => rfl); (case zzv => boot_fast); (case zzn => decide); (case zzx => rfl); (case zzc => exact .type _); (case zzd => decide))
      refine TEs.S1 rfl lit61 ?_
      refine TO.listStr rfl (by simp [sizeLine_eq]) ?_
      with_reducible refine TEs.nil ?_
      refine (law_one_ok (k := k + 2) hs4 (by simp) (by simp) ?_).to
      intro v x5 y5 hv hs5
      have hv' : ∃ c ∈ Le, v = .str [c] := by
        obtain ⟨c, hc, rfl⟩ := List.mem_map.mp hv
        refine ⟨c, ?_, rfl⟩
        have : ∀ c ∈ [76, 108, 76, 108, 72, 104, 86, 118, 67, 99, 83, 115, 81, 113, 84, 116, 65, 97, 90, 122, 77, 109], c ∈ Le := by decide
        exact this c hc
      obtain ⟨c', hcL', rfl⟩ := hv'
      with_reducible refine TEs.nil ?_
      refine (law_command_ok (k := k) hs5 hcL' ?_).to
      intro gs' ts' x6 y6 hd' hgl' hs6
      with_reducible refine TEs.nil ?_
      refine TO.append (by rw [upd_ne _ _ hfa]; exact upd_self _ _ _) (hz (by simp only [List.length_cons, List.length_map]; omega)) ?_
      rw [upd_comm (upd σ f _) _ _ (Ne.symm hfa), upd_upd]
      with_reducible refine TS.nil ?_
      refine ⟨ds ++ [⟨c', gs', ts'⟩], x6, y6, hs6, ?_, by rw [List.length_append, hdl]; rfl, hlt, ?_, LS.cons rfl (LS.cons rfl LS.nil)⟩
      · intro d hd
        rcases List.mem_append.mp hd with h | h
        · exact hds d h
        · rw [List.mem_singleton] at h; subst h; exact ⟨hcL', hd', hgl'⟩
      · rw [List.map_append]; rfl
    · rintro m' σ' ⟨ds, x4, y4, hs4, hds, hdl, hil, rfl, hls⟩
      refine TS.less hls ?_
      rw [List.length_map, List.length_range] at hdl
      with_reducible refine TS.cons ?_
      with_reducible refine T1.ret ?_
      refine TE.freeze ?_
      refine TE.local rfl rfl ?_
      refine ⟨f, _, rfl, by rw [upd_ne _ _ hfa]; exact upd_self _ _ _, upd σ a (so x4 y4), sub_cell hf hfa, ?_⟩
      refine q (⟨c, gs, ts⟩ :: ds) x4 y4 ⟨?_, by simp only [List.length_cons]; omega, ⟨c, gs, ts⟩, ds, rfl, hcm⟩ hs4
      intro d hd
      rcases List.mem_cons.mp hd with rfl | h
      · exact hd0
      · exact hds d h
end
section
variable {W : Wd Mine.hd.heap_39} {k : Nat} {σ : Store} {E : Int → Store → Prop}
noncomputable def betweens : List (List Nat) := [[32], [44], [32, 44, 32], [9]]
inductive Piece (la : List Nat) (d : Dr) : List Nat → Prop
  | told {b x y e : List Nat} : b ∈ betweens → x ∈ [[], [32]] → y ∈ [[], [32]] → e ∈ [[], [10]] → Piece la d (x ++ [d.c] ++ y ++ joinL b d.ts ++ e)
  | quiet {b e : List Nat} : [d.c] = la → d.c ∉ [77, 109, 90, 122] → b ∈ betweens → e ∈ [[], [10]] → Piece la d (b ++ joinL b d.ts ++ e)
inductive Loose : List Dr → List Nat → List Nat → Prop
  | nil {w : List Nat} : w ∈ [[], [32], [10]] → Loose [] [] w
  | snoc {ds : List Dr} {la t p : List Nat} {d : Dr} : Loose ds la t → Piece la d p → Loose (ds ++ [d]) [behF d.c] (t ++ p)
theorem Drawn.len {arc : Bool} {i : Nat} {v : V} {t : List Nat} (h : Drawn arc i v t) : t.length ≤ 12 := by
  cases h with
  | flag b _ _ => simp
  | num _ h1 h2 h3 =>
    have : ∀ top ∈ tops, ∀ pl < 4, ∀ told ∈ toldF top pl, told.length ≤ 12 := by decide +kernel
    exact this _ h1 _ h2 _ h3
theorem DrawnAll.len {arc : Bool} {i : Nat} {vs : List V} {ts : List (List Nat)} (h : DrawnAll arc i vs ts) : ts.length = vs.length ∧ ∀ t ∈ ts, t.length ≤ 12 := by
  induction h with
  | nil => exact ⟨rfl, by simp⟩
  | snoc _ h2 ih =>
    refine ⟨by rw [List.length_append, List.length_append, ih.1]; rfl, fun t ht => ?_⟩
    rcases List.mem_append.mp ht with h | h
    · exact ih.2 t h
    · rw [List.mem_singleton] at h; subst h; exact h2.len
theorem sum_le {l : List (List Nat)} {n k : Nat} (h : ∀ t ∈ l, t.length ≤ n) : (l.map fun t => t.length + k).sum ≤ l.length * (n + k) := by
  induction l with
  | nil => simp
  | cons a l ih =>
    have h1 := h a (by simp)
    have h2 := ih fun t ht => h t (by simp [ht])
    rw [List.map_cons, List.sum_cons, List.length_cons, Nat.add_mul]
    omega
theorem joinL_len {b : List Nat} : ∀ (l : List (List Nat)), (joinL b l).length ≤ (l.map fun t => t.length + b.length).sum
  | [] => by simp [joinL]
  | [x] => by simp [joinL]
  | x :: y :: r => by
    have := joinL_len (b := b) (y :: r)
    simp only [joinL, List.length_append, List.map_cons, List.sum_cons] at this ⊢
    omega
theorem Dr.ok.many {d : Dr} (h : d.ok) : d.ts.length ≤ 7 ∧ ∀ t ∈ d.ts, t.length ≤ 12 := by
  obtain ⟨h1, h2, h3⟩ := h
  have h4 := h2.len
  have h5 : ∀ c ∈ Le, manyF c ≤ 7 := by decide
  have := h5 _ h1
  exact ⟨by omega, h4.2⟩
theorem Dr.ok.join {d : Dr} (h : d.ok) {b : List Nat} (hb : b.length ≤ 3) : (d.ts.map fun t => t.length + b.length).sum ≤ 105 := by
  have h1 := h.many
  have h2 := sum_le (k := b.length) h1.2
  have h3 : d.ts.length * (12 + b.length) ≤ 7 * 15 := Nat.mul_le_mul h1.1 (by omega)
  omega
theorem betweens_len {b : List Nat} (h : b ∈ betweens) : b.length ≤ 3 := by
  have : ∀ b ∈ betweens, b.length ≤ 3 := by decide
  exact this b h
theorem strs_mem {v : V} {l : List (List Nat)} (h : v ∈ l.map V.str) : ∃ b ∈ l, v = .str b := by
  obtain ⟨b, hb, rfl⟩ := List.mem_map.mp h
  exact ⟨b, hb, rfl⟩
theorem behD_get {c : Nat} : (getV behD (S [c])).getD (V.str [c]) = V.str [behF c] := by
  unfold behF behD
  by_cases h1 : c = 77
  · subst h1; rfl
  by_cases h2 : c = 109
  · subst h2; rfl
  rw [if_neg h1, if_neg h2]
  have e1 : S [c] ≠ S [77] := fun h => h1 (by simpa [S] using h)
  have e2 : S [c] ≠ S [109] := fun h => h2 (by simpa [S] using h)
  simp [getV, e1.symm, e2.symm]
inductive Lo1 (σ : Store) (a : Nat) (ds : List Dr) (m' : Loc) (σ' : Store) : Prop
  | mk (w : List Nat) (x y : Int) : w ∈ [[], [32], [10]] → soOk x y → m' = ([("source", .obj a), ("drawn", .lst (ds.map Dr.v)), ("last", .str []), ("text", .str w)] : Loc) → σ' = upd σ a (so x y) → Lo1 σ a ds m' σ'
inductive Lo2 (σ : Store) (a : Nat) (ds : List Dr) (i : Nat) (m' : Loc) (σ' : Store) : Prop
  | mk (la t : List Nat) (x y : Int) : soOk x y → Loose (ds.take i) la t → t.length ≤ 1 + 200 * i → i ≤ ds.length → σ' = upd σ a (so x y) → LS [("source", .obj a), ("drawn", .lst (ds.map Dr.v)), ("last", .str la), ("text", .str t)] m' → Lo2 σ a ds i m' σ'
inductive Lo3 (σ : Store) (a : Nat) (ds : List Dr) (la t b : List Nat) (d : Dr) (m' : Loc) (σ' : Store) : Prop
  | mk (p : List Nat) (x y : Int) : soOk x y → (∀ e ∈ [[], [10]], Piece la d (p ++ joinL b d.ts ++ e)) → p.length ≤ 5 → m' = ([("source", .obj a), ("drawn", .lst (ds.map Dr.v)), ("last", .str la), ("text", .str (t ++ p)), ("command", cmdV d.c d.gs), ("texts", .lst (d.ts.map .str)), ("letter", .str [d.c]), ("between", .str b)] : Loc) → σ' = upd σ a (so x y) → Lo3 σ a ds la t b d m' σ'
inductive Lo4 (σ : Store) (a : Nat) (la : List Nat) (c : Nat) (b : Bool) (σ' : Store) : Prop
  | mk (x y : Int) : soOk x y → σ' = upd σ a (so x y) → (b = false → [c] = la ∧ c ∉ [77, 109, 90, 122]) → Lo4 σ a la c b σ'
theorem law_loose_ok {a : Nat} {x y : Int} {ds : List Dr} {Q : V → Store → Prop} (hs : soOk x y) (hds : ∀ d ∈ ds, d.ok) (hl : ds.length ≤ 4) (q : ∀ la t x' y', Loose ds la t → t.length ≤ 1000 → soOk x' y' → Q (.str t) (upd σ a (so x' y'))) : CO W (k+4) 431 [.obj a, .lst (ds.map Dr.v)] (upd σ a (so x y)) Q E := by
  refine' CO.def (ns := ["source", "drawn"]) ?ho ?hcd ?hb ?hl ?hn ?hc ?h1 ?h2 ?h3 ?h
  case ho => exact rfl
  case hcd => exact rfl
  case hb => first | exact fun s vals X r => binds2 (fun a b => BindsTo.of_eq rfl) r | exact fun s vals X r => binds2 (fun a b => binds_K X rfl rfl rfl rfl rfl) r
  case hl => rfl
  case hn => decide
  case hc => rfl
  case h1 => rfl
  case h2 => rfl
  case h3 => rfl
  case h =>
    have hz : ∀ {n : Nat}, n ≤ 5000 → n ≤ sizeLine := fun h => by simp only [sizeLine_eq]; omega
    refine TS.cons (T1.cut (Lo1 σ a ds) ?_ ?_)
    · refine T1.assignTup (names := ["text", "last"]) rfl (by intros; rfl) (by intros; with_unfolding_all rfl) (by rfl) ?_
      with_reducible refine TE.tuple ?_
      refine TEs.cons' rfl ?_
      refine TE.callL rfl rfl rfl rfl rfl rfl ?_
      refine TEs.cons' rfl ?_
      refine TE.listF ?_
      refine TEs.S rfl lit9 ?_
      refine TEs.S rfl lit32 ?_
      refine TEs.S1 rfl lit46 ?_
      refine ⟨by simp [sizeLine_eq], ?_⟩
      with_reducible refine TEs.nil ?_
      refine (law_one_ok (k := k + 1) hs (by simp) (by simp) ?_).to
      intro v x1 y1 hv hs1
      obtain ⟨w, hw, rfl⟩ := strs_mem (l := [[], [32], [10]]) hv
      refine TEs.S1 rfl lit9 ?_
      exact ⟨by simp [sizeLine_eq], _, rfl, rfl, w, x1, y1, hw, hs1, rfl, rfl⟩
    rintro m' σ' ⟨w, x1, y1, hw, hs1, rfl, rfl⟩
    have hw1 : w.length ≤ 1 := by
      have : ∀ w ∈ ([[], [32], [10]] : List (List Nat)), w.length ≤ 1 := by decide
      exact this w hw
    refine TS.cons ?_
    refine T1.for rfl (by intros; rfl) ?_
    refine TE.local rfl rfl ?_
    refine ⟨ds.map Dr.v, Lo2 σ a ds, .lst _, ⟨[], w, x1, y1, hs1, .nil hw, hw1, Nat.zero_le _, rfl, .refl⟩, ?_, ?_⟩
    · rintro i v m' σ' hi ⟨la, t, x4, y4, hs4, hlo, htl, hil, rfl, hls⟩
      obtain ⟨d, hd, hv⟩ : ∃ d, ds[i]? = some d ∧ v = d.v := by
        rw [List.getElem?_map] at hi
        obtain ⟨d, hd, e⟩ := Option.map_eq_some_iff.mp hi
        exact ⟨d, hd, e.symm⟩
      subst hv
      obtain ⟨hlt, hdi⟩ := List.getElem?_eq_some_iff.mp hd
      have hdo : d.ok := hds d (hdi ▸ List.getElem_mem _)
      have hcs : d.c < 128 := Le_small hdo.1
      refine TA.tupleL (names := ["command", "texts"]) rfl rfl rfl (by rfl) ?_
      refine TS.less ((hls.set "command" (cmdV d.c d.gs)).set "texts" (.lst (d.ts.map .str))) ?_
      refine TS.assign (by intros; rfl) rfl ?_
      refine TE.itemLI (by intros; rfl) rfl rfl ?_
      refine ⟨trivial, TO.itemTup (by decide) (by decide) rfl rfl ?_⟩
      refine TS.assign (by intros; rfl) rfl ?_
      refine TE.callL rfl rfl rfl rfl rfl rfl ?_
      refine TEs.cons' rfl ?_
      refine TE.listF ?_
      refine TEs.S rfl lit32 ?_
      refine TEs.S rfl lit19 ?_
      refine TEs.S rfl lit47 ?_
      refine TEs.S1 rfl lit48 ?_
      refine ⟨by simp [sizeLine_eq], ?_⟩
      with_reducible refine TEs.nil ?_
      refine (law_one_ok (k := k + 1) hs4 (by simp) (by simp) ?_).to
      intro v x5 y5 hv hs5
      obtain ⟨b, hb, rfl⟩ := strs_mem (l := betweens) hv
      have hb3 := betweens_len hb
      refine TS.cons (T1.cut (Lo3 σ a ds la t b d) ?_ ?_)
      · refine T1.ifBy (Lo4 σ a la d.c) ?_ ?_ ?_
        · with_reducible refine TB.boolop ?_
          with_reducible refine TAll.orCons ?_
          refine TB.cmpL rfl rfl rfl ?_
          refine TE.local rfl rfl ?_
          with_reducible refine TO.neS ?_
          refine testB (fun h => ?_) (fun h => ?_)
          · exact ⟨x5, y5, hs5, rfl, fun h => (nomatch h)⟩
          have h1 : [d.c] = la := by simpa using h
          with_reducible refine TAll.orCons ?_
          refine TB.cmpLS rfl rfl rfl lit49 ?_
          with_reducible refine TO.inS ?_
          refine testB (fun h => ?_) (fun h => ?_)
          · exact ⟨x5, y5, hs5, rfl, fun h => (nomatch h)⟩
          have h2 : d.c ∉ [77, 109, 90, 122] := by simpa using h
          with_reducible refine TAll.orCons ?_
          refine TB.compare rfl ?_
          refine TE.callL rfl rfl rfl rfl rfl rfl ?_
          refine TEs.I1 rfl ?_
          refine (law_take_ok (k := k + 2) (top := 2) hs5 (by omega) (by omega) ?_).to
          intro i x6 y6 hi hs6
          with_reducible refine TE.int ?_
          with_reducible refine TO.eqI ?_
          refine testB (fun h => ?_) (fun h => ?_)
          · exact ⟨x6, y6, hs6, rfl, fun h => (nomatch h)⟩
          with_reducible refine TAll.orNil ?_
          exact ⟨x6, y6, hs6, rfl, fun _ => ⟨h1, h2⟩⟩
        · rintro σ' ⟨x6, y6, hs6, rfl, _⟩
          refine TS.assign (by intros; rfl) rfl ?_
          with_reducible refine TE.binop ?_
          with_reducible refine TE.binop ?_
          refine TE.binL rfl rfl ?_
          refine TE.callL rfl rfl rfl rfl rfl rfl ?_
          refine TEs.cons' rfl ?_
          refine TE.listF ?_
          refine TEs.S rfl lit9 ?_
          refine TEs.S1 rfl lit32 ?_
          refine ⟨by simp [sizeLine_eq], ?_⟩
          with_reducible refine TEs.nil ?_
          refine (law_one_ok (k := k + 1) hs6 (by simp) (by simp) ?_).to
          intro v x7 y7 hv hs7
          obtain ⟨u, hu, rfl⟩ := strs_mem (l := [[], [32]]) hv
          have hu1 : u.length ≤ 1 := by have : ∀ w ∈ ([[], [32]] : List (List Nat)), w.length ≤ 1 := by decide
                                        exact this u hu
          refine TO.cat (hz (by omega)) ?_
          refine TE.local rfl rfl ?_
          refine TO.cat (hz (by simp only [List.length_append, List.length_cons, List.length_nil]; omega)) ?_
          refine TE.callL rfl rfl rfl rfl rfl rfl ?_
          refine TEs.cons' rfl ?_
          refine TE.listF ?_
          refine TEs.S rfl lit9 ?_
          refine TEs.S1 rfl lit32 ?_
          refine ⟨by simp [sizeLine_eq], ?_⟩
          with_reducible refine TEs.nil ?_
          refine (law_one_ok (k := k + 1) hs7 (by simp) (by simp) ?_).to
          intro v x8 y8 hv hs8
          obtain ⟨u', hu', rfl⟩ := strs_mem (l := [[], [32]]) hv
          have hu1' : u'.length ≤ 1 := by have : ∀ w ∈ ([[], [32]] : List (List Nat)), w.length ≤ 1 := by decide
                                          exact this u' hu'
          refine TO.cat (hz (by simp only [List.length_append, List.length_cons, List.length_nil]; omega)) ?_
          with_reducible refine TS.nil ?_
          exact ⟨u ++ [d.c] ++ u', x8, y8, hs8, fun e he => .told hb hu hu' he, by simp only [List.length_append, List.length_cons, List.length_nil]; omega, by simp only [List.append_assoc]; rfl, rfl⟩
        · rintro σ' ⟨x6, y6, hs6, rfl, h⟩
          refine TS.assign (by intros; rfl) rfl ?_
          refine TE.binLL rfl rfl rfl rfl ?_
          refine TO.cat (hz (by omega)) ?_
          with_reducible refine TS.nil ?_
          exact ⟨b, x6, y6, hs6, fun e he => .quiet (h rfl).1 (h rfl).2 hb he, by omega, rfl, rfl⟩
      rintro m' σ' ⟨p, x6, y6, hs6, hp, hpl, rfl, rfl⟩
      have hj := hdo.join hb3
      have hjl : (joinL b d.ts).length ≤ 105 := Nat.le_trans (joinL_len d.ts) hj
      refine TS.assign (by intros; rfl) rfl ?_
      with_reducible refine TE.binop ?_
      refine TE.binL rfl rfl ?_
      refine TE.method (by intros; rfl) rfl ?_
      refine TE.local rfl rfl ?_
      refine ⟨_, GM.join, ?_⟩
      refine TEs.L1 rfl rfl rfl ?_
      refine TO.join rfl (hz (by omega)) ?_
      refine TO.cat (hz (by simp only [List.length_append]; omega)) ?_
      refine TE.callL rfl rfl rfl rfl rfl rfl ?_
      refine TEs.cons' rfl ?_
      refine TE.listF ?_
      refine TEs.S rfl lit9 ?_
      refine TEs.S1 rfl lit46 ?_
      refine ⟨by simp [sizeLine_eq], ?_⟩
      with_reducible refine TEs.nil ?_
      refine (law_one_ok (k := k + 1) hs6 (by simp) (by simp) ?_).to
      intro v x7 y7 hv hs7
      obtain ⟨e, he, rfl⟩ := strs_mem (l := [[], [10]]) hv
      have he1 : e.length ≤ 1 := by have : ∀ w ∈ ([[], [10]] : List (List Nat)), w.length ≤ 1 := by decide
                                    exact this e he
      refine TO.cat (hz (by simp only [List.length_append]; omega)) ?_
      with_reducible refine TS.cons ?_
      refine T1.assign (by intros; rfl) rfl ?_
      refine' TE.dictGet (D := behD) (x := [d.c]) (o := .str [d.c]) ?hD ?h0 ?hl ?nd ?he ?hpl ?hh ?q
      case hD => exact (show _ = some behD0 from rfl).trans (congrArg some behD_eq)
      case h0 => decide
      case hl => decide
      case nd => decide
      case he => intros; rfl
      case hpl => rfl
      case hh => exact TEsp.cons (by rfl) (TEp.local rfl rfl) (TEsp.cons (by rfl) (TEp.local rfl rfl) TEsp.nil)
      case q =>
        rw [behD_get]
        with_reducible refine TS.nil ?_
        refine ⟨[behF d.c], t ++ (p ++ joinL b d.ts ++ e), x7, y7, hs7, ?_, by simp only [List.length_append]; omega, hlt, rfl, LS.cons rfl (LS.cons rfl (LS.cons rfl (LS.cons ?_ LS.nil)))⟩
        · rw [List.take_add_one, hd]
          exact hlo.snoc (hp e he)
        · simp only [List.append_assoc]; rfl
    · rintro m' σ' ⟨la, t, x4, y4, hs4, hlo, htl, hil, rfl, hls⟩
      refine TS.less hls ?_
      with_reducible refine TS.ret ?_
      refine TE.local rfl rfl ?_
      refine .here (q la t x4 y4 ?_ ?_ hs4)
      · rw [List.length_map, List.take_length] at hlo; exact hlo
      · rw [List.length_map] at htl; omega
end
section
variable {W : Wd Mine.hd.heap_39} {k : Nat} {σ : Store} {E : Int → Store → Prop}
noncomputable def DP : List Nat := [48, 49, 50, 51, 52, 53, 54, 55, 56, 57, 46]
noncomputable def spaceOk (t : List Nat) (i : Nat) : Prop := ∃ a b, 0 < i ∧ t[i - 1]? = some a ∧ t[i + 1]? = some b ∧ a ∈ D ∧ b ∈ DP ∧ (b = 46 → ∀ n ≤ i, (∀ x ∈ (t.take i).drop n, x ∈ DP) → 46 ∉ (t.take i).drop n)
noncomputable def shortOk (t : List Nat) : Prop := ∀ i, t[i]? = some 32 → spaceOk t i
theorem not_not {p : Prop} [Decidable p] (h : (!decide p) = true) (q : p) : False := by rw [decide_eq_true q] at h; cases h
inductive Is1 (σ : Store) (t : List Nat) (i x y n : Nat) (m' : Loc) (σ' : Store) : Prop
  | mk : n ≤ i → (∀ x ∈ (t.take i).drop n, x ∈ DP) → m' = ([("text", .str t), ("at", .int i), ("behind", .str [y]), ("ahead", .str [x]), ("begin", .int n)] : Loc) → σ' = σ → Is1 σ t i x y n m' σ'
inductive Is2 (σ : Store) (t : List Nat) (i x y : Nat) (m' : Loc) (σ' : Store) : Prop
  | mk (n : Nat) : n ≤ i → (∀ x ∈ (t.take i).drop n, x ∈ DP) → m' = ([("text", .str t), ("at", .int i), ("behind", .str [y]), ("ahead", .str [x]), ("begin", .int n)] : Loc) → σ' = σ → Is2 σ t i x y m' σ'
theorem law_is_short_ok {t : List Nat} (hz : t.length ≤ 1000000) (hs : shortOk t) : CO W (k+1) 438 [.str t] σ (fun v σ' => v = .bool true ∧ σ' = σ) E := by
  refine' CO.def (ns := ["text"]) ?ho ?hcd ?hb ?hl ?hn ?hc ?h1 ?h2 ?h3 ?h
  case ho => exact rfl
  case hcd => exact rfl
  case hb => first | exact fun s vals X r => binds1 (fun a => BindsTo.of_eq rfl) r | exact fun s vals X r => binds1 (fun a => binds_K X rfl rfl rfl rfl rfl) r
  case hl => rfl
  case hn => decide
  case hc => rfl
  case h1 => rfl
  case h2 => rfl
  case h3 => rfl
  case h =>
    refine TS.cons ?_
    refine T1.for rfl (by intros; rfl) ?_
    (refine' TE.callB ?zze ?zzv ?zzn ?zzx ?zzc rfl ?_ ?zzd; (case zze => rfl); (case zzv => boot_fast); (case zzn => decide); (case zzx => rfl); (case zzc => exact .type _); (case zzd => decide))
    refine TEs.cons' rfl ?_
    (refine' TE.callBL1 ?zze ?zzv ?zzn ?zzx ?zzc rfl rfl rfl ?_ ?zzd; (case zze => rfl); (case zzv => boot_fast); (case zzn => decide); (case zzx => rfl); (case zzc => exact .builtin _); (case zzd => decide))
    refine TO.lenS (by simp only [sizeLine_eq]; omega) ?_
    with_reducible refine TEs.nil ?_
    refine TO.range ?_
    refine ⟨_, fun i m' σ' => i ≤ t.length ∧ σ' = σ ∧ LS [("text", .str t)] m', .rng _ (by omega), ⟨Nat.zero_le _, rfl, .refl⟩, ?_, ?_⟩
    · rintro i v m' s hi ⟨hil, hσ, hls⟩
      subst s
      have hv : v = .int i ∧ i < t.length := by
        rw [List.getElem?_map] at hi
        obtain ⟨j, hj, rfl⟩ := Option.map_eq_some_iff.mp hi
        have h1 := List.getElem?_eq_some_iff.mp hj
        obtain ⟨h2, h3⟩ := h1
        rw [List.getElem_range] at h3
        rw [List.length_range] at h2
        subst h3
        exact ⟨rfl, by omega⟩
      obtain ⟨rfl, hlt⟩ := hv
      refine TA.name rfl ?_
      refine TS.less (hls.set "at" (.int i)) ?_
      with_reducible refine TS.if ?_
      refine TB.compare rfl ?_
      refine TE.itemL (by intros; rfl) rfl rfl ?_
      refine TE.local rfl rfl ?_
      refine ⟨trivial, TO.itemStr (j := i) (x := t[i]) (by omega) (by omega) (seqIx hlt) (List.getElem?_eq_getElem hlt) ?_⟩
      refine TE.str lit32 ?_
      with_reducible refine TO.eqS ?_
      refine testB (fun h => ?_) (fun h => ?_)
      · have h32 : t[i] = 32 := by simpa using h
        obtain ⟨x, y, hi0, hx, hy, hxD, hyD, hrun⟩ := hs i (by rw [List.getElem?_eq_getElem hlt, h32])
        have hx' := (List.getElem?_eq_some_iff.mp hx).1
        have hy' := (List.getElem?_eq_some_iff.mp hy).1
        have e1 : (i : Int) - 1 = ((i - 1 : Nat) : Int) := by omega
        have e2 : (i : Int) + 1 = ((i + 1 : Nat) : Int) := by omega
        refine TS.cons ?_
        refine T1.assignTup (names := ["ahead", "behind"]) rfl (by intros; rfl) (by intros; with_unfolding_all rfl) (by rfl) ?_
        with_reducible refine TE.tuple ?_
        refine TEs.cons' rfl ?_
        refine TE.itemL (by intros; rfl) rfl rfl ?_
        refine TE.binLI rfl rfl ?_
        with_reducible refine TO.sub ?_
        rw [e1]
        refine ⟨trivial, TO.itemStr (j := i - 1) (x := x) (by omega) (by omega) (seqIx hx') hx ?_⟩
        refine TEs.cons' rfl ?_
        refine TE.itemL (by intros; rfl) rfl rfl ?_
        refine TE.binLI rfl rfl ?_
        with_reducible refine TO.add ?_
        rw [e2]
        refine ⟨trivial, TO.itemStr (j := i + 1) (x := y) (by omega) (by omega) (seqIx hy') hy ?_⟩
        with_reducible refine TEs.nil ?_
        refine ⟨by simp [sizeLine_eq], _, rfl, rfl, ?_⟩
        refine TS.assign (by intros; rfl) rfl ?_
        refine TE.local rfl rfl ?_
        with_reducible refine TS.cons ?_
        refine T1.cut (Is2 σ t i x y) ?_ ?_
        · refine T1.while i (Is1 σ t i x y) ⟨Nat.le_refl _, by rw [List.drop_of_length_le (by rw [List.length_take]; omega)]; simp, rfl, rfl⟩ ?_
          rintro n m' s ⟨hn, hD, hm', hσ⟩
          subst s m'
          with_reducible refine TB.boolop ?_
          with_reducible refine TAll.andCons ?_
          refine TB.cmpLI rfl rfl rfl ?_
          with_reducible refine TO.gtI ?_
          refine testB (fun h => ?_) (fun h => ?_)
          · have hn0 : 0 < n := by simpa using h
            have e3 : (n : Int) - 1 = ((n - 1 : Nat) : Int) := by omega
            have hn' : n - 1 < t.length := by omega
            with_reducible refine TAll.andCons ?_
            refine TB.compare rfl ?_
            refine TE.itemL (by intros; rfl) rfl rfl ?_
            refine TE.binLI rfl rfl ?_
            with_reducible refine TO.sub ?_
            rw [e3]
            refine ⟨trivial, TO.itemStr (j := n - 1) (x := t[n - 1]) (by omega) (by omega) (seqIx hn') (List.getElem?_eq_getElem hn') ?_⟩
            refine TE.str lit58 ?_
            with_reducible refine TO.inS ?_
            refine testB (fun h => ?_) (fun h => ?_)
            · have hm : t[n - 1] ∈ DP := by simpa [DP] using h
              with_reducible refine TAll.andNil ?_
              refine ⟨fun _ => ?_, fun h => (nomatch h)⟩
              refine TS.assign (by intros; rfl) rfl ?_
              refine TE.binLI rfl rfl ?_
              with_reducible refine TO.sub ?_
              with_reducible refine TS.nil ?_
              rw [e3]
              refine ⟨n - 1, by omega, by omega, ?_, rfl, rfl⟩
              intro z hz'
              have e4 : (t.take i).drop (n - 1) = t[n - 1] :: (t.take i).drop n := by
                rw [List.drop_eq_getElem_cons (by rw [List.length_take]; omega), List.getElem_take]
                congr 2; omega
              rw [e4] at hz'
              rcases List.mem_cons.mp hz' with rfl | hz'
              · exact hm
              · exact hD z hz'
            · skip
              refine ⟨fun h => (nomatch h), fun _ => ?_⟩
              exact ⟨n, hn, hD, rfl, rfl⟩
          · skip
            refine ⟨fun h => (nomatch h), fun _ => ?_⟩
            exact ⟨n, hn, hD, rfl, rfl⟩
        rintro m' s ⟨n, hn, hD, hm', hσ⟩
        subst s m'
        with_reducible refine TS.if ?_
        with_reducible refine TB.boolop ?_
        with_reducible refine TAll.orCons ?_
        refine TB.cmpLS rfl rfl rfl lit2 ?_
        with_reducible refine TO.notInS ?_
        refine testB (fun h => ?_) (fun h => ?_)
        · exact (not_not h hxD).elim
        with_reducible refine TAll.orCons ?_
        refine TB.cmpLS rfl rfl rfl lit58 ?_
        with_reducible refine TO.notInS ?_
        refine testB (fun h => ?_) (fun h => ?_)
        · exact (not_not h hyD).elim
        with_reducible refine TAll.orNil ?_
        refine ⟨fun h => (nomatch h), fun _ => ?_⟩
        with_reducible refine TS.nil ?_
        with_reducible refine TS.if ?_
        with_reducible refine TB.boolop ?_
        with_reducible refine TAll.andCons ?_
        refine TB.cmpLS rfl rfl rfl lit17 ?_
        with_reducible refine TO.eqS ?_
        refine testB (fun h => ?_) (fun h => ?_)
        · have h46 : y = 46 := by simpa using h
          have hno := hrun h46 n hn hD
          with_reducible refine TAll.andCons ?_
          refine TB.compare rfl ?_
          refine TE.str lit17 ?_
          with_reducible refine TE.slice ?_
          refine TE.local rfl rfl ?_
          with_reducible refine TP.some ?_
          refine TE.local rfl rfl ?_
          refine ⟨_, rfl, ?_⟩
          with_reducible refine TP.some ?_
          refine TE.local rfl rfl ?_
          refine ⟨_, rfl, _, rfl, by simp only [sizeLine_eq]; omega, ?_⟩
          rw [cut_two, ← List.drop_take]
          with_reducible refine TO.inS ?_
          refine testB (fun h => ?_) (fun h => ?_)
          · exfalso
            exact hno (by simpa using h)
          refine ⟨fun h => (nomatch h), fun _ => ?_⟩
          with_reducible refine TS.nil ?_
          with_reducible refine TS.nil ?_
          with_reducible refine TS.nil ?_
          exact ⟨hlt, rfl, LS.cons rfl LS.nil⟩
        · skip
          refine ⟨fun h => (nomatch h), fun _ => ?_⟩
          with_reducible refine TS.nil ?_
          with_reducible refine TS.nil ?_
          with_reducible refine TS.nil ?_
          exact ⟨hlt, rfl, LS.cons rfl LS.nil⟩
      · with_reducible refine TS.nil ?_
        with_reducible refine TS.nil ?_
        exact ⟨hlt, rfl, LS.cons rfl LS.nil⟩
    · rintro m' σ' ⟨hil, rfl, hls⟩
      refine TS.less hls ?_
      with_reducible refine TS.ret ?_
      with_reducible refine TE.bool ?_
      exact .here ⟨rfl, rfl⟩
end
section
variable {W : Wd Mine.hd.heap_39} {k : Nat} {σ : Store} {E : Int → Store → Prop}
theorem law_fault_bad {t : List Nat} {vs : List V} {p : Nat} (hz : t.length ≤ 1000000) (hvs : vs.length ≤ 1000) (hr : RunA t true 0 vs (some p)) : CO W (k+9) 445 [.str t] σ (fun v σ' => v = .int p ∧ σ' = σ) E := by
  refine' CO.def (ns := ["text"]) ?ho ?hcd ?hb ?hl ?hn ?hc ?h1 ?h2 ?h3 ?h
  case ho => exact rfl
  case hcd => exact rfl
  case hb => first | exact fun s vals X r => binds1 (fun a => BindsTo.of_eq rfl) r | exact fun s vals X r => binds1 (fun a => binds_K X rfl rfl rfl rfl rfl) r
  case hl => rfl
  case hn => decide
  case hc => rfl
  case h1 => rfl
  case h2 => rfl
  case h3 => rfl
  case h =>
    refine TS.cons ?_
    refine T1.tryCatch rfl rfl rfl rfl rfl ?_
    refine TS.expr (by intros; rfl) (by intros; rfl) ?_
    refine TE.callL1 rfl rfl rfl rfl rfl rfl ?_
    refine (read_commands_ok (k := k) hz hvs hr (fun h => (nomatch h)) ?_).to
    rintro p' hp e d T msg he
    cases hp
    with_reducible refine TS.ret ?_
    refine TE.attrL (by intros; rfl) (by intros; rfl) rfl rfl ?_
    refine TO.getExc (upd_self _ _ _) rfl rfl rfl rfl rfl rfl ?_
    exact .fresh he ⟨rfl, rfl⟩
theorem law_fault_good {t : List Nat} {vs : List V} (hz : t.length ≤ 1000000) (hvs : vs.length ≤ 1000) (hr : RunA t true 0 vs none) : CO W (k+9) 445 [.str t] σ (fun v σ' => v = .none ∧ σ' = σ) E := by
  refine' CO.def (ns := ["text"]) ?ho ?hcd ?hb ?hl ?hn ?hc ?h1 ?h2 ?h3 ?h
  case ho => exact rfl
  case hcd => exact rfl
  case hb => first | exact fun s vals X r => binds1 (fun a => BindsTo.of_eq rfl) r | exact fun s vals X r => binds1 (fun a => binds_K X rfl rfl rfl rfl rfl) r
  case hl => rfl
  case hn => decide
  case hc => rfl
  case h1 => rfl
  case h2 => rfl
  case h3 => rfl
  case h =>
    refine TS.cons ?_
    refine T1.tryQuiet ?_
    refine TS.expr (by intros; rfl) (by intros; rfl) ?_
    refine TE.callL1 rfl rfl rfl rfl rfl rfl ?_
    refine (read_commands_ok (k := k) hz hvs hr (fun _ => ?_) (fun _ h => (nomatch h))).to
    with_reducible refine TS.nil ?_
    with_reducible refine TS.ret ?_
    with_reducible refine TE.none ?_
    exact .here ⟨rfl, rfl⟩
end
section
variable {W : Wd Mine.hd.heap_39} {k : Nat} {σ : Store} {E : Int → Store → Prop}
noncomputable def wText (ds : List Dr) : List Nat := (putCs (ds.map Dr.cmd) ⟨[], [], []⟩).ps.flatten
noncomputable def m12 : V := cmdV 77 [.tup [.int 1, .int 1], .tup [.int 2, .int 1]]
noncomputable def tails : List (List Nat) := [[120], [35], [77, 49, 32, 50, 120], [77, 32, 49, 32, 50, 32, 44, 122]]
structure Facts : Prop where
  cmds : ∀ ds, drOk ds → (∀ v ∈ ds.map Dr.cmd, cmdOk v) ∧ (ds.map Dr.cmd).all isCmd = true
  wlen : ∀ ds, drOk ds → (wText ds).length ≤ 1000000
  wrun : ∀ ds, drOk ds → RunA (wText ds) true 0 (ds.map Dr.cmd) none
  wshort : ∀ ds, drOk ds → shortOk (wText ds)
  lrun : ∀ ds la t, drOk ds → Loose ds la t → RunA t true 0 (ds.map Dr.cmd) none
  trun1 : ∀ ds la t, drOk ds → Loose ds la t → RunA (t ++ [120]) true 0 (ds.map Dr.cmd) (some t.length)
  trun2 : ∀ ds la t, drOk ds → Loose ds la t → RunA (t ++ [35]) true 0 (ds.map Dr.cmd) (some t.length)
  trun3 : ∀ ds la t, drOk ds → Loose ds la t → RunA (t ++ [77, 49, 32, 50, 120]) true 0 (ds.map Dr.cmd ++ [m12]) (some (t.length + 4))
  trun4 : ∀ ds la t, drOk ds → Loose ds la t → RunA (t ++ [77, 32, 49, 32, 50, 32, 44, 122]) true 0 (ds.map Dr.cmd ++ [m12]) (some (t.length + 7))
  f1 : RunA [32, 32, 76, 49, 32, 50] true 0 [] (some 2)
  f2 : RunA [] true 0 [] none
  f3 : RunA [77, 49, 32, 50] true 0 [m12] none
  f4 : RunA [77, 49, 44, 50] true 0 [m12] none
noncomputable def defOf {q : Program} {l : List Str} {X : (Str → Option Value) → Heap → Prop} {Y : World → Heap → Prop} {r : RowW} {d : DefRec} {kw : List (Str × Expr)} {run : Value → List Value → Sem Value} {P : Prop} (_ : WalkO q l X Y r d kw run → P) : DefRec := d
theorem Dr.two (ds : List Dr) : (ds.map Dr.v).all isTwo = true := by
  induction ds with
  | nil => rfl
  | cons d ds ih => rw [List.map_cons, List.all_cons, ih]; rfl
theorem Dr.fst (ds : List Dr) : (ds.map Dr.v).map fstOf = ds.map Dr.cmd := by
  rw [List.map_map]; rfl
theorem eq_cmds {vs : List V} (h : vs.all isCmd = true) : ∃ d, V.data (.lst vs) = some d ∧ d.canLay0 = true ∧ d.depth ≤ 4 := by
  obtain ⟨ds, e1, e2, e3, _⟩ := cmds_data h
  refine ⟨.list ds, by simp only [V.data, e1]; rfl, e2, ?_⟩
  simp only [PyData.depth]; omega
theorem cmds_app {vs : List V} (h : vs.all isCmd = true) : (vs ++ [m12]).all isCmd = true := by
  rw [List.all_append, h]; rfl
noncomputable def dm12 : PyData := .tuple [.list [.tuple [.str (S [77]), .tuple [.tuple [.int 1, .int 1], .tuple [.int 2, .int 1]]]], .none]
theorem dm12_eq {σ : Store} : dataAt σ (.tup [.lst [m12], .none]) = some dm12 := rfl
theorem dm12_depth : dm12.depth ≤ 8 := by decide +kernel
inductive Lw1 (σ : Store) (a : Nat) (ns : List Int) (ds : List Dr) (m' : Loc) (σ' : Store) : Prop
  | mk (la t : List Nat) (x y : Int) : Loose ds la t → t.length ≤ 1000 → soOk x y → m' = ([("script", .lst (ns.map .int)), ("source", .obj a), ("drawn", .lst (ds.map Dr.v)), ("commands", .lst (ds.map Dr.cmd)), ("loose", .str t), ("written", .str (wText ds))] : Loc) → σ' = upd σ a (so x y) → Lw1 σ a ns ds m' σ'
theorem law_walk (F : Facts) {ns : List Int} (hn : ns.length ≤ 63) : TS W (defOf Mine.hd).scope (k+9) none (defOf Mine.hd).body [("script", .lst (ns.map .int))] σ (fun _ _ => False) (fun v _ => v = .bool true) (fun _ _ _ => False) := by
  dsimp only [defOf]
  have hz : ∀ {n : Nat}, n ≤ 5000 → n ≤ sizeLine := fun h => by simp only [sizeLine_eq]; omega
  refine TS.assign (by intros; rfl) rfl ?_
  refine TE.callL rfl rfl rfl rfl rfl rfl ?_
  refine TEs.I1 rfl ?_
  refine (law_pool_ok (k := k + 8) hn ?_).to
  intro a x y ha hs
  refine TS.assign (by intros; rfl) rfl ?_
  refine TE.callL1 rfl rfl rfl rfl rfl rfl ?_
  refine (law_drawn_ok (k := k + 4) hs ?_).to
  intro ds x1 y1 hds hs1
  obtain ⟨hc1, hc2⟩ := F.cmds ds hds
  have hdl : ds.length ≤ 4 := hds.2.1
  with_reducible refine TS.cons ?_
  refine T1.assignComp rfl (by intros; with_unfolding_all rfl) (by intros; rfl) rfl rfl rfl rfl rfl (by decide) rfl (by decide) ?_
  refine TE.local rfl rfl ?_
  refine ⟨_, rfl, Dr.two ds, by rw [List.length_map]; omega, ?_⟩
  rw [Dr.fst]
  obtain ⟨dc, ed, eL, edep⟩ := eq_cmds hc2
  have hml : (ds.map Dr.cmd).length ≤ 8 := by rw [List.length_map]; omega
  with_reducible refine TS.cons ?_
  refine T1.cut (Lw1 σ a ns ds) ?_ ?_
  · refine T1.assignTup (names := ["written", "loose"]) rfl (by intros; rfl) (by intros; with_unfolding_all rfl) (by rfl) ?_
    with_reducible refine TE.tuple ?_
    refine TEs.cons' rfl ?_
    refine TE.callL1 rfl rfl rfl rfl rfl rfl ?_
    refine (write_path_ok (k := k + 4) hml hc1 (F.wlen ds hds)).useEq ?_
    refine TEs.cons' rfl ?_
    refine TE.callL rfl rfl rfl rfl rfl rfl ?_
    refine TEs.L1 rfl rfl rfl ?_
    refine (law_loose_ok (k := k + 5) hs1 hds.1 hdl ?_).to
    intro la t x2 y2 hlo htl hs2
    with_reducible refine TEs.nil ?_
    exact ⟨by simp [sizeLine_eq], _, rfl, rfl, la, t, x2, y2, hlo, htl, hs2, rfl, rfl⟩
  rintro m' σ' ⟨la, t, x2, y2, hlo, htl, hs2, rfl, rfl⟩
  refine TS.cons ?_
  refine T1.ifBy (fun b σ' => b = false ∧ σ' = upd σ a (so x2 y2)) ?_ (fun _ h => nomatch h.1) ?_
  · with_reducible refine TB.boolop ?_
    with_reducible refine TAll.orCons ?_
    refine TB.compare rfl ?_
    refine TE.callL1 rfl rfl rfl rfl rfl rfl ?_
    refine (read_commands_ok (k := k + 1) (F.wlen ds hds) (by omega) (F.wrun ds hds) (fun _ => ?_) (fun _ h => nomatch h)).to
    refine TE.local rfl rfl ?_
    refine TO.neD ed ed eL eL (by omega) (PySem.SeqAt.eqv_refl _ eL) ?_
    refine testB (fun h => (nomatch h)) (fun _ => ?_)
    with_reducible refine TAll.orCons ?_
    refine TB.compare rfl ?_
    refine TE.callL1 rfl rfl rfl rfl rfl rfl ?_
    refine (read_commands_ok (k := k + 1) (by omega) (by omega) (F.lrun ds la t hds hlo) (fun _ => ?_) (fun _ h => nomatch h)).to
    refine TE.local rfl rfl ?_
    refine TO.neD ed ed eL eL (by omega) (PySem.SeqAt.eqv_refl _ eL) ?_
    refine testB (fun h => (nomatch h)) (fun _ => ?_)
    with_reducible refine TAll.orCons ?_
    with_reducible refine TB.not ?_
    refine TB.value (by intros; rfl) ?_
    refine TE.callL1 rfl rfl rfl rfl rfl rfl ?_
    refine (law_is_short_ok (k := k + 8) (F.wlen ds hds) (F.wshort ds hds)).useEq ?_
    with_reducible refine Tru.bool ?_
    refine ⟨fun h => (nomatch h), fun _ => ?_⟩
    with_reducible refine TAll.orNil ?_
    exact ⟨rfl, rfl⟩
  rintro σ' ⟨_, rfl⟩
  with_reducible refine TS.nil ?_
  with_reducible refine TS.cons ?_
  refine T1.ifBy (fun b σ' => b = false ∧ σ' = upd σ a (so x2 y2)) ?_ (fun _ h => nomatch h.1) ?_
  · with_reducible refine TB.boolop ?_
    with_reducible refine TAll.orCons ?_
    refine TB.compare rfl ?_
    refine TE.call rfl rfl rfl rfl ?_
    refine TEs.S1 rfl lit50 ?_
    refine (law_fault_bad (k := k) (by decide) (by decide) F.f1).useEq ?_
    with_reducible refine TE.int ?_
    with_reducible refine TO.neI ?_
    refine testB (fun h => (nomatch h)) (fun _ => ?_)
    with_reducible refine TAll.orCons ?_
    refine TB.compare rfl ?_
    refine TE.call rfl rfl rfl rfl ?_
    refine TEs.S1 rfl lit9 ?_
    refine (law_fault_good (k := k) (by decide) (by decide) F.f2).useEq ?_
    with_reducible refine TE.none ?_
    with_reducible refine TO.isNotNone ?_
    refine testB (fun h => (nomatch h)) (fun _ => ?_)
    with_reducible refine TAll.orCons ?_
    refine TB.compare rfl ?_
    refine TE.call rfl rfl rfl rfl ?_
    refine TEs.S1 rfl lit51 ?_
    refine (read_kept_ok (k := k + 1) (by decide) (by decide) F.f3 ?_).to
    with_reducible refine TE.tuple ?_
    refine TEs.cons' rfl ?_
    refine TE.call rfl rfl rfl rfl ?_
    refine TEs.S1 rfl lit59 ?_
    refine (read_commands_ok (k := k + 1) (by decide) (by decide) F.f4 (fun _ => ?_) (fun _ h => nomatch h)).to
    refine TEs.cons' rfl ?_
    with_reducible refine TE.none ?_
    with_reducible refine TEs.nil ?_
    refine ⟨by simp [sizeLine_eq], ?_⟩
    refine TO.neD (da := dm12) (db := dm12) dm12_eq dm12_eq (by decide +kernel) (by decide +kernel) (Nat.le_trans (Nat.min_le_left _ _) (Nat.le_trans dm12_depth (by omega))) (PySem.SeqAt.eqv_refl _ (by decide +kernel)) ?_
    refine testB (fun h => (nomatch h)) (fun _ => ?_)
    with_reducible refine TAll.orNil ?_
    exact ⟨rfl, rfl⟩
  rintro σ' ⟨_, rfl⟩
  with_reducible refine TS.nil ?_
  refine TS.assign (by intros; rfl) rfl ?_
  refine TE.binL rfl rfl ?_
  refine TE.callL rfl rfl rfl rfl rfl rfl ?_
  refine TEs.cons' rfl ?_
  refine TE.listF ?_
  refine TEs.S rfl lit52 ?_
  refine TEs.S rfl lit53 ?_
  refine TEs.S rfl lit54 ?_
  refine TEs.S1 rfl lit55 ?_
  refine ⟨by simp [sizeLine_eq], ?_⟩
  with_reducible refine TEs.nil ?_
  refine (law_one_ok (k := k + 7) hs2 (by simp) (by simp) ?_).to
  intro v x3 y3 hv hs3
  obtain ⟨s, hs', rfl⟩ := strs_mem (l := tails) hv
  obtain ⟨vs, hvs, hrun, hkept⟩ : ∃ vs : List V, vs.all isCmd = true ∧ RunA (t ++ s) true 0 vs (some (t.length + s.length - 1)) ∧ ((s ∈ [[120], [35]] ∧ vs = ds.map Dr.cmd) ∨ (s ∈ [[77, 49, 32, 50, 120], [77, 32, 49, 32, 50, 32, 44, 122]] ∧ vs = ds.map Dr.cmd ++ [m12])) := by
    simp only [tails, List.mem_cons, List.not_mem_nil, or_false] at hs'
    rcases hs' with rfl | rfl | rfl | rfl
    · exact ⟨_, hc2, F.trun1 ds la t hds hlo, .inl ⟨by simp, rfl⟩⟩
    · exact ⟨_, hc2, F.trun2 ds la t hds hlo, .inl ⟨by simp, rfl⟩⟩
    · exact ⟨_, cmds_app hc2, F.trun3 ds la t hds hlo, .inr ⟨by simp, rfl⟩⟩
    · exact ⟨_, cmds_app hc2, F.trun4 ds la t hds hlo, .inr ⟨by simp, rfl⟩⟩
  have hsl : 1 ≤ s.length ∧ s.length ≤ 8 := by
    have : ∀ s ∈ tails, 1 ≤ s.length ∧ s.length ≤ 8 := by decide
    exact this s hs'
  refine TO.cat (hz (by omega)) ?_
  with_reducible refine TS.cons ?_
  have htsl : (t ++ s).length = t.length + s.length := List.length_append
  have hvl : vs.length ≤ 10 := by
    rcases hkept with ⟨_, rfl⟩ | ⟨_, rfl⟩
    · omega
    · rw [List.length_append]; simp only [List.length_cons, List.length_nil]; omega
  refine T1.assignT (by intros; rfl) (by intros; rfl) ?_
  refine TE.callL1 rfl rfl rfl rfl rfl rfl ?_
  refine (read_kept_bad (k := k + 1) (by omega) (by omega) hrun ?_).to
  intro e d T msg he
  refine TA.tuple (names := ["told", "fault"]) rfl rfl rfl (by rfl) ?_
  generalize hτ : upd (upd σ a (so x3 y3)) e (faultOf d T msg ((t.length + s.length - 1 : Nat) : Int)) = τ
  have hτe : τ e = some (faultOf d T msg ((t.length + s.length - 1 : Nat) : Int)) := by rw [← hτ]; exact upd_self _ _ _
  with_reducible refine TS.cons ?_
  refine T1.cut (fun m' σ' => m' = ([("script", .lst (ns.map .int)), ("source", .obj a), ("drawn", .lst (ds.map Dr.v)), ("commands", .lst (ds.map Dr.cmd)), ("loose", .str t), ("written", .str (wText ds)), ("wrong", .str (t ++ s)), ("told", .lst vs), ("fault", .obj e), ("kept", .lst vs)] : Loc) ∧ σ' = τ) ?_ ?_
  · refine T1.assign (by intros; rfl) rfl ?_
    with_reducible refine TE.ifexp ?_
    with_reducible refine TB.boolop ?_
    with_reducible refine TAll.andCons ?_
    refine TB.compare rfl ?_
    refine TE.itemL (by intros; rfl) rfl rfl ?_
    with_reducible refine TE.unary ?_
    with_reducible refine TE.int ?_
    with_reducible refine TO.neg ?_
    have hlast : ∀ {c : Nat}, s.getLast? = some c → (t ++ s)[(t ++ s).length - 1]? = some c := by
      intro c hc
      rw [List.getElem?_append_right (by omega), ← hc, List.getLast?_eq_getElem?, htsl]
      congr 1; omega
    have hcase : ∃ c, s.getLast? = some c ∧ ((c ≠ 35 ∧ s ≠ [120] ∧ vs = ds.map Dr.cmd ++ [m12]) ∨ (c ≠ 35 ∧ s = [120] ∧ vs = ds.map Dr.cmd) ∨ (c = 35 ∧ vs = ds.map Dr.cmd)) := by
      rcases hkept with ⟨hm, e1⟩ | ⟨hm, e1⟩
      · simp only [List.mem_cons, List.not_mem_nil, or_false] at hm
        rcases hm with rfl | rfl
        · exact ⟨120, rfl, .inr (.inl ⟨by decide, rfl, e1⟩)⟩
        · exact ⟨35, rfl, .inr (.inr ⟨rfl, e1⟩)⟩
      · simp only [List.mem_cons, List.not_mem_nil, or_false] at hm
        rcases hm with rfl | rfl
        · exact ⟨120, rfl, .inl ⟨by decide, by decide, e1⟩⟩
        · exact ⟨122, rfl, .inl ⟨by decide, by decide, e1⟩⟩
    obtain ⟨c, hcl, hcase⟩ := hcase
    refine ⟨trivial, TO.itemStr (j := (t ++ s).length - 1) (x := c) (by decide) (by decide) (seqLast (by omega)) (hlast hcl) ?_⟩
    refine TE.str lit53 ?_
    with_reducible refine TO.neS ?_
    refine testB (fun h => ?_) (fun h => ?_)
    · have h35 : c ≠ 35 := by simpa using h
      with_reducible refine TAll.andCons ?_
      refine TB.cmpL rfl rfl rfl ?_
      refine TE.binL rfl rfl ?_
      refine TE.str lit52 ?_
      refine TO.cat (hz (by simp only [List.length_cons, List.length_nil]; omega)) ?_
      with_reducible refine TO.neS ?_
      refine testB (fun h => ?_) (fun h => ?_)
      · have hx : s ≠ [120] := by simpa using h
        have hv : vs = ds.map Dr.cmd ++ [m12] := by
          rcases hcase with ⟨_, _, e⟩ | ⟨_, e, _⟩ | ⟨e, _⟩
          · exact e
          · exact absurd e hx
          · exact absurd e h35
        with_reducible refine TAll.andNil ?_
        refine ⟨fun _ => ?_, fun h => (nomatch h)⟩
        refine TE.binL rfl rfl ?_
        refine TE.listF ?_
        refine TEs.cons' rfl ?_
        with_reducible refine TE.tuple ?_
        refine TEs.S rfl lit20 ?_
        refine TEs.cons' rfl ?_
        with_reducible refine TE.tuple ?_
        refine TEs.cons' rfl ?_
        with_reducible refine TE.tuple ?_
        refine TEs.I rfl ?_
        refine TEs.I1 rfl ?_
        refine ⟨by simp [sizeLine_eq], ?_⟩
        refine TEs.cons' rfl ?_
        with_reducible refine TE.tuple ?_
        refine TEs.I rfl ?_
        refine TEs.I1 rfl ?_
        refine ⟨by simp [sizeLine_eq], ?_⟩
        with_reducible refine TEs.nil ?_
        refine ⟨by simp [sizeLine_eq], ?_⟩
        with_reducible refine TEs.nil ?_
        refine ⟨by simp [sizeLine_eq], ?_⟩
        with_reducible refine TEs.nil ?_
        refine ⟨by simp [sizeLine_eq], TO.addLst (hz (by simp only [List.length_cons, List.length_nil]; omega)) ?_⟩
        subst hv
        exact ⟨rfl, rfl⟩
      · have hx : s = [120] := by simpa using h
        have hv : vs = ds.map Dr.cmd := by
          rcases hcase with ⟨_, e, _⟩ | ⟨_, _, e⟩ | ⟨e, _⟩
          · exact absurd hx e
          · exact e
          · exact absurd e h35
        refine ⟨fun h => (nomatch h), fun _ => ?_⟩
        refine TE.local rfl rfl ?_
        subst hv
        exact ⟨rfl, rfl⟩
    · have h35 : c = 35 := by simpa using h
      have hv : vs = ds.map Dr.cmd := by
        rcases hcase with ⟨e, _⟩ | ⟨e, _⟩ | ⟨_, e⟩
        · exact absurd h35 e
        · exact absurd h35 e
        · exact e
      refine ⟨fun h => (nomatch h), fun _ => ?_⟩
      refine TE.local rfl rfl ?_
      subst hv
      exact ⟨rfl, rfl⟩
  rintro m' σ' ⟨rfl, hσ⟩
  subst hσ
  obtain ⟨dv, fd, fL, fdep⟩ := eq_cmds hvs
  refine TS.assign (by intros; rfl) rfl ?_
  with_reducible refine TE.binop ?_
  (refine' TE.callBL1 ?zze ?zzv ?zzn ?zzx ?zzc rfl rfl rfl ?_ ?zzd; (case zze => rfl); (case zzv => boot_fast); (case zzn => decide); (case zzx => rfl); (case zzc => exact .builtin _); (case zzd => decide))
  refine TO.lenS (hz (by omega)) ?_
  with_reducible refine TE.int ?_
  with_reducible refine TO.sub ?_
  with_reducible refine TS.ret ?_
  with_reducible refine TE.bools ?_
  with_reducible refine TV.and ?_
  refine TE.compare rfl ?_
  refine TE.local rfl rfl ?_
  refine TE.local rfl rfl ?_
  refine TO.eqD fd fd fL fL (by omega) (PySem.SeqAt.eqv_refl _ fL) ?_
  with_reducible refine Tru.bool ?_
  refine ⟨fun _ => ?_, fun h => (nomatch h)⟩
  with_reducible refine TV.and ?_
  refine TE.compare rfl ?_
  refine TE.local rfl rfl ?_
  with_reducible refine TE.none ?_
  with_reducible refine TO.isNotNone ?_
  with_reducible refine Tru.bool ?_
  refine ⟨fun _ => ?_, fun h => (nomatch h)⟩
  with_reducible refine TV.one ?_
  refine TE.compare rfl ?_
  refine TE.attrL (by intros; rfl) (by intros; rfl) rfl rfl ?_
  refine TO.getExc hτe rfl rfl rfl rfl rfl rfl ?_
  refine TE.local rfl rfl ?_
  with_reducible refine TO.eqI ?_
  refine congrArg V.bool ?_
  rw [beq_iff_eq]
  omega
end
end Mine
end
section
open PySem PySem.W PySem.Spec PySem.Calls PyProof.Rows
set_option maxRecDepth 100000
set_option maxHeartbeats 8000000
namespace Mine
theorem well_ints {P : Params} {h h' : Heap} {σ : Store} : ∀ {ns : List Int} {vs : List Value}, WellAll P h vs (ofPys (ns.map PyData.int)) → VRs h' σ (ns.map .int) vs := by
  intro ns
  induction ns with
  | nil => intro vs q; cases q; exact .nil
  | cons n ns ih =>
    intro vs q
    cases q with
    | cons a r =>
      cases a with
      | int _ t => exact .cons (.int n t) (ih r)
theorem law_join (Fa : Facts) {w : World} {s₁ : Shared} {loose : List Str} {mean : ExcName → Option Value} {mg mb : Str → Option Value} (T : Top Mine.hd.view_39 loose mean mg mb s₁.heap) (KX : (Mine.hd.heap_39 w.params).In s₁.heap)
    {fa a : Addr} {cd : Value} {ns : List Int} (w1 : Well w.params s₁.heap (.ref a) (ofPy (PyData.list (ns.map PyData.int)))) (hn : ns.length ≤ 63) {h₁ : Heap} {mm : Str → Option Value} (F : Fr s₁.heap s₁.heap.objs.size h₁ mm) (hm : mm "script" = some (.ref a)) {tk : Nat}
    {prog : Program} {Q : Flow → Shared → Prop} {E : Value → Shared → Prop} (hQ : ∀ h' tk' m', Fr s₁.heap s₁.heap.objs.size h' m' → Q (.ret (.bool true)) { s₁ with heap := h', toks := tk' }) :
    wpAny (model prog w) (callerA.deeper (envOf (defOf Mine.hd).name (defOf Mine.hd).scope s₁.heap.objs.size fa cd)) (execs (defOf Mine.hd).body (envOf (defOf Mine.hd).name (defOf Mine.hd).scope s₁.heap.objs.size fa cd)) Q E { s₁ with heap := h₁, toks := tk } := by
  let W : Wd Mine.hd.heap_39 := { prog := prog, w := w, p := Mine.hd.view_39, loose := loose, mean := mean, mg := mg, mb := mb, b := s₁.heap, X := KX, T := T }
  let c : Cx := { outer := [], dp := callerA.depth + 1, un := callerA.units + 3, gd := some [], hd := none, L := s₁.heap.objs.size, a := fa, cn := (defOf Mine.hd).name, cs := (defOf Mine.hd).scope, ccd := cd }
  have noMut : ∀ a, ¬ Mut (fun _ => none) a := fun a h => by
    rcases h with ⟨_, h⟩ | ⟨_, _, h, _⟩ <;> cases h
  have st : St W c (fun _ => none) [("script", .lst (ns.map .int))] h₁ := by
    refine ⟨⟨mm, F, fun x v hx => ?_⟩, trivial, fun _ _ h => (Option.some_ne_none _ h.symm).elim, fun a h => absurd h (noMut a), fun h => absurd h List.not_mem_nil, fun b h => absurd h List.not_mem_nil, fun _ _ _ h => (Option.some_ne_none _ h.symm).elim⟩
    unfold getV at hx
    split at hx
    · rename_i hxe
      cases hx
      subst hxe
      refine ⟨_, hm, ?_⟩
      cases w1 with
      | list ho r => exact .lst (n := 0) (F.keep _ _ ho) (noMut _) (well_ints r)
    · cases hx
  have ok : c.Ok 9 := ⟨by show callerA.depth + 1 + 9 < recursionLimit; decide, by show callerA.units + 3 + 8 * 9 + 8 < cLine; decide, rfl⟩
  refine wpAny_mono (law_walk (W := W) (k := 0) (σ := fun _ => none) Fa hn c s₁ h₁ tk rfl rfl ok st) (fun f s' z => ?_) (fun e s' z => ?_)
  · obtain ⟨h', tk', σ', m', rfl, st', x', hf⟩ := z
    obtain ⟨mm', F', _⟩ := st'.fr
    cases f with
    | ret v =>
      obtain ⟨vv, hr, rfl⟩ := hf
      cases hr
      exact hQ h' tk' mm' F'
    | next => exact hf.elim
    | brk => exact hf.elim
    | cont => exact hf.elim
  · obtain ⟨m', h', tk', σ', e', d, TT, msg, p, _, _, _, _, _, _, hf⟩ := z
    exact hf.elim
theorem holds (Fa : Facts) : PySem.Challenge.rw_nu0032_01.Holds := Mine.hd (by
  k_go0
  all_goals try k_fold
  refine law_join Fa (by assumption) (by assumption) (by assumption) (by omega) (by assumption) rfl (fun h' tk' m' F' => ?_)
  refine goodW_bool F' (by assumption) (fun _ => rfl) ?_
  wrow_post)
end Mine
end
section
open PySem PySem.W PySem.Spec PySem.Calls PyProof.Rows
set_option maxRecDepth 100000
namespace Mine
noncomputable def At (t : List Nat) (n : Nat) (u : List Nat) : Prop := n ≤ t.length ∧ t.drop n = u
noncomputable def hn (u s : List Nat) : Prop := ∀ c, u[0]? = some c → c ∉ s
theorem At.zero (t : List Nat) : At t 0 t := ⟨Nat.zero_le _, rfl⟩
theorem At.get {t u : List Nat} {n : Nat} (h : At t n u) (k : Nat) : t[n + k]? = u[k]? := by
  rw [← h.2, List.getElem?_drop]
theorem At.len {t u : List Nat} {n : Nat} (h : At t n u) : t.length = n + u.length := by
  have := h.1
  rw [← h.2, List.length_drop]; omega
theorem At.adv {t x u : List Nat} {n : Nat} (h : At t n (x ++ u)) : At t (n + x.length) u := by
  refine ⟨?_, ?_⟩
  · rw [h.len, List.length_append]; omega
  · rw [← List.drop_drop, h.2, List.drop_left]
theorem hn.sub {u s s' : List Nat} (h : hn u s) (hs : ∀ c ∈ s', c ∈ s) : hn u s' := fun c hc hm => h c hc (hs c hm)
theorem hn.nil {s : List Nat} : hn [] s := fun c hc => by cases hc
theorem hn.cons {c : Nat} {r s : List Nat} (h : c ∉ s) : hn (c :: r) s := fun d hd => by
  cases hd; exact h
theorem hn.app {x u s : List Nat} (h : hn x s) (h' : x = [] → hn u s) : hn (x ++ u) s := by
  cases x with
  | nil => exact h' rfl
  | cons c r => exact fun d hd => h d hd
theorem get_app {x u : List Nat} {k : Nat} {s : List Nat} (hk : k ≤ x.length) (h : k < x.length ∨ hn u s) : (∃ c, (x ++ u)[k]? = some c ∧ x[k]? = none ∧ c ∉ s) ∨ (x ++ u)[k]? = x[k]? := by
  by_cases hl : k < x.length
  · exact .inr (List.getElem?_append_left hl)
  · have e : k = x.length := by omega
    subst e
    have h2 : hn u s := h.resolve_left hl
    rw [List.getElem?_append_right (Nat.le_refl _), Nat.sub_self, List.getElem?_eq_none (Nat.le_refl _)]
    cases q : u[0]? with
    | none => exact .inr rfl
    | some c => exact .inl ⟨c, rfl, rfl, h2 c q⟩
theorem oneAt_loc {t x u s : List Nat} {n k : Nat} (h : At t n (x ++ u)) (hk : k ≤ x.length) (hs : k < x.length ∨ hn u s) : oneAt t (n + k) s = oneAt x k s := by
  unfold oneAt
  rw [h.get]
  rcases get_app hk hs with ⟨c, e1, e2, e3⟩ | e
  · rw [e1, e2]; simp [e3]
  · rw [e]
theorem hasAt_loc {t x u s : List Nat} {n k : Nat} (h : At t n (x ++ u)) (hk : k ≤ x.length) (hs : k < x.length ∨ hn u s) : hasAt t (n + k) s = hasAt x k s := by
  unfold hasAt
  rw [h.get]
  rcases get_app hk hs with ⟨c, e1, e2, e3⟩ | e
  · rw [e1, e2]; simp [e3]
  · rw [e]
theorem takeWhile_loc {p : Nat → Bool} {u : List Nat} (h : ∀ c, u[0]? = some c → p c = false) : ∀ l : List Nat, (l ++ u).takeWhile p = l.takeWhile p
  | [] => by
    cases u with
    | nil => rfl
    | cons c r => rw [List.nil_append, List.takeWhile_cons, h c rfl]; rfl
  | a :: l => by
    rw [List.cons_append, List.takeWhile_cons, List.takeWhile_cons, takeWhile_loc h l]
theorem takeWhile_all {p : Nat → Bool} {u : List Nat} : ∀ {l : List Nat}, (∀ c ∈ l, p c = true) → (l ++ u).takeWhile p = l ++ u.takeWhile p
  | [], _ => rfl
  | a :: l, h => by
    rw [List.cons_append, List.takeWhile_cons, h a (by simp), takeWhile_all fun c hc => h c (by simp [hc])]; rfl
theorem tw_loc {t x u : List Nat} {n k : Nat} (h : At t n (x ++ u)) (hk : k ≤ x.length) (hs : hn u D) : tw t (n + k) = tw x k := by
  unfold tw
  rw [← List.drop_drop, h.2, List.drop_append_of_le_length hk]
  exact takeWhile_loc (fun c hc => by unfold isDig; exact decide_eq_false (hs c hc)) _
noncomputable def expPl (x : List Nat) : Nat := numP x 0 + (oneAt x (numP x 0) [46]).length + (fAt x (numP x 0)).length
theorem numF_at {t x u : List Nat} {n : Nat} {r : Int × Int} (h : At t n (x ++ u)) (hx : x ≠ []) (hr : numF x 0 = some (r, x.length)) (a : hn u D) (b : hn u [101, 69]) (c : hn u [46] ∨ hasAt x (numP x 0) [46] = true) (d : hn u [43, 45] ∨ hasAt x (expPl x) [101, 69] = false) :
    numF t n = some (r, n + x.length) := by
  have hx0 : 0 < x.length := List.length_pos_iff.mpr hx
  have es : oneAt t n [43, 45] = oneAt x 0 [43, 45] := oneAt_loc (k := 0) h (Nat.zero_le _) (.inl hx0)
  have hsl : (oneAt x 0 [43, 45]).length ≤ x.length := by have := oneAt_le (t := x) (n := 0) (s := [43, 45]) (Nat.zero_le _); omega
  have ew : numW t n = numW x 0 := by
    unfold numW; rw [es, tw_loc h hsl a, Nat.zero_add]
  have eP : numP t n = n + numP x 0 := by unfold numP; rw [es, ew]; omega
  have hP : numP x 0 ≤ x.length := by
    have := tw_place x (oneAt x 0 [43, 45]).length hsl
    unfold numP numW; rw [Nat.zero_add]; exact this
  have hc : numP x 0 < x.length ∨ hn u [46] := by
    rcases c with c | c
    · exact .inr c
    · obtain ⟨_, _, q, _⟩ := hasAt_true c; exact .inl q
  have eo : oneAt t (n + numP x 0) [46] = oneAt x (numP x 0) [46] := oneAt_loc h hP hc
  have hfP : (oneAt x (numP x 0) [46] ≠ []) → numP x 0 + 1 ≤ x.length := fun q => by
    cases e : hasAt x (numP x 0) [46] with
    | false => exact absurd (hasAt_false e) q
    | true => obtain ⟨_, _, q, _⟩ := hasAt_true e; exact q
  have ef : fAt t (n + numP x 0) = fAt x (numP x 0) := by
    unfold fAt
    rw [eo]
    by_cases q : oneAt x (numP x 0) [46] = []
    · rw [if_pos q, if_pos q]
    · rw [if_neg q, if_neg q, Nat.add_assoc, tw_loc h (hfP q) a]
  have hE : expPl x ≤ x.length := by
    unfold expPl
    by_cases q : oneAt x (numP x 0) [46] = []
    · unfold fAt; rw [if_pos q, q]; simpa using hP
    · have h1 := hfP q
      have h2 := tw_place x (numP x 0 + 1) h1
      have h3 : (oneAt x (numP x 0) [46]).length = 1 := by
        rw [one_len]
        cases e : hasAt x (numP x 0) [46] with
        | false => exact absurd (hasAt_false e) q
        | true => rfl
      unfold fAt; rw [if_neg q, h3]; omega
  have ep : numP t n + (oneAt t (numP t n) [46]).length + (fAt t (numP t n)).length = n + expPl x := by
    rw [eP, eo, ef]; unfold expPl; omega
  have ex : expSkip t (n + expPl x) = n + expSkip x (expPl x) := by
    unfold expSkip
    rw [hasAt_loc h hE (.inr b)]
    cases e : hasAt x (expPl x) [101, 69] with
    | false => rfl
    | true =>
      obtain ⟨_, _, q, _⟩ := hasAt_true e
      have hd : hn u [43, 45] := d.resolve_right (by rw [e]; simp)
      have e1 : oneAt t (n + expPl x + 1) [43, 45] = oneAt x (expPl x + 1) [43, 45] := by
        rw [Nat.add_assoc]; exact oneAt_loc h q (.inr hd)
      have hl1 : expPl x + 1 + (oneAt x (expPl x + 1) [43, 45]).length ≤ x.length := oneAt_le q
      have e2 : tw t (n + expPl x + 1 + (oneAt x (expPl x + 1) [43, 45]).length) = tw x (expPl x + 1 + (oneAt x (expPl x + 1) [43, 45]).length) := by
        rw [show n + expPl x + 1 + (oneAt x (expPl x + 1) [43, 45]).length = n + (expPl x + 1 + (oneAt x (expPl x + 1) [43, 45]).length) by omega]
        exact tw_loc h hl1 a
      simp only [if_true]
      rw [e1, e2]
      by_cases q2 : tw x (expPl x + 1 + (oneAt x (expPl x + 1) [43, 45]).length) = []
      · rw [if_pos q2, if_pos q2]
      · rw [if_neg q2, if_neg q2]; omega
  have eE : numE t n = n + numE x 0 := by
    unfold numE; rw [ep, ex]; rfl
  unfold numF at hr ⊢
  rw [ew, eP, ef]
  by_cases q : (numW x 0).length + (fAt x (numP x 0)).length = 0
  · rw [if_pos q] at hr; cases hr
  · rw [if_neg q] at hr ⊢
    obtain ⟨r', h1, h2⟩ := Option.map_eq_some_iff.mp hr
    simp only [Prod.mk.injEq] at h2
    obtain ⟨rfl, h3⟩ := h2
    rw [h3] at h1
    rw [eE, h3, h.2, Nat.add_sub_cancel_left, List.take_left]
    simp only [Nat.sub_zero, List.drop_zero, List.take_length] at h1
    rw [h1]; rfl
end Mine
end
section
open PySem PySem.W PySem.Spec PySem.Calls PyProof.Rows
set_option maxRecDepth 100000
namespace Mine
noncomputable def NB : List Nat := [43, 45, 46] ++ D
noncomputable def okR (x u : List Nat) : Prop := hn u D ∧ hn u [101, 69] ∧ (hn u [46] ∨ hasAt x (numP x 0) [46] = true) ∧ (hn u [43, 45] ∨ hasAt x (expPl x) [101, 69] = false)
structure Num (x : List Nat) (p q : Int) : Prop where
  run : numF x 0 = some ((p, q), x.length)
  hd : hasAt x 0 NB = true
inductive Tell (arc : Bool) (i : Nat) (u : List Nat) : V → List Nat → Prop
  | flag (b : Nat) : b < 2 → flagAt arc i = true → Tell arc i u (.int b) [48 + b]
  | num {p q : Int} {x : List Nat} : flagAt arc i = false → Num x p q → okR x u → Tell arc i u (.tup [.int p, .int q]) x
noncomputable def seps : List (List Nat) := [[], [32], [44], [32, 44, 32], [9]]
theorem NB_no : ∀ c ∈ NB, c ∉ Bl ++ [44] := by decide
theorem Num.head {x : List Nat} {p q : Int} (h : Num x p q) : ∃ c r, x = c :: r ∧ c ∈ NB := by
  obtain ⟨c, e, _, hm, _⟩ := hasAt_true h.hd
  cases x with
  | nil => cases e
  | cons a r => cases e; exact ⟨_, _, rfl, hm⟩
theorem Tell.head {arc : Bool} {i : Nat} {u x : List Nat} {v : V} (h : Tell arc i u v x) : ∃ c r, x = c :: r ∧ c ∈ NB := by
  cases h with
  | flag b hb _ =>
    refine ⟨_, _, rfl, ?_⟩
    have : b = 0 ∨ b = 1 := by omega
    rcases this with rfl | rfl <;> decide
  | num _ h _ => exact h.head
theorem tws_at {t x u s : List Nat} {n : Nat} (h : At t n (x ++ u)) (hx : ∀ c ∈ x, c ∈ s) (hu : hn u s) : tws s t n = x := by
  unfold tws
  rw [h.2, takeWhile_loc fun c hc => decide_eq_false (hu c hc)]
  have := takeWhile_all (p := fun c => decide (c ∈ s)) (u := []) (l := x) fun c hc => decide_eq_true (hx c hc)
  rw [List.append_nil] at this
  rw [this]; simp
theorem hasAt_head {t u s : List Nat} {n : Nat} (h : At t n u) (hu : hn u s) : hasAt t n s = false := by
  have := h.get 0
  unfold hasAt
  rw [Nat.add_zero] at this
  rw [this]
  cases e : u[0]? with
  | none => rfl
  | some c => exact decide_eq_false (hu c e)
theorem sepF_blank {t x u : List Nat} {n : Nat} (h : At t n (x ++ u)) (hx : ∀ c ∈ x, c ∈ Bl) (hu : hn u (Bl ++ [44])) : sepF t n = (false, n + x.length) := by
  have e1 := tws_at h hx (hu.sub (by intro c hc; simp [hc]))
  have e2 : hasAt t (n + x.length) [44] = false := hasAt_head h.adv (hu.sub (by intro c hc; simp at hc; simp [hc]))
  unfold sepF
  rw [e1, e2]; rfl
theorem sepF_comma {t x y u : List Nat} {n : Nat} (h : At t n (x ++ ([44] ++ (y ++ u)))) (hx : ∀ c ∈ x, c ∈ Bl) (hy : ∀ c ∈ y, c ∈ Bl) (hu : hn u Bl) : sepF t n = (true, n + x.length + 1 + y.length) := by
  have e1 := tws_at h hx (hn.cons (by decide))
  have h2 := h.adv
  have e2 : hasAt t (n + x.length) [44] = true := by
    have := h2.get 0
    unfold hasAt
    rw [Nat.add_zero] at this
    rw [this]; rfl
  have e3 := tws_at h2.adv hy hu
  rw [List.length_singleton] at e3
  unfold sepF
  rw [e1, e2, if_pos rfl, e3]
theorem sepF_at {t b u : List Nat} {n : Nat} (h : At t n (b ++ u)) (hb : b ∈ seps) (hu : hn u (Bl ++ [44])) : (sepF t n).2 = n + b.length := by
  have hu' : hn u Bl := hu.sub (by intro c hc; simp [hc])
  simp only [seps, List.mem_cons, List.not_mem_nil, or_false] at hb
  rcases hb with rfl | rfl | rfl | rfl | rfl
  · rw [sepF_blank h (by simp) hu]
  · rw [sepF_blank h (by decide) hu]
  · rw [sepF_comma (x := []) (y := []) h (by simp) (by simp) hu']; rfl
  · rw [sepF_comma (x := [32]) (y := [32]) h (by decide) (by decide) hu']; rfl
  · rw [sepF_blank h (by decide) hu]
theorem tell_step {t b x u : List Nat} {arc : Bool} {i n : Nat} {v : V} (h : At t n (b ++ (x ++ u))) (hb : b ∈ seps) (h0 : i = 0 → b = []) (ht : Tell arc i u v x) : Step t arc i n v (n + b.length + x.length) := by
  obtain ⟨c, r, ex, hc⟩ := ht.head
  have hu : hn (x ++ u) (Bl ++ [44]) := by rw [ex]; exact hn.cons (NB_no c hc)
  have hp : preF t i n = n + b.length := by
    unfold preF
    split
    · exact sepF_at h hb hu
    · rw [h0 (by omega)]; rfl
  have h2 := h.adv
  cases ht with
  | flag d hd hf =>
    rw [List.length_singleton, ← hp]
    refine .flag d hd hf ?_
    rw [hp]
    have := h2.get 0
    rw [Nat.add_zero] at this
    exact pk_some (by rw [this]; rfl)
  | num hf hx hr =>
    refine .num hf ?_
    rw [hp]
    exact numF_at h2 (by rw [ex]; simp) hx.run hr.1 hr.2.1 hr.2.2.1 hr.2.2.2
noncomputable def Rd (arc : Bool) (i : Nat) (vs : List V) (y u : List Nat) : Prop := ∀ t n, At t n (y ++ u) → Grp t arc i vs.length n vs (n + y.length)
theorem Rd.nil {arc : Bool} {i : Nat} {u : List Nat} : Rd arc i [] [] u := fun t n h => .nil
theorem Rd.cons {arc : Bool} {i : Nat} {v : V} {vs : List V} {b x y u : List Nat} (hb : b ∈ seps) (h0 : i = 0 → b = []) (ht : Tell arc i (y ++ u) v x) (hr : Rd arc (i + 1) vs y u) : Rd arc i (v :: vs) (b ++ (x ++ y)) u := by
  intro t n h
  rw [List.append_assoc, List.append_assoc] at h
  have h1 := tell_step h hb h0 ht
  have h2 := h.adv.adv
  have h3 := hr t _ h2
  rw [show n + (b ++ (x ++ y)).length = n + b.length + x.length + y.length by simp only [List.length_append]; omega]
  exact .cons h1 h2.1 h3
theorem RunA_skip {t x u : List Nat} {n : Nat} {f : Bool} {vs : List V} {o : Option Nat} (h : At t n (x ++ u)) (hx : ∀ c ∈ x, c ∈ Bl) (hr : RunA t f (n + x.length) vs o) : RunA t f n vs o := by
  have e : n + (tws Bl t n).length = n + x.length + (tws Bl t (n + x.length)).length := by
    unfold tws
    rw [h.2, h.adv.2, takeWhile_all fun c hc => decide_eq_true (hx c hc), List.length_append]; omega
  cases hr with
  | fin _ h2 => exact .fin h.1 (by rw [e]; exact h2)
  | bad _ h2 h3 => rw [← e]; exact .bad h.1 (by rw [e]; exact h2) h3
  | go _ h2 h3 h4 => exact .go h.1 (by rw [e]; exact h2) h3 (by rw [e]; exact h4)
theorem RunB_skip {t x u : List Nat} {n l : Nat} {vs : List V} {o : Option Nat} (h : At t n (x ++ u)) (hx : ∀ c ∈ x, c ∈ Bl) (hr : RunB t l (n + x.length) vs o) : RunB t l n vs o := by
  have e : n + (tws Bl t n).length = n + x.length + (tws Bl t (n + x.length)).length := by
    unfold tws
    rw [h.2, h.adv.2, takeWhile_all fun c hc => decide_eq_true (hx c hc), List.length_append]; omega
  have es : sepF t n = sepF t (n + x.length) := by unfold sepF; rw [e]
  cases hr with
  | more _ h2 h3 h4 => rw [← es] at h2 h3; exact .more h.1 h2 h3 h4
  | stop _ h2 h3 h4 => rw [← es] at h2 h3 h4; exact .stop h.1 h2 h3 h4
  | comma _ h2 h3 => rw [← es] at h2 h3 ⊢; exact .comma h.1 h2 h3
noncomputable def Cont (t : List Nat) (f : Bool) (la : List Nat) (n : Nat) (vs : List V) (o : Option Nat) : Prop :=
  ((la = [] ∨ la = [90] ∨ la = [122]) → RunA t f n vs o) ∧ (∀ l, la = [l] → l ∉ [90, 122] → RunB t l n vs o)
noncomputable def After (t : List Nat) (c n : Nat) (vs : List V) (o : Option Nat) : Prop := (c ∈ [90, 122] → RunA t false n vs o) ∧ (c ∉ [90, 122] → RunB t (behF c) n vs o)
theorem Le_no : ∀ c ∈ Le, c ∉ Bl ++ [44] ++ NB := by decide
theorem toA {t x u la : List Nat} {n : Nat} {f : Bool} {vs : List V} {o : Option Nat} (h : At t n (x ++ u)) (hx : ∀ c ∈ x, c ∈ Bl) (hu : hn u (Bl ++ [44] ++ NB)) (hf : la ≠ [] → f = false) (hr : RunA t f (n + x.length) vs o) : Cont t f la n vs o := by
  refine ⟨fun _ => RunA_skip h hx hr, fun l hl hz => ?_⟩
  have hff : f = false := hf (by rw [hl]; simp)
  subst hff
  have es := sepF_blank h hx (hu.sub (by intro c hc; simp only [List.mem_append] at hc ⊢; exact .inl hc))
  have el : looksF t (n + x.length) = false := hasAt_head h.adv (hu.sub (by intro c hc; simp only [List.mem_append] at hc ⊢; exact .inr (List.mem_append.mpr hc)))
  exact .stop h.1 (by rw [es]; exact el) (by rw [es]) (by rw [es]; exact hr)
theorem cmd_told {t z g e u : List Nat} {c n : Nat} {f : Bool} {gs vs : List V} {o : Option Nat} (h : At t n ([c] ++ (z ++ (g ++ (e ++ u))))) (hc : c ∈ Le) (hf : f = true → c ∈ [77, 109]) (hz : ∀ c ∈ z, c ∈ Bl) (he : ∀ c ∈ e, c ∈ Bl) (hg : Rd (arcF c) 0 gs g (e ++ u)) (hm : gs.length = manyF c) (hzz : c ∈ [90, 122] → gs = [] ∧ g = []) (hgh : c ∉ [90, 122] → hn (g ++ (e ++ u)) Bl)
    (ha : After t c (n + 1 + z.length + g.length + e.length) vs o) : RunA t f n (cmdV c gs :: vs) o := by
  have hcB : c ∉ Bl := fun q => Le_no c hc (by simp only [List.mem_append]; exact .inl (.inl q))
  have e0 : tws Bl t n = [] := tws_at (x := []) h (by simp) (hn.cons hcB)
  have e1 : t[n]? = some c := by
    have := h.get 0
    rw [Nat.add_zero] at this
    rw [this]; rfl
  have h1 : At t (n + 1) (z ++ (g ++ (e ++ u))) := h.adv
  refine .go h.1 (by rw [e0]; exact e1) hc ?_
  rw [e0, List.length_nil, Nat.add_zero]
  by_cases q : c ∈ [90, 122]
  · obtain ⟨rfl, rfl⟩ := hzz q
    have hff : f = true → False := fun q2 => by
      have h1 := hf q2
      simp only [List.mem_cons, List.not_mem_nil, or_false] at q h1
      omega
    cases f with
    | true => exact (hff rfl).elim
    | false =>
      refine .z q (RunA_skip h1 hz (RunA_skip (x := e) (u := u) (by simpa using h1.adv) he ?_))
      have := ha.1 q
      simpa using this
  · have e2 : tws Bl t (n + 1) = z := tws_at h1 hz (hgh q)
    have h2 := h1.adv
    have h3 := hg t _ h2
    rw [hm] at h3
    refine .cmd hf q (by rw [e2]; exact h3) ?_
    exact RunB_skip h2.adv he (ha.2 q)
theorem cmd_quiet {t b g e u la : List Nat} {c n : Nat} {f : Bool} {gs vs : List V} {o : Option Nat} (h : At t n (b ++ (g ++ (e ++ u)))) (hb : b ∈ seps) (hl : la = [c]) (hc : c ∉ [90, 122]) (hbe : behF c = c) (he : ∀ c ∈ e, c ∈ Bl) (hg : Rd (arcF c) 0 gs g (e ++ u)) (hm : gs.length = manyF c)
    (hgh : ∃ d r, g ++ (e ++ u) = d :: r ∧ d ∈ NB) (ha : After t c (n + b.length + g.length + e.length) vs o) : Cont t f la n (cmdV c gs :: vs) o := by
  obtain ⟨d, r, e1, hd⟩ := hgh
  have hu : hn (g ++ (e ++ u)) (Bl ++ [44]) := by rw [e1]; exact hn.cons (NB_no d hd)
  have es := sepF_at h hb hu
  have h2 := h.adv
  have el : looksF t (n + b.length) = true := by
    have := h2.get 0
    rw [Nat.add_zero] at this
    unfold looksF hasAt
    rw [this, e1]
    exact decide_eq_true hd
  refine ⟨fun q => ?_, fun l q hz => ?_⟩
  · rw [hl] at q
    simp only [List.mem_cons, List.not_mem_nil, or_false, not_or] at hc
    rcases q with q | q | q
    · cases q
    · cases q; exact absurd rfl hc.1
    · cases q; exact absurd rfl hc.2
  · rw [hl] at q; cases q
    have h3 := hg t _ h2
    rw [hm] at h3
    refine .more h.1 (by rw [es]; exact el) (by rw [es]; exact h3) (RunB_skip h2.adv he ?_)
    have := ha.2 hc
    rw [hbe] at this
    exact this
theorem Cont.end {t x la : List Nat} {n : Nat} {f : Bool} (h : At t n x) (hx : ∀ c ∈ x, c ∈ Bl) (hf : la ≠ [] → f = false) : Cont t f la n [] none := by
  have h' : At t n (x ++ []) := by rw [List.append_nil]; exact h
  refine toA h' hx hn.nil hf ?_
  have h2 := h'.adv
  refine .fin h2.1 ?_
  have e : tws Bl t (n + x.length) = [] := tws_at (x := []) (u := []) h2 (by simp) hn.nil
  rw [e, h2.len]
theorem Cont.bad {t x u la : List Nat} {c n : Nat} {f : Bool} (h : At t n (x ++ (c :: u))) (hx : ∀ c ∈ x, c ∈ Bl) (hc : c ∉ Bl ++ [44] ++ NB) (hc2 : c ∉ Le) (hf : la ≠ [] → f = false) : Cont t f la n [] (some (n + x.length)) := by
  refine toA h hx (hn.cons hc) hf ?_
  have h2 := h.adv
  have e : tws Bl t (n + x.length) = [] := tws_at (x := []) h2 (by simp) (hn.cons fun q => hc (by simp only [List.mem_append]; exact .inl (.inl q)))
  have e1 : t[n + x.length]? = some c := by
    have := h2.get 0
    rw [Nat.add_zero] at this
    rw [this]; rfl
  have := RunA.bad (t := t) (fst := f) (n := n + x.length) (c := c) h2.1 (by rw [e]; exact e1) hc2
  rw [e] at this
  exact this
end Mine
end
section
open PySem PySem.W PySem.Spec PySem.Calls PyProof.Rows
set_option maxRecDepth 100000
namespace Mine
theorem told_num {top : Int} {pl : Nat} {told : List Nat} (h1 : top ∈ tops) (h2 : pl < 4) (h3 : told ∈ toldF top pl) : Num told (numPF top pl) (numQF top pl : Nat) := by
  have : ∀ top ∈ tops, ∀ pl < 4, ∀ told ∈ toldF top pl, numF told 0 = some ((numPF top pl, ((numQF top pl : Nat) : Int)), told.length) ∧ hasAt told 0 NB = true := by decide +kernel
  obtain ⟨a, b⟩ := this _ h1 _ h2 _ h3
  exact ⟨a, b⟩
noncomputable def LX : List Nat := D ++ [46, 101, 69, 43, 45]
theorem okR_loose {x u : List Nat} (h : hn u LX) : okR x u :=
  ⟨h.sub (by decide), h.sub (by decide), .inl (h.sub (by decide)), .inl (h.sub (by decide))⟩
inductive DrawnC (arc : Bool) : Nat → List V → List (List Nat) → Prop
  | nil {i : Nat} : DrawnC arc i [] []
  | cons {i : Nat} {v : V} {t : List Nat} {vs : List V} {ts : List (List Nat)} : Drawn arc i v t → DrawnC arc (i + 1) vs ts → DrawnC arc i (v :: vs) (t :: ts)
theorem DrawnC.snoc {arc : Bool} {i : Nat} {v : V} {t : List Nat} {vs : List V} {ts : List (List Nat)} (h : DrawnC arc i vs ts) (hv : Drawn arc (i + vs.length) v t) : DrawnC arc i (vs ++ [v]) (ts ++ [t]) := by
  induction h with
  | nil => exact .cons hv .nil
  | cons h1 _ ih => exact .cons h1 (ih (by rw [List.length_cons] at hv; rw [Nat.add_assoc, Nat.add_comm 1]; exact hv))
theorem DrawnAll.toC {arc : Bool} {i : Nat} {vs : List V} {ts : List (List Nat)} (h : DrawnAll arc i vs ts) : DrawnC arc i vs ts := by
  induction h with
  | nil => exact .nil
  | snoc _ h2 ih => exact ih.snoc h2
theorem Drawn.tell {arc : Bool} {i : Nat} {v : V} {x u : List Nat} (h : Drawn arc i v x) (hu : hn u LX) : Tell arc i u v x := by
  cases h with
  | flag b hb hf => exact .flag b hb hf
  | num hf h1 h2 h3 => exact .num hf (told_num h1 h2 h3) (okR_loose hu)
noncomputable def seqL (b : List Nat) : Nat → List (List Nat) → List Nat
  | _, [] => []
  | i, x :: r => (if i = 0 then [] else b) ++ (x ++ seqL b (i + 1) r)
theorem seqL_succ (b : List Nat) : ∀ (r : List (List Nat)) (i : Nat) (y : List Nat), seqL b (i + 1) (y :: r) = b ++ joinL b (y :: r)
  | [], i, y => by simp [seqL, joinL]
  | z :: r, i, y => by
    have := seqL_succ b r (i + 1) z
    unfold seqL
    rw [this]
    simp [joinL]
theorem seqL_join (b : List Nat) : ∀ ts : List (List Nat), seqL b 0 ts = joinL b ts
  | [] => rfl
  | [x] => by simp [seqL, joinL]
  | x :: y :: r => by
    unfold seqL
    rw [seqL_succ]
    simp [joinL]
theorem betweens_ok : ∀ b ∈ betweens, b ∈ seps ∧ ∃ c r, b = c :: r ∧ c ∉ LX := by
  intro b hb
  simp only [betweens, List.mem_cons, List.not_mem_nil, or_false] at hb
  rcases hb with rfl | rfl | rfl | rfl <;> exact ⟨by decide, _, _, rfl, by decide⟩
theorem DrawnC.rd {arc : Bool} {b u : List Nat} (hb : b ∈ betweens) (hu : hn u LX) {i : Nat} {vs : List V} {ts : List (List Nat)} (h : DrawnC arc i vs ts) : Rd arc i vs (seqL b i ts) u := by
  obtain ⟨hb1, c, r, hb2, hb3⟩ := betweens_ok b hb
  induction h with
  | nil => exact .nil
  | @cons i v t vs ts h1 h2 ih =>
    unfold seqL
    refine Rd.cons ?_ (fun h => by rw [if_pos h]) (h1.tell ?_) ih
    · split
      · decide
      · exact hb1
    · cases h2 with
      | nil => exact hu
      | cons _ _ =>
        rw [seqL_succ, hb2]
        exact hn.cons hb3
theorem Drawn.head {arc : Bool} {i : Nat} {v : V} {x : List Nat} (h : Drawn arc i v x) : ∃ c r, x = c :: r ∧ c ∈ NB := (h.tell (u := []) hn.nil).head
theorem join_head {arc : Bool} {b w : List Nat} {i : Nat} {vs : List V} {ts : List (List Nat)} (h : DrawnC arc i vs ts) (hv : vs ≠ []) : ∃ c r, joinL b ts ++ w = c :: r ∧ c ∈ NB := by
  cases h with
  | nil => exact absurd rfl hv
  | cons h1 h2 =>
    obtain ⟨c, r, rfl, hc⟩ := h1.head
    cases h2 with
    | nil => exact ⟨c, _, rfl, hc⟩
    | cons _ _ => exact ⟨c, _, rfl, hc⟩
theorem many_pos : ∀ c ∈ Le, c ∉ [90, 122] → 0 < manyF c := by decide
theorem many_z : ∀ c ∈ [90, 122], manyF c = 0 := by decide
theorem beh_z : ∀ c ∈ Le, (c ∈ [90, 122] → behF c = c) ∧ (c ∉ [90, 122] → behF c ∉ [90, 122]) := by decide
theorem After.of {t : List Nat} {c n : Nat} {vs : List V} {o : Option Nat} (hc : c ∈ Le) (h : Cont t false [behF c] n vs o) : After t c n vs o := by
  refine ⟨fun q => h.1 ?_, fun q => h.2 _ rfl ((beh_z c hc).2 q)⟩
  rw [(beh_z c hc).1 q]
  simp only [List.mem_cons, List.not_mem_nil, or_false] at q
  rcases q with rfl | rfl
  · exact .inr (.inl rfl)
  · exact .inr (.inr rfl)
theorem Le_LX : ∀ c ∈ Le, c ∉ LX := by decide
theorem blank2 {x : List Nat} (h : x ∈ [[], [32]]) : ∀ c ∈ x, c ∈ Bl := by
  have : ∀ x ∈ ([[], [32]] : List (List Nat)), ∀ c ∈ x, c ∈ Bl := by decide
  exact this x h
theorem blank3 {x : List Nat} (h : x ∈ [[], [10]]) : ∀ c ∈ x, c ∈ Bl := by
  have : ∀ x ∈ ([[], [10]] : List (List Nat)), ∀ c ∈ x, c ∈ Bl := by decide
  exact this x h
theorem blank_hn {x u : List Nat} (h : ∀ c ∈ x, c ∈ Bl) (hu : hn u LX) : hn (x ++ u) LX := by
  refine hn.app (fun c hc => ?_) fun _ => hu
  have : ∀ c ∈ Bl, c ∉ LX := by decide
  exact this c (h c (List.mem_of_getElem? hc))
theorem piece_read {la p : List Nat} {d : Dr} (h : Piece la d p) (hd : d.ok) {t u : List Nat} {n : Nat} {f : Bool} {vs : List V} {o : Option Nat} (hA : At t n (p ++ u)) (hu : hn u LX) (hf : f = true → d.c ∈ [77, 109]) (hf' : la ≠ [] → f = false)
    (ha : Cont t false [behF d.c] (n + p.length) vs o) : Cont t f la n (d.cmd :: vs) o := by
  obtain ⟨hc, hdr, hm⟩ := hd
  have hC := hdr.toC
  have haf := After.of hc ha
  cases h with
  | @told b x y e hb hx hy he =>
    simp only [List.append_assoc] at hA
    have hr := hC.rd (u := e ++ u) hb (blank_hn (blank3 he) hu)
    rw [seqL_join] at hr
    refine toA hA (blank2 hx) (hn.cons (Le_no _ hc)) hf' (cmd_told hA.adv hc hf (blank2 hy) (blank3 he) hr hm (fun q => ?_) (fun q => ?_) ?_)
    · have h0 := many_z _ q
      rw [h0] at hm
      have h1 : d.gs = [] := List.length_eq_zero_iff.mp hm
      refine ⟨h1, ?_⟩
      have h2 := hdr.len.1
      rw [hm] at h2
      rw [List.length_eq_zero_iff.mp h2]; rfl
    · have h0 := many_pos _ hc q
      obtain ⟨c', r', e1, hc'⟩ := join_head (b := b) (w := e ++ u) hC (by intro h; rw [h] at hm; simp at hm; omega)
      rw [e1]
      exact hn.cons fun q2 => NB_no c' hc' (by simp only [List.mem_append]; exact .inl q2)
    · have e2 : n + (x ++ [d.c] ++ y ++ joinL b d.ts ++ e).length = n + x.length + 1 + y.length + (joinL b d.ts).length + e.length := by
        simp only [List.length_append, List.length_cons, List.length_nil]; omega
      rw [e2] at haf
      exact haf
  | @quiet b e hl hcn hb he =>
    simp only [List.append_assoc] at hA
    have hr := hC.rd (u := e ++ u) hb (blank_hn (blank3 he) hu)
    rw [seqL_join] at hr
    have hcz : d.c ∉ [90, 122] := fun q => hcn (by simp only [List.mem_cons, List.not_mem_nil, or_false] at q ⊢; omega)
    have hbe : behF d.c = d.c := by
      simp only [List.mem_cons, List.not_mem_nil, or_false, not_or] at hcn
      unfold behF
      rw [if_neg hcn.1, if_neg hcn.2.1]
    have h0 := many_pos _ hc hcz
    refine cmd_quiet hA (betweens_ok b hb).1 hl.symm hcz hbe (blank3 he) hr hm (join_head hC (by intro h; rw [h] at hm; simp at hm; omega)) ?_
    have e2 : n + (b ++ joinL b d.ts ++ e).length = n + b.length + (joinL b d.ts).length + e.length := by
      simp only [List.length_append]; omega
    rw [e2] at haf
    exact haf
theorem piece_hn {la p u : List Nat} {d : Dr} (h : Piece la d p) (hd : d.c ∈ Le) : hn (p ++ u) LX := by
  cases h with
  | @told b x y e hb hx hy he =>
    simp only [List.append_assoc]
    exact blank_hn (blank2 hx) (hn.cons (Le_LX _ hd))
  | @quiet b e hl hcn hb he =>
    obtain ⟨_, c, r, rfl, hc⟩ := betweens_ok b hb
    exact hn.cons hc
theorem Loose.la0 {ds : List Dr} {la t : List Nat} (h : Loose ds la t) : la ≠ [] → ds ≠ [] := by
  cases h with
  | nil _ => intro h; exact absurd rfl h
  | snoc _ _ => intro _ h; simp at h
theorem loose_read {ds : List Dr} {la t0 : List Nat} (h : Loose ds la t0) : (∀ d ∈ ds, d.ok) → (∀ d r, ds = d :: r → d.c ∈ [77, 109]) → ∀ {t u : List Nat} {vs : List V} {o : Option Nat}, At t 0 (t0 ++ u) → hn u LX → Cont t (decide (ds.length = 0)) la t0.length vs o → RunA t true 0 (ds.map Dr.cmd ++ vs) o := by
  induction h with
  | @nil w hw =>
    intro _ _ t u vs o hA hu hc
    have hwb : ∀ c ∈ w, c ∈ Bl := by
      have : ∀ x ∈ ([[], [32], [10]] : List (List Nat)), ∀ c ∈ x, c ∈ Bl := by decide
      exact this w hw
    refine RunA_skip hA hwb ?_
    rw [Nat.zero_add]
    exact hc.1 (.inl rfl)
  | @snoc ds la t0 p d h1 h2 ih =>
    intro hok hfst t u vs o hA hu hc
    rw [List.append_assoc] at hA
    have hdo : d.ok := hok d (by simp)
    rw [List.map_append, List.append_assoc]
    refine ih (fun e he => hok e (by simp [he])) (fun e r he => hfst e (r ++ [d]) (by rw [he]; rfl)) hA (piece_hn h2 hdo.1) ?_
    have hA2 := hA.adv
    rw [Nat.zero_add] at hA2
    refine piece_read h2 hdo hA2 hu (fun q => ?_) (fun q => ?_) ?_
    · have : ds = [] := List.length_eq_zero_iff.mp (by simpa using q)
      subst this
      exact hfst d [] rfl
    · have := h1.la0 q
      simp [this]
    · have e : (decide ((ds ++ [d]).length = 0)) = false := by simp
      rw [e, List.length_append] at hc
      exact hc
theorem drOk.fst {ds : List Dr} (h : drOk ds) : ∀ d r, ds = d :: r → d.c ∈ [77, 109] := by
  obtain ⟨_, _, d, r, rfl, hc⟩ := h
  intro d' r' e
  cases e; exact hc
theorem drOk.ne {ds : List Dr} (h : drOk ds) : decide (ds.length = 0) = false := by
  obtain ⟨_, _, d, r, rfl, hc⟩ := h
  rfl
theorem loose_any {ds : List Dr} {la t0 u : List Nat} (h : drOk ds) (hl : Loose ds la t0) {vs : List V} {o : Option Nat} (hu : hn u LX) (hc : At (t0 ++ u) t0.length u → Cont (t0 ++ u) false la t0.length vs o) : RunA (t0 ++ u) true 0 (ds.map Dr.cmd ++ vs) o := by
  have hA : At (t0 ++ u) 0 (t0 ++ u) := .zero _
  refine loose_read hl h.1 h.fst hA hu ?_
  rw [h.ne]
  have := hA.adv
  rw [Nat.zero_add] at this
  exact hc this
theorem lrun {ds : List Dr} {la t : List Nat} (h : drOk ds) (hl : Loose ds la t) : RunA t true 0 (ds.map Dr.cmd) none := by
  have := loose_any (u := []) (vs := []) (o := none) h hl hn.nil fun hA => .end hA (by simp) fun _ => rfl
  rw [List.append_nil, List.append_nil] at this
  exact this
theorem trun1 {ds : List Dr} {la t : List Nat} {c : Nat} (h : drOk ds) (hl : Loose ds la t) (hc : c ∈ [120, 35]) : RunA (t ++ [c]) true 0 (ds.map Dr.cmd) (some t.length) := by
  have h1 : ∀ c ∈ [120, 35], c ∉ LX ∧ c ∉ Bl ++ [44] ++ NB ∧ c ∉ Le := by decide
  obtain ⟨a1, a2, a3⟩ := h1 c hc
  have := loose_any (u := [c]) (vs := []) (o := some t.length) h hl (hn.cons a1) fun hA => .bad (x := []) hA (by simp) a2 a3 fun _ => rfl
  rw [List.append_nil] at this
  exact this
theorem num1 : Num [49] 1 1 := ⟨by decide +kernel, by decide⟩
theorem num2 : Num [50] 2 1 := ⟨by decide +kernel, by decide⟩
theorem rd12 {b u : List Nat} (hb : b ∈ [[32], [44]]) (hu : hn u LX) : Rd false 0 [.tup [.int 1, .int 1], .tup [.int 2, .int 1]] ([49] ++ (b ++ [50])) u := by
  have hb' : b ∈ seps ∧ ∃ c r, b = c :: r ∧ c ∉ LX := by
    simp only [List.mem_cons, List.not_mem_nil, or_false] at hb
    rcases hb with rfl | rfl <;> exact ⟨by decide, _, _, rfl, by decide⟩
  obtain ⟨h1, c, r, h2, h3⟩ := hb'
  have r2 : Rd false 1 [.tup [.int 2, .int 1]] (b ++ ([50] ++ [])) u := Rd.cons h1 (fun q => absurd q (by decide)) (.num rfl num2 (okR_loose hu)) .nil
  exact Rd.cons (b := []) (by decide) (fun _ => rfl) (.num rfl num1 (okR_loose (by rw [h2]; exact hn.cons h3))) r2
theorem run12 {t z b u : List Nat} {n : Nat} {f : Bool} {o : Option Nat} (hz : z ∈ [[], [32]]) (hb : b ∈ [[32], [44]]) (hb' : b.length = 1) (hu : hn u LX) (hA : At t n ([77] ++ (z ++ (([49] ++ (b ++ [50])) ++ u)))) (hr : RunB t 76 (n + 1 + z.length + 3) [] o) : RunA t f n [m12] o := by
  refine cmd_told (e := []) (gs := [.tup [.int 1, .int 1], .tup [.int 2, .int 1]]) hA (by decide) (fun _ => by decide) (blank2 hz) (by simp) (rd12 hb hu) rfl (fun q => absurd q (by decide)) (fun _ => hn.cons (by decide)) ⟨fun q => absurd q (by decide), fun _ => ?_⟩
  have e : n + 1 + z.length + ([49] ++ (b ++ [50])).length + ([] : List Nat).length = n + 1 + z.length + 3 := by
    simp only [List.length_append, List.length_cons, List.length_nil, hb']
  rw [e]
  exact hr
theorem trun3 {ds : List Dr} {la t : List Nat} (h : drOk ds) (hl : Loose ds la t) : RunA (t ++ [77, 49, 32, 50, 120]) true 0 (ds.map Dr.cmd ++ [m12]) (some (t.length + 4)) := by
  refine loose_any h hl (hn.cons (by decide)) fun hA => ?_
  refine toA (x := []) hA (by simp) (hn.cons (by decide)) (fun _ => rfl) ?_
  have hA2 : At (t ++ [77, 49, 32, 50, 120]) (t.length + 4) [120] := hA.adv (x := [77, 49, 32, 50])
  exact run12 (z := []) (b := [32]) (u := [120]) (by decide) (by decide) rfl (hn.cons (by decide)) hA ((Cont.bad (f := false) (la := [76]) (x := []) hA2 (by simp) (by decide) (by decide) fun _ => rfl).2 76 rfl (by decide))
theorem trun4 {ds : List Dr} {la t : List Nat} (h : drOk ds) (hl : Loose ds la t) : RunA (t ++ [77, 32, 49, 32, 50, 32, 44, 122]) true 0 (ds.map Dr.cmd ++ [m12]) (some (t.length + 7)) := by
  refine loose_any h hl (hn.cons (by decide)) fun hA => ?_
  refine toA (x := []) hA (by simp) (hn.cons (by decide)) (fun _ => rfl) ?_
  have hA2 : At (t ++ [77, 32, 49, 32, 50, 32, 44, 122]) (t.length + 5) [32, 44, 122] := hA.adv (x := [77, 32, 49, 32, 50])
  have hA3 : At (t ++ [77, 32, 49, 32, 50, 32, 44, 122]) (t.length + 7) [122] := hA2.adv (x := [32, 44])
  refine run12 (z := [32]) (b := [32]) (u := [32, 44, 122]) (by decide) (by decide) rfl (hn.cons (by decide)) hA ?_
  have es := sepF_comma (x := [32]) (y := []) (u := [122]) hA2 (by decide) (by simp) (hn.cons (by decide))
  have el : looksF (t ++ [77, 32, 49, 32, 50, 32, 44, 122]) (t.length + 7) = false := hasAt_head hA3 (hn.cons (by decide))
  have := RunB.comma (t := t ++ [77, 32, 49, 32, 50, 32, 44, 122]) (l := 76) (n := t.length + 5) hA2.1 (by rw [es]; exact el) (by rw [es])
  rw [es] at this
  exact this
theorem f1 : RunA [32, 32, 76, 49, 32, 50] true 0 [] (some 2) := .go (c := 76) (by decide) rfl (by decide) (.nomove (by decide))
theorem f2 : RunA [] true 0 [] none := .fin (by decide) rfl
theorem f34 {b : List Nat} (hb : b ∈ [[32], [44]]) (hb' : b.length = 1) : RunA ([77] ++ ([] ++ (([49] ++ (b ++ [50])) ++ []))) true 0 [m12] none := by
  have hA := At.zero ([77] ++ ([] ++ (([49] ++ (b ++ [50])) ++ [])))
  refine run12 (z := []) (u := []) (by decide) hb hb' hn.nil hA ?_
  have hA2 : At ([77] ++ ([] ++ (([49] ++ (b ++ [50])) ++ []))) (0 + 1 + 0 + 3) [] := by
    have := hA.adv.adv.adv
    simp only [List.length_append, List.length_cons, List.length_nil, hb'] at this
    exact this
  exact (Cont.end (f := false) (la := [76]) hA2 (by simp) fun _ => rfl).2 76 rfl (by decide)
end Mine
end
section
open PySem PySem.W PySem.Spec PySem.Calls PyProof.Rows
set_option maxRecDepth 100000
namespace Mine
structure NumW (x : List Nat) (p q : Int) : Prop where
  num : Num x p q
  dot : 46 ∈ x → hasAt x (numP x 0) [46] = true
  ex : hasAt x (expPl x) [101, 69] = false
  len : x.length ≤ 12
  last : ∃ c ∈ D, x.getLast? = some c
  no : 43 ∉ x ∧ 32 ∉ x
noncomputable def wrB (x : List Nat) (p : Int) (q : Nat) : Bool :=
  decide (numF x 0 = some ((p, (q : Int)), x.length)) && (hasAt x 0 NB && ((!decide (46 ∈ x) || hasAt x (numP x 0) [46]) && (!hasAt x (expPl x) [101, 69] && (decide (x.length ≤ 12) && ((D.any fun c => decide (x.getLast? = some c)) && ((decide (43 ∉ x) && decide (32 ∉ x))
    && (decide (0 < q) && (decide (q ≤ 1000000) && (decide (p.natAbs ≤ 1000000) && (wdOk p q && decide (0 < x.length)))))))))))
theorem wrB_all : ∀ top ∈ tops, ∀ pl < 4, wrB (shortF (wdF (numPF top pl) (numQF top pl))) (numPF top pl) (numQF top pl) = true := by decide +kernel
theorem wrB_num {x : List Nat} {p : Int} {q : Nat} (h : wrB x p q = true) : NumW x p q ∧ 0 < q ∧ q ≤ 1000000 ∧ p.natAbs ≤ 1000000 ∧ wdOk p q = true ∧ 0 < x.length := by
  unfold wrB at h
  simp only [Bool.and_eq_true, decide_eq_true_eq, Bool.or_eq_true, Bool.not_eq_true', decide_eq_false_iff_not] at h
  obtain ⟨a1, a2, a3, a4, a5, a6, a7, b1, b2, b3, b4, b5⟩ := h
  obtain ⟨c, hc, hl⟩ := List.any_eq_true.mp a6
  exact ⟨⟨⟨a1, a2⟩, fun m => a3.resolve_left (fun n => n m), a4, a5, ⟨c, hc, of_decide_eq_true hl⟩, a7⟩, b1, b2, b3, b4, b5⟩
theorem wr_num {top : Int} {pl : Nat} (h1 : top ∈ tops) (h2 : pl < 4) : NumW (shortF (wdF (numPF top pl) (numQF top pl))) (numPF top pl) (numQF top pl : Nat) ∧ numOk (.tup [.int (numPF top pl), .int (numQF top pl : Nat)]) := by
  obtain ⟨a, b⟩ := wrB_num (wrB_all _ h1 _ h2)
  exact ⟨a, _, _, rfl, b⟩
inductive WItem (arc : Bool) (i : Nat) : V → Prop
  | flag (b : Nat) : b < 2 → flagAt arc i = true → WItem arc i (.int b)
  | num {p : Int} {q : Nat} : flagAt arc i = false → NumW (shortF (wdF p q)) p q → WItem arc i (.tup [.int p, .int q])
theorem Drawn.w {arc : Bool} {i : Nat} {v : V} {t : List Nat} (h : Drawn arc i v t) : WItem arc i v := by
  cases h with
  | flag b hb hf => exact .flag b hb hf
  | num hf h1 h2 h3 => exact .num hf (wr_num h1 h2).1
noncomputable def wx : V → List Nat
  | .tup [.int p, .int q] => shortF (wdF p q.toNat)
  | .int b => [48 + b.toNat]
  | _ => []
noncomputable def wla : V → List Nat
  | .tup [.int p, .int q] => shortF (wdF p q.toNat)
  | _ => []
noncomputable def wsep : V → List Nat → List Nat
  | .tup [.int p, .int q], la => if wantsF la (shortF (wdF p q.toNat)) then [32] else []
  | _, la => if la ≠ [] then [32] else []
noncomputable def wtx : List V → List Nat → List Nat
  | [], _ => []
  | v :: vs, la => wsep v la ++ (wx v ++ wtx vs (wla v))
noncomputable def wlas : List V → List Nat → List Nat
  | [], la => la
  | v :: vs, la => wlas vs (wla v)
inductive WItems (arc : Bool) : Nat → List V → Prop
  | nil {i : Nat} : WItems arc i []
  | cons {i : Nat} {v : V} {vs : List V} : WItem arc i v → WItems arc (i + 1) vs → WItems arc i (v :: vs)
theorem DrawnC.w {arc : Bool} {i : Nat} {vs : List V} {ts : List (List Nat)} (h : DrawnC arc i vs ts) : WItems arc i vs := by
  induction h with
  | nil => exact .nil
  | cons h1 _ ih => exact .cons h1.w ih
theorem WItem.put {arc : Bool} {i : Nat} {v : V} (h : WItem arc i v) (s : Pr) : (putV v s).ps.flatten = s.ps.flatten ++ (wsep v s.la ++ wx v) ∧ (putV v s).l = s.l ∧ (putV v s).la = wla v := by
  cases h with
  | flag b _ _ =>
    refine ⟨?_, rfl, rfl⟩
    show (s.ps ++ ((if s.la ≠ [] then [[32]] else []) ++ [[48 + (b : Int).toNat]])).flatten = s.ps.flatten ++ ((if s.la ≠ [] then [32] else []) ++ [48 + (b : Int).toNat])
    by_cases q : s.la = [] <;> simp [q]
  | @num p q _ _ =>
    refine ⟨?_, rfl, rfl⟩
    show (s.ps ++ ((if wantsF s.la (shortF (wdF p (q : Int).toNat)) then [[32]] else []) ++ [shortF (wdF p (q : Int).toNat)])).flatten = s.ps.flatten ++ ((if wantsF s.la (shortF (wdF p (q : Int).toNat)) then [32] else []) ++ shortF (wdF p (q : Int).toNat))
    rw [Int.toNat_natCast]
    by_cases hq : wantsF s.la (shortF (wdF p q)) = true
    · rw [if_pos hq, if_pos hq]; simp
    · rw [if_neg hq, if_neg hq]; simp
theorem WItems.put {arc : Bool} {i : Nat} {vs : List V} (h : WItems arc i vs) : ∀ s : Pr, (putVs vs s).ps.flatten = s.ps.flatten ++ wtx vs s.la ∧ (putVs vs s).l = s.l ∧ (putVs vs s).la = wlas vs s.la := by
  induction h with
  | nil => intro s; exact ⟨(List.append_nil _).symm, rfl, rfl⟩
  | cons h1 _ ih =>
    intro s
    obtain ⟨a1, a2, a3⟩ := h1.put s
    obtain ⟨b1, b2, b3⟩ := ih (putV _ s)
    refine ⟨?_, b2.trans a2, ?_⟩
    · show (putVs _ (putV _ s)).ps.flatten = _
      rw [b1, a1, a3]; simp only [wtx, List.append_assoc]
    · show (putVs _ (putV _ s)).la = _
      rw [b3, a3]; rfl
noncomputable def laOk (la : List Nat) : Prop := la = [] ∨ ∃ p q, NumW la p q
noncomputable def okW (la u : List Nat) : Prop := la = [] ∨ okR la u
theorem WItem.la {arc : Bool} {i : Nat} {v : V} (h : WItem arc i v) : laOk (wla v) := by
  cases h with
  | flag b _ _ => exact .inl rfl
  | num _ hw => exact .inr ⟨_, _, hw⟩
theorem WItems.la {arc : Bool} {i : Nat} {vs : List V} (h : WItems arc i vs) : ∀ la, laOk la → laOk (wlas vs la) := by
  induction h with
  | nil => exact fun _ h => h
  | cons h1 _ ih => exact fun la _ => ih _ h1.la
theorem okR_w {x u : List Nat} {p q : Int} (h : NumW x p q) (h1 : hn u D) (h2 : hn u [101, 69]) (h3 : hn u [46] ∨ 46 ∈ x) : okR x u :=
  ⟨h1, h2, h3.imp id h.dot, .inr h.ex⟩
theorem wsep_cases (v : V) (la : List Nat) : wsep v la = [] ∨ wsep v la = [32] := by
  unfold wsep
  split <;> split <;> simp
theorem wsep_nil (v : V) : wsep v [] = [] := by
  unfold wsep
  split
  · unfold wantsF; rfl
  · simp
theorem WItem.head {arc : Bool} {i : Nat} {v : V} (h : WItem arc i v) : ∃ c r, wx v = c :: r ∧ c ∈ NB := by
  cases h with
  | flag b hb _ =>
    refine ⟨_, _, rfl, ?_⟩
    have : b = 0 ∨ b = 1 := by omega
    rcases this with rfl | rfl <;> decide
  | num _ h => exact h.num.head
theorem okR_next {arc : Bool} {i : Nat} {v : V} {x w : List Nat} {p q : Int} (h : WItem arc i v) (hx : NumW x p q) : okR x (wsep v x ++ (wx v ++ w)) := by
  have hne : x ≠ [] := by obtain ⟨c, r, e, _⟩ := hx.num.head; rw [e]; simp
  have blank : ∀ w : List Nat, okR x ([32] ++ w) := fun w => okR_loose (hn.cons (by decide))
  cases h with
  | flag b hb hf =>
    have : wsep (.int b) x = [32] := by show (if x ≠ [] then [32] else []) = [32]; rw [if_pos hne]
    rw [this]; exact blank _
  | @num p' q' hf hw =>
    have e1 : wx (.tup [.int p', .int q']) = shortF (wdF p' q') := rfl
    have e2 : wsep (.tup [.int p', .int q']) x = if wantsF x (shortF (wdF p' q')) then [32] else [] := rfl
    rw [e1, e2]
    obtain ⟨c, r, e, hc⟩ := hw.num.head
    rw [e]
    by_cases hq : wantsF x (c :: r) = true
    · rw [if_pos hq]; exact blank _
    · rw [if_neg hq, List.nil_append]
      unfold wantsF at hq
      rw [if_neg hne] at hq
      have hc' : c = 45 ∨ (c = 46 ∧ 46 ∈ x) := by
        by_cases h1 : c = 45
        · exact .inl h1
        · have : (c :: r).take 1 ≠ [45] := by simpa using h1
          rw [if_neg this] at hq
          simp at hq
          exact .inr hq
      rcases hc' with rfl | ⟨rfl, hm⟩
      · exact okR_w hx (hn.cons (by decide)) (hn.cons (by decide)) (.inl (hn.cons (by decide)))
      · exact okR_w hx (hn.cons (by decide)) (hn.cons (by decide)) (.inr hm)
theorem tell_w {arc : Bool} {i : Nat} {v : V} {vs : List V} {u : List Nat} (h : WItem arc i v) (hs : WItems arc (i + 1) vs) (hu : okW (wlas vs (wla v)) u) : Tell arc i (wtx vs (wla v) ++ u) v (wx v) := by
  cases h with
  | flag b hb hf => exact .flag b hb hf
  | @num p q hf hw =>
    refine .num hf hw.num ?_
    have hne : shortF (wdF p q) ≠ [] := by obtain ⟨c, r, e, _⟩ := hw.num.head; rw [e]; simp
    show okR (shortF (wdF p q)) (wtx vs (shortF (wdF p q)) ++ u)
    cases hs with
    | nil => exact hu.resolve_left hne
    | cons h2 _ =>
      unfold wtx
      rw [List.append_assoc, List.append_assoc]
      exact okR_next h2 hw
theorem wsep_seps (v : V) (la : List Nat) : wsep v la ∈ seps := by
  rcases wsep_cases v la with h | h <;> rw [h] <;> decide
theorem rd_w {arc : Bool} {i : Nat} {vs : List V} {u : List Nat} (h : WItems arc i vs) : ∀ la, (i = 0 → la = []) → okW (wlas vs la) u → Rd arc i vs (wtx vs la) u := by
  induction h with
  | nil => exact fun _ _ _ => .nil
  | @cons i v vs h1 h2 ih =>
    intro la h0 hu
    exact Rd.cons (wsep_seps v la) (fun q => by rw [h0 q]; exact wsep_nil v) (tell_w h1 h2 hu) (ih _ (fun q => absurd q (Nat.succ_ne_zero _)) hu)
theorem rd_w0 {arc : Bool} {v : V} {vs : List V} {u la : List Nat} (h : WItems arc 0 (v :: vs)) (hu : okW (wlas (v :: vs) la) u) : Rd arc 0 (v :: vs) (wx v ++ wtx vs (wla v)) u := by
  cases h with
  | cons h1 h2 => exact Rd.cons (b := []) (by decide) (fun _ => rfl) (tell_w h1 h2 hu) (rd_w h2 _ (fun q => absurd q (Nat.succ_ne_zero _)) hu)
end Mine
end
section
open PySem PySem.W PySem.Spec PySem.Calls PyProof.Rows
set_option maxRecDepth 100000
namespace Mine
noncomputable def NoDot (T : List Nat) : Prop := ∀ n, (∀ x ∈ T.drop n, x ∈ DP) → 46 ∉ T.drop n
theorem NoDot.app {T x : List Nat} (h : NoDot T) (hx : 46 ∉ x) : NoDot (T ++ x) := by
  intro n hD hm
  rw [List.drop_append] at hD hm
  rcases List.mem_append.mp hm with q | q
  · exact h n (fun c hc => hD c (List.mem_append_left _ hc)) q
  · exact hx (List.mem_of_mem_drop q)
theorem NoDot.stop {T x : List Nat} {c : Nat} (hc : c ∉ DP) (hx : 46 ∉ x) : NoDot (T ++ c :: x) := by
  intro n hD hm
  by_cases hn : n ≤ T.length
  · refine hc (hD c ?_)
    rw [List.drop_append_of_le_length hn]
    simp
  · rw [List.drop_append, List.drop_of_length_le (by omega), List.nil_append] at hm
    have := List.mem_of_mem_drop hm
    rcases List.mem_cons.mp this with q | q
    · exact hc (by rw [← q]; decide)
    · exact hx q
theorem spaceOk.app {T w : List Nat} {i : Nat} (h : spaceOk T i) : spaceOk (T ++ w) i := by
  obtain ⟨a, b, h0, h1, h2, h3, h4, h5⟩ := h
  have l2 := (List.getElem?_eq_some_iff.mp h2).1
  refine ⟨a, b, h0, ?_, ?_, h3, h4, ?_⟩
  · rw [List.getElem?_append_left (by omega)]; exact h1
  · rw [List.getElem?_append_left l2]; exact h2
  · rw [List.take_append_of_le_length (by omega)]; exact h5
theorem shortOk.app {T x : List Nat} (h : shortOk T) (hx : 32 ∉ x) : shortOk (T ++ x) := by
  intro i hi
  by_cases q : i < T.length
  · rw [List.getElem?_append_left q] at hi
    exact (h i hi).app
  · rw [List.getElem?_append_right (by omega)] at hi
    exact absurd (List.mem_of_getElem? hi) hx
theorem shortOk.blank {T x : List Nat} {a b : Nat} (h : shortOk T) (hl : T.getLast? = some a) (ha : a ∈ D) (hb : b ∈ DP) (hx : 32 ∉ b :: x) (hd : b = 46 → NoDot T) : shortOk (T ++ 32 :: b :: x) := by
  intro i hi
  by_cases q : i < T.length
  · rw [List.getElem?_append_left q] at hi
    exact (h i hi).app
  · by_cases q2 : i = T.length
    · subst q2
      have h0 : 0 < T.length := by
        cases T with
        | nil => cases hl
        | cons c r => simp
      refine ⟨a, b, h0, ?_, ?_, ha, hb, fun e n hn hD => ?_⟩
      · rw [List.getElem?_append_left (by omega), ← List.getLast?_eq_getElem?]; exact hl
      · rw [List.getElem?_append_right (by omega), show T.length + 1 - T.length = 1 by omega]; rfl
      · rw [List.take_left] at hD ⊢
        exact hd e n hD
    · rw [List.getElem?_append_right (by omega)] at hi
      obtain ⟨j, hj⟩ : ∃ j, i - T.length = j + 1 := ⟨i - T.length - 1, by omega⟩
      rw [hj, List.getElem?_cons_succ] at hi
      exact absurd (List.mem_of_getElem? hi) hx
structure Sh (T la : List Nat) : Prop where
  short : shortOk T
  nd : 46 ∉ la → NoDot T
  lst : la ≠ [] → ∃ c ∈ D, T.getLast? = some c
theorem Sh.letter {T la : List Nat} {c : Nat} (h : Sh T la) (hc : c ∈ Le) : Sh (T ++ [c]) [] := by
  have h1 : ∀ c ∈ Le, c ≠ 32 ∧ c ∉ DP := by decide
  obtain ⟨a, b⟩ := h1 c hc
  exact ⟨h.short.app (by simp; exact fun e => a e.symm), fun _ => NoDot.stop b (by simp), fun q => absurd rfl q⟩
theorem Sh.item {arc : Bool} {i : Nat} {v : V} {T la : List Nat} (h : WItem arc i v) (s : Sh T la) : Sh (T ++ (wsep v la ++ wx v)) (wla v) := by
  cases h with
  | flag b hb hf =>
    have hbd : ∃ d, wx (.int b) = [d] ∧ d ∈ D ∧ d ∈ DP ∧ d ≠ 46 ∧ d ≠ 32 := by
      have : b = 0 ∨ b = 1 := by omega
      rcases this with rfl | rfl <;> exact ⟨_, rfl, by decide, by decide, by decide, by decide⟩
    obtain ⟨d, e1, d1, d2, d3, d4⟩ := hbd
    have e2 : wsep (.int b) la = if la ≠ [] then [32] else [] := rfl
    have e3 : wla (.int b) = [] := rfl
    rw [e1, e2, e3]
    by_cases q : la = []
    · rw [if_neg (by simp [q]), List.nil_append]
      refine ⟨s.short.app (by simp; exact fun e => d4 e.symm), fun _ => (s.nd (by rw [q]; simp)).app (by simp; exact fun e => d3 e.symm), fun q => absurd rfl q⟩
    · rw [if_pos q]
      obtain ⟨a, ha, hl⟩ := s.lst q
      refine ⟨s.short.blank hl ha d2 (by simp; exact fun e => d4 e.symm) (fun e => absurd e d3), fun _ => NoDot.stop (x := [d]) (by decide) (by simp; exact fun e => d3 e.symm), fun q => absurd rfl q⟩
  | @num p q hf hw =>
    have e1 : wx (.tup [.int p, .int q]) = shortF (wdF p q) := rfl
    have e2 : wsep (.tup [.int p, .int q]) la = if wantsF la (shortF (wdF p q)) then [32] else [] := rfl
    have e3 : wla (.tup [.int p, .int q]) = shortF (wdF p q) := rfl
    rw [e1, e2, e3]
    generalize shortF (wdF p q) = x at hw
    obtain ⟨c, r, e, hc⟩ := hw.num.head
    obtain ⟨z, hz, hzl⟩ := hw.last
    have hne : x ≠ [] := by rw [e]; simp
    have hlast : ∀ A : List Nat, (A ++ x).getLast? = some z := fun A => by
      rw [List.getLast?_append, hzl]; rfl
    by_cases q : wantsF la x = true
    · rw [if_pos q]
      have hla : la ≠ [] := fun e => by rw [e] at q; cases q
      obtain ⟨a, ha, hl⟩ := s.lst hla
      unfold wantsF at q
      rw [if_neg hla] at q
      by_cases h45 : x.take 1 = [45]
      · rw [if_pos h45] at q; cases q
      · rw [if_neg h45] at q
        subst e
        have hc45 : c ≠ 45 := by simpa using h45
        have hc43 : c ≠ 43 := fun e => hw.no.1 (by rw [e]; simp)
        have hcD : c ∈ DP := by
          have : ∀ c ∈ NB, c ≠ 45 → c ≠ 43 → c ∈ DP := by decide
          exact this c hc hc45 hc43
        have hdot : c = 46 → NoDot T := fun e => s.nd (fun m => by rw [e] at q; simp [m] at q)
        refine ⟨s.short.blank hl ha hcD hw.no.2 hdot, fun m => NoDot.stop (by decide) m, fun _ => ⟨z, hz, ?_⟩⟩
        have := hlast (T ++ [32])
        rw [List.append_assoc] at this
        exact this
    · rw [if_neg q, List.nil_append]
      refine ⟨s.short.app hw.no.2, fun m => ?_, fun _ => ⟨z, hz, hlast T⟩⟩
      by_cases hla : la = []
      · exact (s.nd (by rw [hla]; simp)).app m
      · unfold wantsF at q
        rw [if_neg hla] at q
        by_cases h45 : x.take 1 = [45]
        · subst e
          have hc45 : c = 45 := by simpa using h45
          subst hc45
          exact NoDot.stop (by decide) fun q => m (by simp [q])
        · rw [if_neg h45] at q
          simp at q
          subst e
          have : c = 46 := by simpa using q.1
          exact absurd (by rw [this]; simp) m
theorem Sh.items {arc : Bool} {i : Nat} {vs : List V} (h : WItems arc i vs) : ∀ {T la : List Nat}, Sh T la → Sh (T ++ wtx vs la) (wlas vs la) := by
  induction h with
  | nil => intro T la s; show Sh (T ++ []) la; rw [List.append_nil]; exact s
  | cons h1 _ ih =>
    intro T la s
    have := ih (s.item h1)
    show Sh (T ++ (wsep _ la ++ (wx _ ++ wtx _ _))) _
    rw [← List.append_assoc (wsep _ la), ← List.append_assoc]
    exact this
theorem wtx_len {arc : Bool} {i : Nat} {vs : List V} (h : WItems arc i vs) : ∀ la, (wtx vs la).length ≤ 13 * vs.length := by
  induction h with
  | nil => exact fun _ => Nat.le_refl _
  | @cons i v vs h1 _ ih =>
    intro la
    have h2 := ih (wla v)
    have h3 : (wsep v la).length ≤ 1 := by rcases wsep_cases v la with h | h <;> rw [h] <;> simp
    have h4 : (wx v).length ≤ 12 := by
      cases h1 with
      | flag b _ _ => show [48 + (b : Int).toNat].length ≤ 12; simp
      | num _ hw => exact hw.len
    show (wsep v la ++ (wx v ++ wtx vs (wla v))).length ≤ 13 * (vs.length + 1)
    simp only [List.length_append]
    omega
end Mine
end
section
open PySem PySem.W PySem.Spec PySem.Calls PyProof.Rows
set_option maxRecDepth 100000
namespace Mine
theorem snoc_ind {α : Type} {P : List α → Prop} (h0 : P []) (h1 : ∀ l a, P l → P (l ++ [a])) (l : List α) : P l := by
  have : ∀ r : List α, P r.reverse := by
    intro r
    induction r with
    | nil => exact h0
    | cons a r ih => rw [List.reverse_cons]; exact h1 _ _ ih
  have h := this l.reverse
  rw [List.reverse_reverse] at h
  exact h
noncomputable def prOf (ds : List Dr) : Pr := putCs (ds.map Dr.cmd) ⟨[], [], []⟩
theorem prOf_snoc (ds : List Dr) (d : Dr) : prOf (ds ++ [d]) = putVs d.gs (putL d.c (prOf ds)) := by
  unfold prOf
  rw [List.map_append]
  exact putCs_app _ _ _
structure Inv (ds : List Dr) (s : Pr) : Prop where
  l : s.l = [] ∨ ∃ c, c ∈ Le ∧ c ∉ [90, 122] ∧ s.l = [behF c]
  l0 : ds = [] → s.l = []
  la : laOk s.la
  len : s.ps.flatten.length ≤ 100 * ds.length
  sh : Sh s.ps.flatten s.la
  read : ∀ (t u : List Nat) (vs : List V) (o : Option Nat), At t 0 (s.ps.flatten ++ u) → okW s.la u → Cont t (decide (ds.length = 0)) s.l s.ps.flatten.length vs o → RunA t true 0 (ds.map Dr.cmd ++ vs) o
theorem beh_beh : ∀ c ∈ Le, c ∉ [90, 122] → behF (behF c) = behF c ∧ behF c ∉ [90, 122] := by decide
theorem After.of2 {t : List Nat} {c n : Nat} {vs : List V} {o : Option Nat} (hc : c ∈ Le) (h : Cont t false (if c ∈ [90, 122] then [] else [behF c]) n vs o) : After t c n vs o := by
  refine ⟨fun q => h.1 ?_, fun q => h.2 _ ?_ ((beh_z c hc).2 q)⟩
  · rw [if_pos q]; exact .inl rfl
  · rw [if_neg q]
theorem inv_nil : Inv [] (prOf []) := by
  refine ⟨.inl rfl, fun _ => rfl, .inl rfl, Nat.zero_le _, ⟨fun i h => ?_, fun _ n _ h => ?_, fun h => absurd rfl h⟩, ?_⟩
  · change ([] : List Nat)[i]? = some 32 at h; simp at h
  · change 46 ∈ ([] : List Nat).drop n at h; simp at h
  · intro t u vs o hA _ hc
    exact hc.1 (.inl rfl)
theorem okW_of {la u : List Nat} (h : hn u LX) : okW la u := .inr (okR_loose h)
theorem inv_snoc {ds : List Dr} {d : Dr} (hd : d.ok) (hf : ds = [] → d.c ∈ [77, 109]) (h : Inv ds (prOf ds)) : Inv (ds ++ [d]) (prOf (ds ++ [d])) := by
  obtain ⟨hc, hdr, hm⟩ := hd
  have hW := hdr.toC.w
  rw [prOf_snoc]
  generalize prOf ds = s at h ⊢
  have hm7 : manyF d.c ≤ 7 := by
    have : ∀ c ∈ Le, manyF c ≤ 7 := by decide
    exact this _ hc
  have e0 : decide ((ds ++ [d]).length = 0) = false := by simp
  have hl : (putL d.c s).l = if d.c ∈ [90, 122] then [] else [behF d.c] := by
    unfold putL; split <;> rfl
  obtain ⟨a1, a2, a3⟩ := hW.put (putL d.c s)
  have hlz : (putVs d.gs (putL d.c s)).l = [] ∨ ∃ c, c ∈ Le ∧ c ∉ [90, 122] ∧ (putVs d.gs (putL d.c s)).l = [behF c] := by
    rw [a2, hl]
    by_cases q : d.c ∈ [90, 122]
    · rw [if_pos q]; exact .inl rfl
    · rw [if_neg q]; exact .inr ⟨_, hc, q, rfl⟩
  have hgz : d.c ∈ [90, 122] → d.gs = [] := fun q => by
    have := many_z _ q
    rw [this] at hm
    exact List.length_eq_zero_iff.mp hm
  have hgn : d.c ∉ [90, 122] → ∃ v vs, d.gs = v :: vs := fun q => by
    have := many_pos _ hc q
    cases e : d.gs with
    | nil => rw [e] at hm; simp at hm; omega
    | cons v vs => exact ⟨v, vs, rfl⟩
  by_cases q : [d.c] ≠ s.l ∨ d.c ∈ [90, 122]
  · have hp : (putL d.c s).ps.flatten = s.ps.flatten ++ [d.c] := by
      unfold putL; rw [if_pos q]; simp
    have hpa : (putL d.c s).la = [] := by unfold putL; rw [if_pos q]
    rw [hp, hpa] at a1
    rw [hpa] at a3
    refine ⟨hlz, fun e => by simp at e, ?_, ?_, ?_, ?_⟩
    · rw [a3]; exact hW.la _ (.inl rfl)
    · have := wtx_len hW []
      have := h.len
      rw [a1]
      simp only [List.length_append, List.length_cons, List.length_nil]
      omega
    · rw [a1, a3]; exact Sh.items hW (h.sh.letter hc)
    · intro t u vs o hA hu hcont
      rw [a1, List.append_assoc, List.append_assoc] at hA
      rw [a3] at hu
      rw [e0, a2, hl] at hcont
      rw [List.map_append, List.append_assoc]
      refine h.read t ([d.c] ++ (wtx d.gs [] ++ u)) (d.cmd :: vs) o hA (okW_of (hn.cons (Le_LX _ hc))) ?_
      have hA2 := hA.adv
      rw [Nat.zero_add] at hA2
      have hg : Rd (arcF d.c) 0 d.gs (wtx d.gs []) ([] ++ u) := rd_w hW [] (fun _ => rfl) hu
      refine toA (x := []) hA2 (by simp) (hn.cons (Le_no _ hc)) (fun e => ?_) (cmd_told (z := []) (e := []) hA2 hc (fun e => ?_) (by simp) (by simp) hg hm (fun e => ?_) (fun e => ?_) (After.of2 hc ?_))
      · have : ds ≠ [] := fun e2 => e (h.l0 e2)
        simp [this]
      · exact hf (List.length_eq_zero_iff.mp (by simpa using e))
      · rw [hgz e]; exact ⟨rfl, rfl⟩
      · obtain ⟨v, vs', e2⟩ := hgn e
        rw [e2] at hW ⊢
        cases hW with
        | cons w1 w2 =>
          obtain ⟨c', r', e3, hc'⟩ := w1.head
          unfold wtx
          rw [wsep_nil, e3]
          exact hn.cons fun q2 => NB_no c' hc' (by simp only [List.mem_append]; exact .inl q2)
      · rw [a1] at hcont
        have e5 : (s.ps.flatten ++ [d.c] ++ wtx d.gs []).length = s.ps.flatten.length + 1 + ([] : List Nat).length + (wtx d.gs []).length + ([] : List Nat).length := by
          simp only [List.length_append, List.length_cons, List.length_nil]; omega
        rw [e5] at hcont
        exact hcont
  · have q1 : [d.c] = s.l := by
      by_cases e : [d.c] = s.l
      · exact e
      · exact absurd (.inl e) q
    have q2 : d.c ∉ [90, 122] := fun e => q (.inr e)
    have hp : (putL d.c s).ps.flatten = s.ps.flatten := by unfold putL; rw [if_neg q]
    have hpa : (putL d.c s).la = s.la := by unfold putL; rw [if_neg q]
    rw [hp, hpa] at a1
    rw [hpa] at a3
    have hbe : behF d.c = d.c := by
      rcases h.l with e | ⟨c, h1, h2, e⟩
      · rw [e] at q1; cases q1
      · rw [e] at q1; rw [(List.cons.inj q1).1]; exact (beh_beh c h1 h2).1
    have hds : ds ≠ [] := fun e => by
      have := h.l0 e
      rw [this] at q1; cases q1
    obtain ⟨v, vs', egs⟩ := hgn q2
    refine ⟨hlz, fun e => by simp at e, ?_, ?_, ?_, ?_⟩
    · rw [a3]; exact hW.la _ h.la
    · have := wtx_len hW s.la
      have := h.len
      rw [a1]
      simp only [List.length_append, List.length_cons, List.length_nil]
      omega
    · rw [a1, a3]; exact Sh.items hW h.sh
    · intro t u vs o hA hu hcont
      rw [a1, List.append_assoc] at hA
      rw [a3] at hu
      rw [e0, a2, hl, if_neg q2] at hcont
      rw [List.map_append, List.append_assoc]
      rw [egs] at hW
      have hokw : okW s.la (wtx d.gs s.la ++ u) := by
        rw [egs]
        unfold wtx
        rw [List.append_assoc, List.append_assoc]
        rcases h.la with e | ⟨p, q, hw⟩
        · exact .inl e
        · cases hW with
          | cons w1 _ => exact .inr (okR_next w1 hw)
      refine h.read t (wtx d.gs s.la ++ u) (d.cmd :: vs) o hA hokw ?_
      have hA2 := hA.adv
      rw [Nat.zero_add] at hA2
      have ew : wtx d.gs s.la = wsep v s.la ++ (wx v ++ wtx vs' (wla v)) := by rw [egs]; rfl
      have hA3 : At t s.ps.flatten.length (wsep v s.la ++ ((wx v ++ wtx vs' (wla v)) ++ ([] ++ u))) := by
        rw [ew, List.append_assoc] at hA2; exact hA2
      rw [egs] at hu
      have hg : Rd (arcF d.c) 0 d.gs (wx v ++ wtx vs' (wla v)) ([] ++ u) := by rw [egs]; exact rd_w0 hW hu
      refine cmd_quiet hA3 (wsep_seps v s.la) q1.symm q2 hbe (by simp) hg hm ?_ ?_
      · cases hW with
        | cons w1 _ =>
          obtain ⟨c', r', e3, hc'⟩ := w1.head
          rw [e3]
          exact ⟨c', _, rfl, hc'⟩
      · refine ⟨fun e => absurd e q2, fun _ => ?_⟩
        have e5 : (s.ps.flatten ++ wtx d.gs s.la).length = s.ps.flatten.length + (wsep v s.la).length + (wx v ++ wtx vs' (wla v)).length + ([] : List Nat).length := by
          rw [ew]; simp only [List.length_append, List.length_nil]; omega
        rw [a1, e5] at hcont
        exact hcont.2 _ rfl (by rw [hbe]; exact q2)
theorem inv_all (ds : List Dr) : (∀ d ∈ ds, d.ok) → (∀ d r, ds = d :: r → d.c ∈ [77, 109]) → Inv ds (prOf ds) := by
  induction ds using snoc_ind with
  | h0 => exact fun _ _ => inv_nil
  | h1 l a ih =>
    intro hok hf
    refine inv_snoc (hok a (by simp)) (fun e => ?_) (ih (fun d hd => hok d (by simp [hd])) fun d r e => hf d (r ++ [a]) (by rw [e]; rfl))
    subst e
    exact hf a [] rfl
theorem drOk.inv {ds : List Dr} (h : drOk ds) : Inv ds (prOf ds) := inv_all ds h.1 h.fst
theorem Drawn.item {arc : Bool} {i : Nat} {v : V} {t : List Nat} (h : Drawn arc i v t) : itemOk arc i v ∧ isItem v = true := by
  cases h with
  | flag b hb hf => exact ⟨by unfold itemOk; rw [if_pos hf]; exact ⟨b, hb, rfl⟩, rfl⟩
  | num hf h1 h2 h3 => exact ⟨by unfold itemOk; rw [if_neg (by rw [hf]; simp)]; exact (wr_num h1 h2).2, rfl⟩
theorem DrawnC.items {arc : Bool} {i : Nat} {vs : List V} {ts : List (List Nat)} (h : DrawnC arc i vs ts) : (∀ j v, vs[j]? = some v → itemOk arc (i + j) v) ∧ vs.all isItem = true := by
  induction h with
  | nil => exact ⟨fun j v h => by simp at h, rfl⟩
  | cons h1 _ ih =>
    refine ⟨fun j v h => ?_, by rw [List.all_cons, h1.item.2, ih.2]; rfl⟩
    cases j with
    | zero => simp at h; subst h; exact h1.item.1
    | succ j =>
      have := ih.1 j v (by simpa using h)
      rw [show ∀ i : Nat, i + (j + 1) = i + 1 + j from fun i => by omega]
      exact this
theorem facts : Facts where
  cmds := fun ds h => by
    refine ⟨fun v hv => ?_, ?_⟩
    · obtain ⟨d, hd, rfl⟩ := List.mem_map.mp hv
      obtain ⟨hc, hdr, hm⟩ := h.1 d hd
      have hm7 : manyF d.c ≤ 7 := by
        have : ∀ c ∈ Le, manyF c ≤ 7 := by decide
        exact this _ hc
      refine ⟨d.c, d.gs, rfl, by omega, fun i v hv => ?_⟩
      have := hdr.toC.items.1 i v hv
      rw [Nat.zero_add] at this
      exact this
    · rw [List.all_eq_true]
      intro v hv
      obtain ⟨d, hd, rfl⟩ := List.mem_map.mp hv
      obtain ⟨hc, hdr, hm⟩ := h.1 d hd
      show (decide (d.c < 128) && d.gs.all isItem) = true
      rw [hdr.toC.items.2, decide_eq_true (Le_small hc)]; rfl
  wlen := fun ds h => by
    have := h.inv.len
    have h2 := h.2.1
    show (prOf ds).ps.flatten.length ≤ _
    omega
  wrun := fun ds h => by
    have hA := At.zero (prOf ds).ps.flatten
    have := h.inv.read (prOf ds).ps.flatten [] [] none (by rw [List.append_nil]; exact hA) (okW_of hn.nil)
    rw [List.append_nil] at this
    refine this (Cont.end (x := []) ?_ (by simp) fun e => ?_)
    · have := At.adv (x := (prOf ds).ps.flatten) (u := []) (t := (prOf ds).ps.flatten) (n := 0) (by rw [List.append_nil]; exact hA)
      rw [Nat.zero_add] at this
      exact this
    · exact h.ne
  wshort := fun ds h => h.inv.sh.short
  lrun := fun ds la t h hl => Mine.lrun h hl
  trun1 := fun ds la t h hl => Mine.trun1 h hl (by decide)
  trun2 := fun ds la t h hl => Mine.trun1 h hl (by decide)
  trun3 := fun ds la t h hl => Mine.trun3 h hl
  trun4 := fun ds la t h hl => Mine.trun4 h hl
  f1 := Mine.f1
  f2 := Mine.f2
  f3 := Mine.f34 (b := [32]) (by decide) rfl
  f4 := Mine.f34 (b := [44]) (by decide) rfl
theorem done : PySem.Challenge.rw_nu0032_01.Holds := holds facts
end Mine
end
theorem PySem.Challenge.cw_nu0032_01_holds : PySem.Challenge.rw_nu0032_01.Holds :=
  Mine.done
